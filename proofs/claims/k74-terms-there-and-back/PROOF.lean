import PyProof.Rows.All
import Wide.All
import OpenK.AllK
import Wide.FinOn
import HandS.ForMost
import HandS.ForExc
import HandS.Wide
import HandS.TupAny
import HandS.IsInst
import HandS.Style
import HandS.Conv
import HandS.Deep
import HandS.More
import HandS.WordsExc
import KE.GoesEnum
import HandS.Zip
import HandS.Remove
import HandS.ExcValue
import HandS.ExcInit
import HandS.ExcIs
import HandS.ExcField
import HandS.ExcOwn
import KE.KExcIs
import HandS.Sort
import HandS.SortRule
import HandS.SortInts
import HandS.Rev
import HandS.Codes
import KE.KDictList
import PyProof.Rows.StrMeet
import PyProof.Rows.StrInSeq3
import KE.GoesNew
import KE.GoesMore
import HandS.RaiseMore
import PySem.Challenge.RW_manydeeds_k74_terms_there_and_back
set_option Elab.async false
set_option linter.all false
set_option maxRecDepth 100000
/-! DL1: data D, owned data OD, how a heap bears them. -/
namespace DL
open PySem L2

/-- an exception object of the class cls with the dict d, once caught -/
def keptX (cls : Value) (d : Option Addr) (a : Addr) : HO := .ext fun h => ∃ (oe : Obj) (vs : Array Value), h.get? a = some oe ∧ Zc cls d oe ∧ oe.data = .fields vs
/-- data that stands still -/
inductive D where
  | v (x : V)
  | tup (ds : List D)
  | wtp (ds : List D)
  | lst (ds : List D)
  | wls (ds : List D)
  | dic (kvs : List (Key × D))
  | dct (kvs : List (List Key × D))
  | ins (c : Nat) (fs : List (Str × D))
  | exc (c : Nat) (fs : List (Str × D))
/-- data of one owner: fz is frozen -/
inductive OD where
  | gone
  | fz (d : D)
  | tup (xs : List OD)
  | lst (xs : List OD)
  | dic (kvs : List (Key × OD))
  | dct (kvs : List (List Key × OD))
  | ins (c : Nat) (fs : List (Str × OD))

mutual
@[simp] def OD.toD : OD → D
  | .gone => .v .non
  | .fz d => d
  | .tup xs => .tup (toDs xs)
  | .lst xs => .lst (toDs xs)
  | .dic kvs => .dic (toDk kvs)
  | .dct kvs => .dct (toDt kvs)
  | .ins c fs => .ins c (toDa fs)
@[simp] def toDs : List OD → List D
  | [] => []
  | x :: xs => x.toD :: toDs xs
@[simp] def toDk : List (Key × OD) → List (Key × D)
  | [] => []
  | (k, x) :: xs => (k, x.toD) :: toDk xs
@[simp] def toDt : List (List Key × OD) → List (List Key × D)
  | [] => []
  | (k, x) :: xs => (k, x.toD) :: toDt xs
@[simp] def toDa : List (Str × OD) → List (Str × D)
  | [] => []
  | (k, x) :: xs => (k, x.toD) :: toDa xs
end

def notRef : V → Prop
  | .ref _ => False
  | _ => True

section
variable (K : PySem.W.Frag) (cl : Nat → Addr) (F : Hp)
mutual
def Rep : D → V → Prop
  | .v x, u => u = x ∧ notRef x
  | .tup ds, u => ∃ a vs, u = .ref a ∧ F a = some (.tup vs) ∧ Reps ds vs
  | .wtp ds, u => ∃ a vs, u = .ref a ∧ SqT K F a vs ∧ Reps ds vs
  | .lst ds, u => ∃ a vs, u = .ref a ∧ F a = some (.lst vs) ∧ Reps ds vs
  | .wls ds, u => ∃ a vs, u = .ref a ∧ SqL K F a vs ∧ Reps ds vs
  | .dic kvs, u => ∃ a vs, u = .ref a ∧ F a = some (.dK vs) ∧ RepK kvs vs
  | .dct kvs, u => ∃ a vs, u = .ref a ∧ F a = some (.dT vs) ∧ RepT kvs vs
  | .ins c fs, u => ∃ a dx vs, u = .ref a ∧ F a = some (.ins (cl c) dx vs) ∧ RepA fs vs
  | .exc c fs, u => ∃ a d vs, u = .ref a ∧ F a = some (keptX (.ref (cl c)) d a) ∧ ((fs = [] ∧ d = none) ∨ ∃ dx, d = some dx ∧ F dx = some (.xd vs)) ∧ RepA fs vs
def Reps : List D → List V → Prop
  | [], vs => vs = []
  | d :: ds, vs => ∃ u us, vs = u :: us ∧ Rep d u ∧ Reps ds us
def RepK : List (Key × D) → List (Key × V) → Prop
  | [], vs => vs = []
  | (k, d) :: ds, vs => ∃ u us, vs = (k, u) :: us ∧ Rep d u ∧ RepK ds us
def RepT : List (List Key × D) → List (List Key × V) → Prop
  | [], vs => vs = []
  | (k, d) :: ds, vs => ∃ u us, vs = (k, u) :: us ∧ Rep d u ∧ RepT ds us
def RepA : List (Str × D) → List (Str × V) → Prop
  | [], vs => vs = []
  | (k, d) :: ds, vs => ∃ u us, vs = (k, u) :: us ∧ Rep d u ∧ RepA ds us
end
variable (H : Hp)
mutual
/-- o stands at v, its own objects are at A -/
def Own : OD → V → List Addr → Prop
  | .gone, _, _ => False
  | .fz d, v, A => A = [] ∧ Rep K cl F d v
  | .tup xs, v, A => ∃ p vs, v = .ref p ∧ F p = some (.tup vs) ∧ Owns xs vs A
  | .lst xs, v, A => ∃ p vs B, v = .ref p ∧ A = p :: B ∧ F p = none ∧ H p = some (.lst vs) ∧ Owns xs vs B
  | .dic kvs, v, A => ∃ p vs B, v = .ref p ∧ A = p :: B ∧ F p = none ∧ H p = some (.dK vs) ∧ OwnK kvs vs B
  | .dct kvs, v, A => ∃ p vs B, v = .ref p ∧ A = p :: B ∧ F p = none ∧ H p = some (.dT vs) ∧ OwnT kvs vs B
  | .ins c fs, v, A => ∃ p dx vs B, v = .ref p ∧ A = p :: B ∧ F p = none ∧ H p = some (.ins (cl c) dx vs) ∧ OwnA fs vs B
def Owns : List OD → List V → List Addr → Prop
  | [], vs, A => vs = [] ∧ A = []
  | o :: os, vs, A => ∃ u us A1 A2, vs = u :: us ∧ A = A1 ++ A2 ∧ Own o u A1 ∧ Owns os us A2
def OwnK : List (Key × OD) → List (Key × V) → List Addr → Prop
  | [], vs, A => vs = [] ∧ A = []
  | (k, o) :: os, vs, A => ∃ u us A1 A2, vs = (k, u) :: us ∧ A = A1 ++ A2 ∧ Own o u A1 ∧ OwnK os us A2
def OwnT : List (List Key × OD) → List (List Key × V) → List Addr → Prop
  | [], vs, A => vs = [] ∧ A = []
  | (k, o) :: os, vs, A => ∃ u us A1 A2, vs = (k, u) :: us ∧ A = A1 ++ A2 ∧ Own o u A1 ∧ OwnT os us A2
def OwnA : List (Str × OD) → List (Str × V) → List Addr → Prop
  | [], vs, A => vs = [] ∧ A = []
  | (k, o) :: os, vs, A => ∃ u us A1 A2, vs = (k, u) :: us ∧ A = A1 ++ A2 ∧ Own o u A1 ∧ OwnA os us A2
end
end

/-- F says no more -/
def Le (F F' : Hp) : Prop := ∀ a o, F a = some o → F' a = some o
theorem Le.refl (F : Hp) : Le F F := fun _ _ h => h
theorem Le.trans {F F1 F2 : Hp} (a : Le F F1) (b : Le F1 F2) : Le F F2 := fun x o h => b x o (a x o h)

section
variable {K : PySem.W.Frag} {cl : Nat → Addr} {F F' H H' : Hp}
theorem Le.sqL {a : Addr} {xs : List V} (h : Le F F') (q : SqL K F a xs) : SqL K F' a xs := by
  rcases q with (q | ⟨o, q⟩) | q
  · exact .inl (.inl (h _ _ q))
  · exact .inl (.inr ⟨o, h _ _ q⟩)
  · exact .inr q
theorem Le.sqT {a : Addr} {xs : List V} (h : Le F F') (q : SqT K F a xs) : SqT K F' a xs := by
  rcases q with (q | ⟨o, q⟩) | q
  · exact .inl (.inl (h _ _ q))
  · exact .inl (.inr ⟨o, h _ _ q⟩)
  · exact .inr q
mutual
theorem rep_mono (h : Le F F') : ∀ (d : D) (v : V), Rep K cl F d v → Rep K cl F' d v
  | .v x, u, r => r
  | .tup ds, u, ⟨a, vs, e, q, r⟩ => ⟨a, vs, e, h _ _ q, reps_mono h ds vs r⟩
  | .wtp ds, u, ⟨a, vs, e, q, r⟩ => ⟨a, vs, e, h.sqT q, reps_mono h ds vs r⟩
  | .lst ds, u, ⟨a, vs, e, q, r⟩ => ⟨a, vs, e, h _ _ q, reps_mono h ds vs r⟩
  | .wls ds, u, ⟨a, vs, e, q, r⟩ => ⟨a, vs, e, h.sqL q, reps_mono h ds vs r⟩
  | .dic ds, u, ⟨a, vs, e, q, r⟩ => ⟨a, vs, e, h _ _ q, repK_mono h ds vs r⟩
  | .dct ds, u, ⟨a, vs, e, q, r⟩ => ⟨a, vs, e, h _ _ q, repT_mono h ds vs r⟩
  | .ins c ds, u, ⟨a, dx, vs, e, q, r⟩ => ⟨a, dx, vs, e, h _ _ q, repA_mono h ds vs r⟩
  | .exc c ds, u, ⟨a, d, vs, e, q, z, r⟩ => ⟨a, d, vs, e, h _ _ q, z.imp id fun ⟨dx, e1, e2⟩ => ⟨dx, e1, h _ _ e2⟩, repA_mono h ds vs r⟩
theorem reps_mono (h : Le F F') : ∀ (ds : List D) (vs : List V), Reps K cl F ds vs → Reps K cl F' ds vs
  | [], _, r => r
  | d :: ds, _, ⟨u, us, e, r, q⟩ => ⟨u, us, e, rep_mono h d u r, reps_mono h ds us q⟩
theorem repK_mono (h : Le F F') : ∀ (ds : List (Key × D)) (vs : List (Key × V)), RepK K cl F ds vs → RepK K cl F' ds vs
  | [], _, r => r
  | (k, d) :: ds, _, ⟨u, us, e, r, q⟩ => ⟨u, us, e, rep_mono h d u r, repK_mono h ds us q⟩
theorem repT_mono (h : Le F F') : ∀ (ds : List (List Key × D)) (vs : List (List Key × V)), RepT K cl F ds vs → RepT K cl F' ds vs
  | [], _, r => r
  | (k, d) :: ds, _, ⟨u, us, e, r, q⟩ => ⟨u, us, e, rep_mono h d u r, repT_mono h ds us q⟩
theorem repA_mono (h : Le F F') : ∀ (ds : List (Str × D)) (vs : List (Str × V)), RepA K cl F ds vs → RepA K cl F' ds vs
  | [], _, r => r
  | (k, d) :: ds, _, ⟨u, us, e, r, q⟩ => ⟨u, us, e, rep_mono h d u r, repA_mono h ds us q⟩
end
-- owned data stays where its own objects stay, and stay unfrozen
mutual
theorem own_mono (h : Le F F') : ∀ (o : OD) (v : V) (A : List Addr), (∀ a ∈ A, F' a = none ∧ ∀ x, H a = some x → H' a = some x) → Own K cl F H o v A → Own K cl F' H' o v A
  | .gone, _, _, _, r => r
  | .fz d, v, A, k, ⟨e, r⟩ => ⟨e, rep_mono h d v r⟩
  | .tup xs, v, A, k, ⟨p, vs, e, q, r⟩ => ⟨p, vs, e, h _ _ q, owns_mono h xs vs A k r⟩
  | .lst xs, v, A, k, ⟨p, vs, B, e, eA, f, q, r⟩ => ⟨p, vs, B, e, eA, (k p (by rw [eA]; exact List.mem_cons_self)).1, (k p (by rw [eA]; exact List.mem_cons_self)).2 _ q, owns_mono h xs vs B (fun a ha => k a (by rw [eA]; exact List.mem_cons_of_mem _ ha)) r⟩
  | .dic xs, v, A, k, ⟨p, vs, B, e, eA, f, q, r⟩ => ⟨p, vs, B, e, eA, (k p (by rw [eA]; exact List.mem_cons_self)).1, (k p (by rw [eA]; exact List.mem_cons_self)).2 _ q, ownK_mono h xs vs B (fun a ha => k a (by rw [eA]; exact List.mem_cons_of_mem _ ha)) r⟩
  | .dct xs, v, A, k, ⟨p, vs, B, e, eA, f, q, r⟩ => ⟨p, vs, B, e, eA, (k p (by rw [eA]; exact List.mem_cons_self)).1, (k p (by rw [eA]; exact List.mem_cons_self)).2 _ q, ownT_mono h xs vs B (fun a ha => k a (by rw [eA]; exact List.mem_cons_of_mem _ ha)) r⟩
  | .ins c xs, v, A, k, ⟨p, dx, vs, B, e, eA, f, q, r⟩ => ⟨p, dx, vs, B, e, eA, (k p (by rw [eA]; exact List.mem_cons_self)).1, (k p (by rw [eA]; exact List.mem_cons_self)).2 _ q, ownA_mono h xs vs B (fun a ha => k a (by rw [eA]; exact List.mem_cons_of_mem _ ha)) r⟩
theorem owns_mono (h : Le F F') : ∀ (os : List OD) (vs : List V) (A : List Addr), (∀ a ∈ A, F' a = none ∧ ∀ x, H a = some x → H' a = some x) → Owns K cl F H os vs A → Owns K cl F' H' os vs A
  | [], _, _, _, r => r
  | o :: os, vs, A, k, ⟨u, us, A1, A2, e, eA, r, q⟩ => ⟨u, us, A1, A2, e, eA, own_mono h o u A1 (fun a ha => k a (by rw [eA]; exact List.mem_append_left _ ha)) r, owns_mono h os us A2 (fun a ha => k a (by rw [eA]; exact List.mem_append_right _ ha)) q⟩
theorem ownK_mono (h : Le F F') : ∀ (os : List (Key × OD)) (vs : List (Key × V)) (A : List Addr), (∀ a ∈ A, F' a = none ∧ ∀ x, H a = some x → H' a = some x) → OwnK K cl F H os vs A → OwnK K cl F' H' os vs A
  | [], _, _, _, r => r
  | (_, o) :: os, vs, A, k, ⟨u, us, A1, A2, e, eA, r, q⟩ => ⟨u, us, A1, A2, e, eA, own_mono h o u A1 (fun a ha => k a (by rw [eA]; exact List.mem_append_left _ ha)) r, ownK_mono h os us A2 (fun a ha => k a (by rw [eA]; exact List.mem_append_right _ ha)) q⟩
theorem ownT_mono (h : Le F F') : ∀ (os : List (List Key × OD)) (vs : List (List Key × V)) (A : List Addr), (∀ a ∈ A, F' a = none ∧ ∀ x, H a = some x → H' a = some x) → OwnT K cl F H os vs A → OwnT K cl F' H' os vs A
  | [], _, _, _, r => r
  | (_, o) :: os, vs, A, k, ⟨u, us, A1, A2, e, eA, r, q⟩ => ⟨u, us, A1, A2, e, eA, own_mono h o u A1 (fun a ha => k a (by rw [eA]; exact List.mem_append_left _ ha)) r, ownT_mono h os us A2 (fun a ha => k a (by rw [eA]; exact List.mem_append_right _ ha)) q⟩
theorem ownA_mono (h : Le F F') : ∀ (os : List (Str × OD)) (vs : List (Str × V)) (A : List Addr), (∀ a ∈ A, F' a = none ∧ ∀ x, H a = some x → H' a = some x) → OwnA K cl F H os vs A → OwnA K cl F' H' os vs A
  | [], _, _, _, r => r
  | (_, o) :: os, vs, A, k, ⟨u, us, A1, A2, e, eA, r, q⟩ => ⟨u, us, A1, A2, e, eA, own_mono h o u A1 (fun a ha => k a (by rw [eA]; exact List.mem_append_left _ ha)) r, ownA_mono h os us A2 (fun a ha => k a (by rw [eA]; exact List.mem_append_right _ ha)) q⟩
end

/-- F and the objects at A, as they stand in H -/
def plus (F H : Hp) (A : List Addr) : Hp := fun b => if b ∈ A then H b else F b
theorem plus_in {A : List Addr} {b : Addr} (h : b ∈ A) : plus F H A b = H b := if_pos h
theorem plus_out {A : List Addr} {b : Addr} (h : b ∉ A) : plus F H A b = F b := if_neg h
-- frozen as it stands
mutual
theorem own_rep {A' : List Addr} (h : Le F (plus F H A')) : ∀ (o : OD) (v : V) (A : List Addr), (∀ a ∈ A, a ∈ A') → Own K cl F H o v A → Rep K cl (plus F H A') o.toD v
  | .gone, _, _, _, r => r.elim
  | .fz d, v, A, k, ⟨e, r⟩ => rep_mono h d v r
  | .tup xs, v, A, k, ⟨p, vs, e, q, r⟩ => ⟨p, vs, e, h _ _ q, owns_rep h xs vs A k r⟩
  | .lst xs, v, A, k, ⟨p, vs, B, e, eA, f, q, r⟩ => ⟨p, vs, e, (by rw [plus_in (k p (by rw [eA]; exact List.mem_cons_self))]; exact q), owns_rep h xs vs B (fun a ha => k a (by rw [eA]; exact List.mem_cons_of_mem _ ha)) r⟩
  | .dic xs, v, A, k, ⟨p, vs, B, e, eA, f, q, r⟩ => ⟨p, vs, e, (by rw [plus_in (k p (by rw [eA]; exact List.mem_cons_self))]; exact q), ownK_rep h xs vs B (fun a ha => k a (by rw [eA]; exact List.mem_cons_of_mem _ ha)) r⟩
  | .dct xs, v, A, k, ⟨p, vs, B, e, eA, f, q, r⟩ => ⟨p, vs, e, (by rw [plus_in (k p (by rw [eA]; exact List.mem_cons_self))]; exact q), ownT_rep h xs vs B (fun a ha => k a (by rw [eA]; exact List.mem_cons_of_mem _ ha)) r⟩
  | .ins c xs, v, A, k, ⟨p, dx, vs, B, e, eA, f, q, r⟩ => ⟨p, dx, vs, e, (by rw [plus_in (k p (by rw [eA]; exact List.mem_cons_self))]; exact q), ownA_rep h xs vs B (fun a ha => k a (by rw [eA]; exact List.mem_cons_of_mem _ ha)) r⟩
theorem owns_rep {A' : List Addr} (h : Le F (plus F H A')) : ∀ (os : List OD) (vs : List V) (A : List Addr), (∀ a ∈ A, a ∈ A') → Owns K cl F H os vs A → Reps K cl (plus F H A') (toDs os) vs
  | [], _, _, _, r => r.1
  | o :: os, vs, A, k, ⟨u, us, A1, A2, e, eA, r, q⟩ => ⟨u, us, e, own_rep h o u A1 (fun a ha => k a (by rw [eA]; exact List.mem_append_left _ ha)) r, owns_rep h os us A2 (fun a ha => k a (by rw [eA]; exact List.mem_append_right _ ha)) q⟩
theorem ownK_rep {A' : List Addr} (h : Le F (plus F H A')) : ∀ (os : List (Key × OD)) (vs : List (Key × V)) (A : List Addr), (∀ a ∈ A, a ∈ A') → OwnK K cl F H os vs A → RepK K cl (plus F H A') (toDk os) vs
  | [], _, _, _, r => r.1
  | (_, o) :: os, vs, A, k, ⟨u, us, A1, A2, e, eA, r, q⟩ => ⟨u, us, e, own_rep h o u A1 (fun a ha => k a (by rw [eA]; exact List.mem_append_left _ ha)) r, ownK_rep h os us A2 (fun a ha => k a (by rw [eA]; exact List.mem_append_right _ ha)) q⟩
theorem ownT_rep {A' : List Addr} (h : Le F (plus F H A')) : ∀ (os : List (List Key × OD)) (vs : List (List Key × V)) (A : List Addr), (∀ a ∈ A, a ∈ A') → OwnT K cl F H os vs A → RepT K cl (plus F H A') (toDt os) vs
  | [], _, _, _, r => r.1
  | (_, o) :: os, vs, A, k, ⟨u, us, A1, A2, e, eA, r, q⟩ => ⟨u, us, e, own_rep h o u A1 (fun a ha => k a (by rw [eA]; exact List.mem_append_left _ ha)) r, ownT_rep h os us A2 (fun a ha => k a (by rw [eA]; exact List.mem_append_right _ ha)) q⟩
theorem ownA_rep {A' : List Addr} (h : Le F (plus F H A')) : ∀ (os : List (Str × OD)) (vs : List (Str × V)) (A : List Addr), (∀ a ∈ A, a ∈ A') → OwnA K cl F H os vs A → RepA K cl (plus F H A') (toDa os) vs
  | [], _, _, _, r => r.1
  | (_, o) :: os, vs, A, k, ⟨u, us, A1, A2, e, eA, r, q⟩ => ⟨u, us, e, own_rep h o u A1 (fun a ha => k a (by rw [eA]; exact List.mem_append_left _ ha)) r, ownA_rep h os us A2 (fun a ha => k a (by rw [eA]; exact List.mem_append_right _ ha)) q⟩
end
/-- own objects are not frozen, and stand in H as something that is written -/
def Wr : Option HO → Prop
  | some (.lst _) => True
  | some (.dK _) => True
  | some (.dT _) => True
  | some (.ins _ _ _) => True
  | _ => False
mutual
theorem own_at : ∀ (o : OD) (v : V) (A : List Addr), Own K cl F H o v A → ∀ a ∈ A, F a = none ∧ Wr (H a)
  | .gone, _, _, r, _, _ => r.elim
  | .fz d, v, A, ⟨e, r⟩, a, ha => by rw [e] at ha; cases ha
  | .tup xs, v, A, ⟨p, vs, e, q, r⟩, a, ha => owns_at xs vs A r a ha
  | .lst xs, v, A, ⟨p, vs, B, e, eA, f, q, r⟩, a, ha => by
    rw [eA] at ha
    rcases List.mem_cons.mp ha with z | z
    · rw [z, q]; exact ⟨f, trivial⟩
    · exact owns_at xs vs B r a z
  | .dic xs, v, A, ⟨p, vs, B, e, eA, f, q, r⟩, a, ha => by
    rw [eA] at ha
    rcases List.mem_cons.mp ha with z | z
    · rw [z, q]; exact ⟨f, trivial⟩
    · exact ownK_at xs vs B r a z
  | .dct xs, v, A, ⟨p, vs, B, e, eA, f, q, r⟩, a, ha => by
    rw [eA] at ha
    rcases List.mem_cons.mp ha with z | z
    · rw [z, q]; exact ⟨f, trivial⟩
    · exact ownT_at xs vs B r a z
  | .ins c xs, v, A, ⟨p, dx, vs, B, e, eA, f, q, r⟩, a, ha => by
    rw [eA] at ha
    rcases List.mem_cons.mp ha with z | z
    · rw [z, q]; exact ⟨f, trivial⟩
    · exact ownA_at xs vs B r a z
theorem owns_at : ∀ (os : List OD) (vs : List V) (A : List Addr), Owns K cl F H os vs A → ∀ a ∈ A, F a = none ∧ Wr (H a)
  | [], _, _, r, a, ha => by rw [r.2] at ha; cases ha
  | o :: os, vs, A, ⟨u, us, A1, A2, e, eA, r, q⟩, a, ha => by
    rw [eA] at ha
    rcases List.mem_append.mp ha with z | z
    · exact own_at o u A1 r a z
    · exact owns_at os us A2 q a z
theorem ownK_at : ∀ (os : List (Key × OD)) (vs : List (Key × V)) (A : List Addr), OwnK K cl F H os vs A → ∀ a ∈ A, F a = none ∧ Wr (H a)
  | [], _, _, r, a, ha => by rw [r.2] at ha; cases ha
  | (_, o) :: os, vs, A, ⟨u, us, A1, A2, e, eA, r, q⟩, a, ha => by
    rw [eA] at ha
    rcases List.mem_append.mp ha with z | z
    · exact own_at o u A1 r a z
    · exact ownK_at os us A2 q a z
theorem ownT_at : ∀ (os : List (List Key × OD)) (vs : List (List Key × V)) (A : List Addr), OwnT K cl F H os vs A → ∀ a ∈ A, F a = none ∧ Wr (H a)
  | [], _, _, r, a, ha => by rw [r.2] at ha; cases ha
  | (_, o) :: os, vs, A, ⟨u, us, A1, A2, e, eA, r, q⟩, a, ha => by
    rw [eA] at ha
    rcases List.mem_append.mp ha with z | z
    · exact own_at o u A1 r a z
    · exact ownT_at os us A2 q a z
theorem ownA_at : ∀ (os : List (Str × OD)) (vs : List (Str × V)) (A : List Addr), OwnA K cl F H os vs A → ∀ a ∈ A, F a = none ∧ Wr (H a)
  | [], _, _, r, a, ha => by rw [r.2] at ha; cases ha
  | (_, o) :: os, vs, A, ⟨u, us, A1, A2, e, eA, r, q⟩, a, ha => by
    rw [eA] at ha
    rcases List.mem_append.mp ha with z | z
    · exact own_at o u A1 r a z
    · exact ownA_at os us A2 q a z
end
end
end DL
/-! DL2: the state of slots, what a step keeps, the judgements. -/
namespace DL
open PySem L2

abbrev Rho := List OD
/-- an own exception: its class by number, its fields; or a built-in one by name -/
structure Exn where
  c : Nat
  fs : List (Str × D)
inductive Res (α : Type) where
  | ok (a : α) (ρ : Rho)
  | err (x : Exn) (ρ : Rho)
  | bad
@[simp] def Res.bind {α β : Type} (r : Res α) (f : α → Rho → Res β) : Res β := match r with
  | .ok a ρ => f a ρ
  | .err x ρ => .err x ρ
  | .bad => .bad
/-- what an expression gives: frozen data, the owner in slot i, new data of its own -/
inductive OV where
  | o (o : OD)
  | b (i : Nat)
inductive Opd where
  | d (d : D)
  | b (i : Nat)
abbrev gt (ρ : Rho) (i : Nat) : OD := ρ.getD i .gone

def isDi : HO → Bool
  | .dK _ => true
  | .dT _ => true
  | _ => false
abbrev Sb (F H : Hp) : Prop := ∀ a o, F a = some o → Rd H a o ∧ (isDi o = false → H a = some o)
def ownd (A : Nat → List Addr) (b : Addr) : Prop := ∃ i, b ∈ A i

section
variable (K : PySem.W.Frag) (cl : Nat → Addr)
def SlotOk (F H : Hp) (x : Option (Option V)) (o : OD) (A : List Addr) : Prop := match o with
  | .gone => A = []
  | o => ∃ v, x = some (some v) ∧ Own K cl F H o v A
structure Sto (F H : Hp) (σ : St) (ρ : Rho) (A : Nat → List Addr) : Prop where
  sub : Sb F H
  len : ρ.length = σ.length
  sl : ∀ i, SlotOk K cl F H (σ[i]?) (gt ρ i) (A i)
  dis : ∀ i j, i ≠ j → ∀ b, b ∈ A i → b ∉ A j
  nd : ∀ i, (A i).Nodup
structure Gr (P P' : Addr → Prop) (F H F' H' : Hp) : Prop where
  keep : ∀ b o, H b = some o → ¬ P b → H' b = some o
  ff : Le F F'
  new : ∀ b, Wr (H b) → ¬ P b → F' b = F b
  ow : ∀ b, P' b → P b ∨ H b = none
/-- the same where an exception flies: a frozen dict may stay locked -/
structure GrE (P P' : Addr → Prop) (F H F' H' : Hp) : Prop where
  keep : ∀ b o, H b = some o → ¬ P b → H' b = some o ∨ (F b = some o ∧ isDi o = true ∧ ∃ x, H' b = some (.frz x o))
  ff : Le F F'
  new : ∀ b, Wr (H b) → ¬ P b → F' b = F b
  ow : ∀ b, P' b → P b ∨ H b = none
def VOk (F H : Hp) (σ : St) (ov : OV) (v : V) (B : List Addr) : Prop := match ov with
  | .b i => B = [] ∧ σ[i]? = some (some v)
  | .o o => Own K cl F H o v B
def POk (F : Hp) (σ : St) (q : Opd) (v : V) : Prop := match q with
  | .d d => Rep K cl F d v
  | .b i => σ[i]? = some (some v)
/-- an exception lies there: class, own dict -/
def ExOk (F H : Hp) (x : Exn) (c : Value) (a : Option Addr) : Prop :=
  c = .ref (cl x.c) ∧ match x.fs with
    | [] => a = none
    | fs => ∃ d vs, a = some d ∧ H d = some (.xd vs) ∧ RepA K cl F fs vs

/-- what is wanted where an exception lies -/
def ErrQ (W : WX) (P : Addr → Prop) (F H : Hp) (σ : St) (x : Exn) (ρ' : Rho) : Prop :=
  ∀ F' H' A' c a, Sto K cl F' H' σ ρ' A' → GrE P (ownd A') F H F' H' → ExOk K cl F' H' x c a → W c a σ H'

def LE (W : WX) (t : Rho → Res OV) : TE := fun σ H Q => ∃ F ρ A, Sto K cl F H σ ρ A ∧ match t ρ with
  | .ok ov ρ' => ∀ v F' H' A' B, Sto K cl F' H' σ ρ' A' → Gr (ownd A) (fun b => ownd A' b ∨ b ∈ B) F H F' H' → VOk K cl F' H' σ ov v B → B.Nodup → (∀ b ∈ B, ¬ ownd A' b) → Q v H'
  | .err x ρ' => ErrQ K cl W (ownd A) F H σ x ρ'
  | .bad => False
def LP (W : WX) (t : Rho → Res Opd) : TE := fun σ H Q => ∃ F ρ A, Sto K cl F H σ ρ A ∧ match t ρ with
  | .ok q ρ' => ∀ v F' H' A', Sto K cl F' H' σ ρ' A' → Gr (ownd A) (ownd A') F H F' H' → POk K cl F' σ q v → Q v H'
  | .err x ρ' => ErrQ K cl W (ownd A) F H σ x ρ'
  | .bad => False
def LT (W : WX) (t : Rho → Res Bool) : TT := fun σ H Q => ∃ F ρ A, Sto K cl F H σ ρ A ∧ match t ρ with
  | .ok b ρ' => ∀ F' H' A', Sto K cl F' H' σ ρ' A' → Gr (ownd A) (ownd A') F H F' H' → Q b H'
  | .err x ρ' => ErrQ K cl W (ownd A) F H σ x ρ'
  | .bad => False
def POks (F : Hp) (σ : St) : List Opd → List V → Prop
  | [], vs => vs = []
  | q :: qs, vs => ∃ u us, vs = u :: us ∧ POk K cl F σ q u ∧ POks F σ qs us
def LA (W : WX) (t : Rho → Res (List Opd)) : TA := fun σ H Q => ∃ F ρ A, Sto K cl F H σ ρ A ∧ match t ρ with
  | .ok qs ρ' => ∀ vs F' H' A', Sto K cl F' H' σ ρ' A' → Gr (ownd A) (ownd A') F H F' H' → POks K cl F' σ qs vs → Q vs H'
  | .err x ρ' => ErrQ K cl W (ownd A) F H σ x ρ'
  | .bad => False
inductive Fl where
  | next | brk | cont
  | ret (ov : OV)
/-- statements; pn: slots that are never stored (parameters that stay the callers') -/
def LS (pn : List Nat) (W : WX) (t : Rho → Res Fl) : TS := fun D σ H => ∃ F ρ A, Sto K cl F H σ ρ A ∧ match t ρ with
  | .ok .next ρ' => ∀ σ' F' H' A', Sto K cl F' H' σ' ρ' A' → Gr (ownd A) (ownd A') F H F' H' → (∀ i ∈ pn, σ'[i]? = σ[i]?) → D.nx σ' H'
  | .ok .brk ρ' => ∀ σ' F' H' A', Sto K cl F' H' σ' ρ' A' → Gr (ownd A) (ownd A') F H F' H' → (∀ i ∈ pn, σ'[i]? = σ[i]?) → D.bk σ' H'
  | .ok .cont ρ' => ∀ σ' F' H' A', Sto K cl F' H' σ' ρ' A' → Gr (ownd A) (ownd A') F H F' H' → (∀ i ∈ pn, σ'[i]? = σ[i]?) → D.ct σ' H'
  | .ok (.ret ov) ρ' => ∀ v σ' F' H' A' B, Sto K cl F' H' σ' ρ' A' → Gr (ownd A) (fun b => ownd A' b ∨ b ∈ B) F H F' H' → (∀ i ∈ pn, σ'[i]? = σ[i]?) → VOk K cl F' H' σ' ov v B → B.Nodup → (∀ b ∈ B, ¬ ownd A' b) → D.rt v H'
  | .err x ρ' => ∀ σ' F' H' A' c a, Sto K cl F' H' σ' ρ' A' → GrE (ownd A) (ownd A') F H F' H' → (∀ i ∈ pn, σ'[i]? = σ[i]?) → ExOk K cl F' H' x c a → W c a σ' H'
  | .bad => False
end

section
variable {K : PySem.W.Frag} {cl : Nat → Addr} {F F' F1 F2 H H' H1 H2 : Hp} {σ σ' : St} {ρ ρ' : Rho} {A A' : Nat → List Addr}
theorem wr_some {x : Option HO} (h : Wr x) : ∃ o, x = some o := by
  cases x with
  | none => exact h.elim
  | some o => exact ⟨o, rfl⟩
theorem Gr.refl {P : Addr → Prop} : Gr P P F H F H := ⟨fun _ _ h _ => h, Le.refl _, fun _ _ _ => rfl, fun _ h => .inl h⟩
theorem Gr.trans {P P1 P2 : Addr → Prop} (a : Gr P P1 F H F1 H1) (b : Gr P1 P2 F1 H1 F2 H2) : Gr P P2 F H F2 H2 := by
  have z : ∀ b o, H b = some o → ¬ P b → ¬ P1 b := fun b o h n q => (a.ow b q).elim n fun e => by rw [h] at e; cases e
  refine ⟨fun c o h n => b.keep c o (a.keep c o h n) (z c o h n), a.ff.trans b.ff, fun c h n => ?_, fun c h => ?_⟩
  · obtain ⟨o, e⟩ := wr_some h
    have e1 := a.keep c o e n
    exact (b.new c (by rw [e1, ← e]; exact h) (z c o e n)).trans (a.new c h n)
  · rcases b.ow c h with q | q
    · exact a.ow c q
    · by_cases p : P c
      · exact .inl p
      · cases e : H c with
        | none => exact .inr rfl
        | some o => rw [a.keep c o e p] at q; cases q
theorem Gr.weak {P P1 P2 : Addr → Prop} (a : Gr P P1 F H F1 H1) (h : ∀ b, P2 b → P1 b ∨ H b = none) : Gr P P2 F H F1 H1 :=
  ⟨a.keep, a.ff, a.new, fun b q => (h b q).elim (a.ow b) .inr⟩
theorem Gr.sub {P P1 P2 : Addr → Prop} (a : Gr P P1 F H F1 H1) (h : ∀ b, P2 b → P1 b) : Gr P P2 F H F1 H1 := a.weak fun b q => .inl (h b q)
theorem Gr.pre {P P0 P1 : Addr → Prop} (a : Gr P P1 F H F1 H1) (h : ∀ b, P b → P0 b) : Gr P0 P1 F H F1 H1 :=
  ⟨fun b o e n => a.keep b o e fun q => n (h b q), a.ff, fun b e n => a.new b e fun q => n (h b q), fun b q => (a.ow b q).elim (fun z => .inl (h b z)) .inr⟩
theorem Gr.e {P P' : Addr → Prop} (a : Gr P P' F H F' H') : GrE P P' F H F' H' := ⟨fun b o h n => .inl (a.keep b o h n), a.ff, a.new, a.ow⟩
theorem GrE.weak {P P1 P2 : Addr → Prop} (a : GrE P P1 F H F1 H1) (h : ∀ b, P2 b → P1 b ∨ H b = none) : GrE P P2 F H F1 H1 :=
  ⟨a.keep, a.ff, a.new, fun b q => (h b q).elim (a.ow b) .inr⟩
theorem GrE.sub {P P1 P2 : Addr → Prop} (a : GrE P P1 F H F1 H1) (h : ∀ b, P2 b → P1 b) : GrE P P2 F H F1 H1 := a.weak fun b q => .inl (h b q)
theorem di_wr {o : HO} (h : isDi o = true) : Wr (some o) := by
  cases o <;> first | trivial | cases h
theorem Gr.transE {P P1 P2 : Addr → Prop} (a : Gr P P1 F H F1 H1) (b : GrE P1 P2 F1 H1 F2 H2) : GrE P P2 F H F2 H2 := by
  have z : ∀ b o, H b = some o → ¬ P b → ¬ P1 b := fun b o h n q => (a.ow b q).elim n fun e => by rw [h] at e; cases e
  refine ⟨fun c o h n => ?_, a.ff.trans b.ff, fun c h n => ?_, fun c h => ?_⟩
  · rcases b.keep c o (a.keep c o h n) (z c o h n) with q | ⟨q, i, x⟩
    · exact .inl q
    · exact .inr ⟨(a.new c (by rw [h]; exact di_wr i) n) ▸ q, i, x⟩
  · obtain ⟨o, e⟩ := wr_some h
    have e1 := a.keep c o e n
    exact (b.new c (by rw [e1, ← e]; exact h) (z c o e n)).trans (a.new c h n)
  · rcases b.ow c h with q | q
    · exact a.ow c q
    · by_cases p : P c
      · exact .inl p
      · cases e : H c with
        | none => exact .inr rfl
        | some o => rw [a.keep c o e p] at q; cases q

theorem SlotOk.own {x : Option (Option V)} {o : OD} {B : List Addr} (h : SlotOk K cl F H x o B) (n : o ≠ .gone) : ∃ v, x = some (some v) ∧ Own K cl F H o v B := by
  cases o with
  | gone => exact absurd rfl n
  | fz d => exact h
  | tup d => exact h
  | lst d => exact h
  | dic d => exact h
  | dct d => exact h
  | ins c d => exact h
theorem SlotOk.mk {x : Option (Option V)} {o : OD} {B : List Addr} {v : V} (e : x = some (some v)) (h : Own K cl F H o v B) : SlotOk K cl F H x o B := by
  cases o with
  | gone => exact h.elim
  | fz d => exact ⟨v, e, h⟩
  | tup d => exact ⟨v, e, h⟩
  | lst d => exact ⟨v, e, h⟩
  | dic d => exact ⟨v, e, h⟩
  | dct d => exact ⟨v, e, h⟩
  | ins c d => exact ⟨v, e, h⟩
theorem SlotOk.at_ {x : Option (Option V)} {o : OD} {B : List Addr} (h : SlotOk K cl F H x o B) : ∀ a ∈ B, F a = none ∧ Wr (H a) := by
  by_cases n : o = .gone
  · subst n
    intro a ha
    rw [show B = [] from h] at ha
    cases ha
  · obtain ⟨v, _, r⟩ := h.own n
    exact own_at o v B r
theorem SlotOk.mono {x : Option (Option V)} {o : OD} {B : List Addr} (h : SlotOk K cl F H x o B) (le : Le F F') (k : ∀ a ∈ B, F' a = none ∧ ∀ y, H a = some y → H' a = some y) : SlotOk K cl F' H' x o B := by
  by_cases n : o = .gone
  · subst n
    exact h
  · obtain ⟨v, e, r⟩ := h.own n
    exact .mk e (own_mono le o v B k r)
/-- the slots stay where their own objects do -/
theorem Sto.mono (s : Sto K cl F H σ ρ A) (le : Le F F') (sub : Sb F' H') (k : ∀ b, ownd A b → F' b = none ∧ ∀ y, H b = some y → H' b = some y) : Sto K cl F' H' σ ρ A :=
  ⟨sub, s.len, fun i => (s.sl i).mono le fun a ha => k a ⟨i, ha⟩, s.dis, s.nd⟩
theorem Sto.at_ (s : Sto K cl F H σ ρ A) {b : Addr} (h : ownd A b) : F b = none ∧ Wr (H b) := let ⟨i, hi⟩ := h; (s.sl i).at_ b hi
/-- a slot is given other data; B: its own objects, apart from all others' -/
theorem Sto.put {i : Nat} {v : V} {o : OD} {B : List Addr} (s : Sto K cl F H σ ρ A) (hi : i < ρ.length) (r : Own K cl F H o v B) (nd : B.Nodup) (dj : ∀ b ∈ B, ∀ j, j ≠ i → b ∉ A j) :
    Sto K cl F H (σ.set i (some v)) (ρ.set i o) (fun j => if j = i then B else A j) := by
  refine ⟨s.sub, by rw [List.length_set, List.length_set]; exact s.len, fun j => ?_, fun j k n b hj hk => ?_, fun j => ?_⟩
  · by_cases e : j = i
    · subst e
      rw [if_pos rfl]
      have e2 : gt (ρ.set j o) j = o := by
        show (ρ.set j o).getD j .gone = o
        rw [List.getD_eq_getElem?_getD, List.getElem?_set_self hi]
        rfl
      rw [e2]
      exact .mk (by rw [List.getElem?_set_self (by rw [← s.len]; exact hi)]) r
    · rw [if_neg e]
      have e2 : gt (ρ.set i o) j = gt ρ j := by
        show (ρ.set i o).getD j .gone = ρ.getD j .gone
        rw [List.getD_eq_getElem?_getD, List.getD_eq_getElem?_getD, List.getElem?_set_ne (Ne.symm e)]
      rw [e2, List.getElem?_set_ne (Ne.symm e)]
      exact s.sl j
  · try dsimp only at hj hk
    by_cases e : j = i
    · rw [if_pos e] at hj
      rw [if_neg (fun z => n (e.trans z.symm))] at hk
      exact dj b hj k (fun z => n (e.trans z.symm)) hk
    · rw [if_neg e] at hj
      by_cases e' : k = i
      · rw [if_pos e'] at hk
        exact dj b hk j e hj
      · rw [if_neg e'] at hk
        exact s.dis j k n b hj hk
  · try dsimp only
    split
    · exact nd
    · exact s.nd j
theorem gt_set {i : Nat} {o : OD} (hi : i < ρ.length) : gt (ρ.set i o) i = o := by
  show (ρ.set i o).getD i .gone = o
  rw [List.getD_eq_getElem?_getD, List.getElem?_set_self hi]
  rfl
theorem gt_ne {i j : Nat} {o : OD} (e : j ≠ i) : gt (ρ.set i o) j = gt ρ j := by
  show (ρ.set i o).getD j .gone = ρ.getD j .gone
  rw [List.getD_eq_getElem?_getD, List.getD_eq_getElem?_getD, List.getElem?_set_ne (Ne.symm e)]
/-- a slot is forgotten -/
theorem Sto.drop {i : Nat} {x : Option V} (s : Sto K cl F H σ ρ A) : Sto K cl F H (σ.set i x) (ρ.set i .gone) (fun j => if j = i then [] else A j) := by
  refine ⟨s.sub, by rw [List.length_set, List.length_set]; exact s.len, fun j => ?_, fun j k n b hj hk => ?_, fun j => ?_⟩
  · by_cases e : j = i
    · subst e
      rw [if_pos rfl]
      by_cases hi : j < ρ.length
      · rw [gt_set hi]; rfl
      · have : gt (ρ.set j .gone) j = .gone := by
          show (ρ.set j .gone).getD j .gone = .gone
          rw [List.getD_eq_getElem?_getD, List.getElem?_eq_none (by rw [List.length_set]; omega)]
          rfl
        rw [this]; rfl
    · rw [if_neg e, gt_ne e, List.getElem?_set_ne (Ne.symm e)]
      exact s.sl j
  · try dsimp only at hj hk
    by_cases e : j = i
    · rw [if_pos e] at hj; cases hj
    · rw [if_neg e] at hj
      by_cases e' : k = i
      · rw [if_pos e'] at hk; cases hk
      · rw [if_neg e'] at hk
        exact s.dis j k n b hj hk
  · try dsimp only
    split
    · exact List.nodup_nil
    · exact s.nd j
theorem gt_lt {i : Nat} (h : gt ρ i ≠ .gone) : i < ρ.length := by
  by_cases l : i < ρ.length
  · exact l
  · refine absurd ?_ h
    show ρ.getD i .gone = .gone
    rw [List.getD_eq_getElem?_getD, List.getElem?_eq_none (by omega)]
    rfl

/-- owned data apart from the slots is frozen -/
theorem freeze {o : OD} {v : V} {B : List Addr} (s : Sto K cl F H σ ρ A) (r : Own K cl F H o v B) (dj : ∀ b ∈ B, ¬ ownd A b) :
    Sto K cl (plus F H B) H σ ρ A ∧ Rep K cl (plus F H B) o.toD v ∧ Le F (plus F H B) ∧ ∀ b, b ∉ B → plus F H B b = F b := by
  have le : Le F (plus F H B) := fun a x h => by
    rw [plus_out fun q => by rw [(own_at o v B r a q).1] at h; cases h]
    exact h
  refine ⟨s.mono le (fun a x h => ?_) fun b hb => ⟨?_, fun _ h => h⟩, own_rep le o v B (fun _ h => h) r, le, fun b h => plus_out h⟩
  · by_cases q : a ∈ B
    · rw [plus_in q] at h
      exact ⟨.inl h, fun _ => h⟩
    · rw [plus_out q] at h; exact s.sub a x h
  · rw [plus_out fun q => dj b q hb]
    exact (s.at_ hb).1
theorem Gr.frozen {P : Addr → Prop} {B : List Addr} (g : Gr P (fun b => ownd A b ∨ b ∈ B) F H F1 H1) (le : Le F1 (plus F1 H1 B)) : Gr P (ownd A) F H (plus F1 H1 B) H1 := by
  refine ⟨g.keep, g.ff.trans le, fun b h n => ?_, fun b h => g.ow b (.inl h)⟩
  have nb : b ∉ B := fun q => (g.ow b (.inr q)).elim n fun e => by rw [e] at h; exact h
  rw [plus_out nb]
  exact g.new b h n
end
end DL
/-! DL3: operands, what comes of a primitive step. -/
namespace DL
open PySem L2

mutual
@[simp] def D.imm : D → Bool
  | .v _ => true
  | .tup ds => imms ds
  | .wtp ds => imms ds
  | _ => false
@[simp] def imms : List D → Bool
  | [] => true
  | d :: ds => d.imm && imms ds
end
mutual
@[simp] def OD.imm : OD → Bool
  | .gone => true
  | .fz d => d.imm
  | .tup xs => oimms xs
  | .lst xs => oimms xs
  | .dic kvs => oimmK kvs
  | .dct kvs => oimmT kvs
  | .ins _ fs => oimmA fs
@[simp] def oimms : List OD → Bool
  | [] => true
  | d :: ds => d.imm && oimms ds
@[simp] def oimmK : List (Key × OD) → Bool
  | [] => true
  | (_, d) :: ds => d.imm && oimmK ds
@[simp] def oimmT : List (List Key × OD) → Bool
  | [] => true
  | (_, d) :: ds => d.imm && oimmT ds
@[simp] def oimmA : List (Str × OD) → Bool
  | [] => true
  | (_, d) :: ds => d.imm && oimmA ds
end

section
variable {K : PySem.W.Frag} {cl : Nat → Addr} {F F' F1 F2 H H' H1 H2 : Hp} {σ σ' : St} {ρ ρ' : Rho} {A A' : Nat → List Addr}

/-- F without L -/
def less (F : Hp) (L : List Addr) : Hp := fun b => if b ∈ L then none else F b
theorem less_out {L : List Addr} {b : Addr} (h : b ∉ L) : less F L b = F b := if_neg h
theorem less_in {L : List Addr} {b : Addr} (h : b ∈ L) : less F L b = none := if_pos h
theorem sqT_less {L : List Addr} (hL : ∀ a ∈ L, Wr (F a)) {a : Addr} {xs : List V} (q : SqT K F a xs) : SqT K (less F L) a xs := by
  rcases q with (q | ⟨o, q⟩) | q
  · refine .inl (.inl ?_)
    rw [less_out fun z => by have := hL a z; rw [q] at this; exact this]
    exact q
  · refine .inl (.inr ⟨o, ?_⟩)
    rw [less_out fun z => by have := hL a z; rw [q] at this; exact this]
    exact q
  · exact .inr q
mutual
theorem imm_less {L : List Addr} (hL : ∀ a ∈ L, Wr (F a)) : ∀ (d : D) (v : V), d.imm = true → Rep K cl F d v → Rep K cl (less F L) d v
  | .v x, _, _, r => r
  | .tup ds, _, h, ⟨a, vs, e, q, r⟩ => ⟨a, vs, e, (less_out fun z => by have := hL a z; rw [q] at this; exact this).trans q, imms_less hL ds vs h r⟩
  | .wtp ds, _, h, ⟨a, vs, e, q, r⟩ => ⟨a, vs, e, sqT_less hL q, imms_less hL ds vs h r⟩
theorem imms_less {L : List Addr} (hL : ∀ a ∈ L, Wr (F a)) : ∀ (ds : List D) (vs : List V), imms ds = true → Reps K cl F ds vs → Reps K cl (less F L) ds vs
  | [], _, _, r => r
  | d :: ds, _, h, ⟨u, us, e, r, q⟩ => ⟨u, us, e, imm_less hL d u (Bool.and_eq_true_iff.mp h).1 r, imms_less hL ds us (Bool.and_eq_true_iff.mp h).2 q⟩
end
theorem less_none {L : List Addr} {b : Addr} (h : F b = none) : less F L b = none := by
  unfold less
  split
  · rfl
  · exact h
mutual
theorem oimm_less {L : List Addr} (hL : ∀ a ∈ L, Wr (F a)) : ∀ (o : OD) (v : V) (B : List Addr), o.imm = true → Own K cl F H o v B → Own K cl (less F L) H o v B
  | .gone, _, _, _, r => r
  | .fz d, v, _, h, ⟨e, r⟩ => ⟨e, imm_less hL d v h r⟩
  | .tup xs, v, A, h, ⟨p, vs, e, q, r⟩ => ⟨p, vs, e, (less_out fun z => by have := hL p z; rw [q] at this; exact this).trans q, oimms_less hL xs vs A h r⟩
  | .lst xs, v, _, h, ⟨p, vs, B, e, eA, f, q, r⟩ => ⟨p, vs, B, e, eA, less_none f, q, oimms_less hL xs vs B h r⟩
  | .dic xs, v, _, h, ⟨p, vs, B, e, eA, f, q, r⟩ => ⟨p, vs, B, e, eA, less_none f, q, oimmK_less hL xs vs B h r⟩
  | .dct xs, v, _, h, ⟨p, vs, B, e, eA, f, q, r⟩ => ⟨p, vs, B, e, eA, less_none f, q, oimmT_less hL xs vs B h r⟩
  | .ins c xs, v, _, h, ⟨p, dx, vs, B, e, eA, f, q, r⟩ => ⟨p, dx, vs, B, e, eA, less_none f, q, oimmA_less hL xs vs B h r⟩
theorem oimms_less {L : List Addr} (hL : ∀ a ∈ L, Wr (F a)) : ∀ (os : List OD) (vs : List V) (B : List Addr), oimms os = true → Owns K cl F H os vs B → Owns K cl (less F L) H os vs B
  | [], _, _, _, r => r
  | o :: os, _, _, h, ⟨u, us, A1, A2, e, eA, r, q⟩ => ⟨u, us, A1, A2, e, eA, oimm_less hL o u A1 (Bool.and_eq_true_iff.mp h).1 r, oimms_less hL os us A2 (Bool.and_eq_true_iff.mp h).2 q⟩
theorem oimmK_less {L : List Addr} (hL : ∀ a ∈ L, Wr (F a)) : ∀ (os : List (Key × OD)) (vs : List (Key × V)) (B : List Addr), oimmK os = true → OwnK K cl F H os vs B → OwnK K cl (less F L) H os vs B
  | [], _, _, _, r => r
  | (_, o) :: os, _, _, h, ⟨u, us, A1, A2, e, eA, r, q⟩ => ⟨u, us, A1, A2, e, eA, oimm_less hL o u A1 (Bool.and_eq_true_iff.mp h).1 r, oimmK_less hL os us A2 (Bool.and_eq_true_iff.mp h).2 q⟩
theorem oimmT_less {L : List Addr} (hL : ∀ a ∈ L, Wr (F a)) : ∀ (os : List (List Key × OD)) (vs : List (List Key × V)) (B : List Addr), oimmT os = true → OwnT K cl F H os vs B → OwnT K cl (less F L) H os vs B
  | [], _, _, _, r => r
  | (_, o) :: os, _, _, h, ⟨u, us, A1, A2, e, eA, r, q⟩ => ⟨u, us, A1, A2, e, eA, oimm_less hL o u A1 (Bool.and_eq_true_iff.mp h).1 r, oimmT_less hL os us A2 (Bool.and_eq_true_iff.mp h).2 q⟩
theorem oimmA_less {L : List Addr} (hL : ∀ a ∈ L, Wr (F a)) : ∀ (os : List (Str × OD)) (vs : List (Str × V)) (B : List Addr), oimmA os = true → OwnA K cl F H os vs B → OwnA K cl (less F L) H os vs B
  | [], _, _, _, r => r
  | (_, o) :: os, _, _, h, ⟨u, us, A1, A2, e, eA, r, q⟩ => ⟨u, us, A1, A2, e, eA, oimm_less hL o u A1 (Bool.and_eq_true_iff.mp h).1 r, oimmA_less hL os us A2 (Bool.and_eq_true_iff.mp h).2 q⟩
end

/-- what is wanted of new data -/
def VQ (K : PySem.W.Frag) (cl : Nat → Addr) (F H : Hp) (o : OD) (Q : VK) : Prop :=
  ∀ v F' H' B, Own K cl F' H' o v B → B.Nodup → Sb F' H' → Gr (fun _ => False) (· ∈ B) F H F' H' → Q v H'
/-- a primitive step by its data -/
def PrimOk (K : PySem.W.Frag) (cl : Nat → Addr) (f : List D → Option OD) (R : List V → Hp → VK → Prop) : Prop :=
  ∀ F H ds vs o Q, Sb F H → Reps K cl F ds vs → f ds = some o → VQ K cl F H o Q → R vs H Q

@[simp] def Opd.isD : Opd → Bool
  | .d _ => true
  | .b _ => false
@[simp] def rs (ρ : Rho) : Opd → Option D
  | .d d => some d
  | .b i => match gt ρ i with
    | .gone => none
    | o => some o.toD
@[simp] def rss (ρ : Rho) : List Opd → Option (List D)
  | [] => some []
  | q :: qs => match rs ρ q with
    | none => none
    | some d => match rss ρ qs with
      | none => none
      | some ds => some (d :: ds)
/-- the step's end -/
@[simp] def fin (f : List D → Option OD) (qs : List Opd) (ρ : Rho) : Res OV := match rss ρ qs with
  | none => .bad
  | some ds => match f ds with
    | none => .bad
    | some o => if (qs.all Opd.isD || o.imm) = true then .ok (.o o) ρ else .bad
/-- the objects that are borrowed -/
def brw (A : Nat → List Addr) : List Opd → List Addr
  | [] => []
  | .d _ :: qs => brw A qs
  | .b i :: qs => A i ++ brw A qs
theorem brw_own {b : Addr} : ∀ {qs : List Opd}, b ∈ brw A qs → ownd A b
  | .d _ :: qs, h => brw_own (qs := qs) h
  | .b i :: qs, h => by
    rcases List.mem_append.mp h with z | z
    · exact ⟨i, z⟩
    · exact brw_own (qs := qs) z
theorem brw_nil : ∀ {qs : List Opd}, qs.all Opd.isD = true → brw A qs = []
  | [], _ => rfl
  | .d _ :: qs, h => brw_nil (qs := qs) (by simpa [Opd.isD] using h)
  | .b i :: qs, h => by simp [Opd.isD] at h
theorem plus_le {L : List Addr} (hL : ∀ a ∈ L, F a = none) : Le F (plus F H L) := fun a x h => by
  rw [plus_out fun q => by rw [hL a q] at h; cases h]
  exact h
theorem rs_rep {L : List Addr} (s : Sto K cl F H σ ρ A) (hL : ∀ a ∈ L, F a = none) {q : Opd} {v : V} {d : D} (h : POk K cl F σ q v) (hb : ∀ i, q = .b i → ∀ a ∈ A i, a ∈ L) (e : rs ρ q = some d) : Rep K cl (plus F H L) d v := by
  cases q with
  | d d' =>
    cases (show some d' = some d from e)
    exact rep_mono (plus_le hL) _ _ h
  | b i =>
    have n : gt ρ i ≠ .gone := fun z => by
      unfold rs at e
      dsimp only at e
      rw [z] at e
      cases e
    have e2 : d = (gt ρ i).toD := by
      unfold rs at e
      dsimp only at e
      cases z : gt ρ i with
      | gone => exact absurd z n
      | fz _ => rw [z] at e; exact (Option.some.inj e).symm
      | tup _ => rw [z] at e; exact (Option.some.inj e).symm
      | lst _ => rw [z] at e; exact (Option.some.inj e).symm
      | dic _ => rw [z] at e; exact (Option.some.inj e).symm
      | dct _ => rw [z] at e; exact (Option.some.inj e).symm
      | ins _ _ => rw [z] at e; exact (Option.some.inj e).symm
    obtain ⟨v', ev, r⟩ := (s.sl i).own n
    rw [show σ[i]? = some (some v) from h] at ev
    cases ev
    rw [e2]
    exact own_rep (plus_le hL) _ _ _ (hb i rfl) r
theorem rss_rep {L : List Addr} (s : Sto K cl F H σ ρ A) (hL : ∀ a ∈ L, F a = none) : ∀ {qs : List Opd} {vs : List V} {ds : List D}, POks K cl F σ qs vs → (∀ a ∈ brw A qs, a ∈ L) → rss ρ qs = some ds → Reps K cl (plus F H L) ds vs
  | [], vs, ds, h, _, e => by
    cases (show some [] = some ds from e)
    exact h
  | q :: qs, vs, ds, ⟨u, us, ev, p, h⟩, hb, e => by
    unfold rss at e
    cases e1 : rs ρ q with
    | none => rw [e1] at e; cases e
    | some d =>
      rw [e1] at e
      dsimp only at e
      cases e2 : rss ρ qs with
      | none => rw [e2] at e; cases e
      | some ds' =>
        rw [e2] at e
        cases e
        refine ⟨u, us, ev, rs_rep s hL p (fun i z a ha => hb a ?_) e1, rss_rep s hL h (fun a ha => hb a ?_) e2⟩
        · rw [z]; exact List.mem_append_left _ ha
        · cases q with
          | d _ => exact ha
          | b i => exact List.mem_append_right _ ha

/-- THE STEP of a primitive: its operands stand, some of them borrowed -/
theorem fin_ok {f : List D → Option OD} {R : List V → Hp → VK → Prop} {qs : List Opd} {vs : List V} {Q : VK} {ov : OV} {ρ2 : Rho} (pr : PrimOk K cl f R) (s : Sto K cl F H σ ρ A) (h : POks K cl F σ qs vs) (e : fin f qs ρ = .ok ov ρ2)
    (k : ∀ v F' H' A' B, Sto K cl F' H' σ ρ2 A' → Gr (ownd A) (fun b => ownd A' b ∨ b ∈ B) F H F' H' → VOk K cl F' H' σ ov v B → B.Nodup → (∀ b ∈ B, ¬ ownd A' b) → Q v H') : R vs H Q := by
  unfold fin at e
  cases e1 : rss ρ qs with
  | none => rw [e1] at e; cases e
  | some ds =>
    rw [e1] at e
    dsimp only at e
    cases e2 : f ds with
    | none => rw [e2] at e; cases e
    | some o =>
      rw [e2] at e
      dsimp only at e
      split at e
      · rename_i hc
        cases e
        have hL0 : ∀ a ∈ brw A qs, F a = none ∧ Wr (H a) := fun a ha => s.at_ (brw_own ha)
        have le := plus_le (H := H) fun a ha => (hL0 a ha).1
        refine pr (plus F H (brw A qs)) H ds vs o Q (fun a x q => ?_) (rss_rep s (fun a ha => (hL0 a ha).1) h (fun a ha => ha) e1) e2 fun v F' H' B r nd sb g => ?_
        · by_cases z : a ∈ brw A qs
          · rw [plus_in z] at q
            exact ⟨.inl q, fun _ => q⟩
          · rw [plus_out z] at q; exact s.sub a x q
        · have hF' : ∀ b, Wr (H b) → F' b = plus F H (brw A qs) b := fun b q => g.new b q fun z => z
          have hWr : ∀ a ∈ brw A qs, Wr (F' a) := fun a ha => by
            rw [hF' a (hL0 a ha).2, plus_in ha]
            exact (hL0 a ha).2
          have r2 : Own K cl (less F' (brw A qs)) H' o v B := by
            rcases Bool.or_eq_true_iff.mp hc with z | z
            · rw [brw_nil (A := A) z]
              have : less F' [] = F' := by funext b; exact less_out (by simp)
              rw [this]
              exact r
            · exact oimm_less hWr o v B z r
          have fr : ∀ b ∈ B, H b = none := fun b hb => (g.ow b hb).elim (fun z => z.elim) id
          have le2 : Le F (less F' (brw A qs)) := fun a x q => by
            rw [less_out fun z => by rw [(hL0 a z).1] at q; cases q]
            exact g.ff a x (le a x q)
          have ow : ∀ b, ownd A b → less F' (brw A qs) b = none := fun b hb => by
            by_cases z : b ∈ brw A qs
            · exact less_in z
            · rw [less_out z]
              rw [hF' b (s.at_ hb).2, plus_out z]
              exact (s.at_ hb).1
          refine k v (less F' (brw A qs)) H' A B (s.mono le2 (fun a x q => ?_) fun b hb => ⟨ow b hb, fun y hy => g.keep b y hy fun z => z⟩) ⟨fun b x q _ => g.keep b x q fun z => z, le2, fun b q n => ?_, fun b hb => ?_⟩ r2 nd fun b hb z => ?_
          · by_cases z : a ∈ brw A qs
            · rw [less_in z] at q; cases q
            · rw [less_out z] at q; exact sb a x q
          · rw [less_out fun z => n (brw_own z), hF' b q, plus_out fun z => n (brw_own z)]
          · rcases hb with z | z
            · exact .inl z
            · exact .inr (fr b z)
          · obtain ⟨x, hx⟩ := wr_some (s.at_ z).2
            rw [fr b hb] at hx
            cases hx
      · cases e
end
end DL
/-! DL4: expressions. -/
namespace DL
open PySem L2

theorem PE.imp {X : Cx} {e : Expr} {t t' : TE} (h : PE X e t) (i : ∀ σ H Q, t' σ H Q → t σ H Q) : PE X e t' := ⟨fun pins s σ H Q I q => h.run pins s σ H Q I (i σ H Q q)⟩
theorem PT.imp {X : Cx} {e : Expr} {t t' : TT} (h : PT X e t) (i : ∀ σ H Q, t' σ H Q → t σ H Q) : PT X e t' := ⟨fun pins s σ H Q I q => h.run pins s σ H Q I (i σ H Q q)⟩
theorem PW.imp {X : Cx} {e : Expr} {t t' : TT} (h : PW X e t) (i : ∀ σ H Q, t' σ H Q → t σ H Q) : PW X e t' := ⟨fun wh pins s σ H Q I q => h.run wh pins s σ H Q I (i σ H Q q)⟩
theorem PA.imp {X : Cx} {es : List Expr} {t t' : TA} (h : PA X es t) (i : ∀ σ H Q, t' σ H Q → t σ H Q) : PA X es t' := ⟨fun pos pins s σ H Q I q => h.run pos pins s σ H Q I (i σ H Q q)⟩
theorem PS.imp {X : Cx} {st : Stmt} {t t' : TS} (h : PS X st t) (i : ∀ D σ H, t' D σ H → t D σ H) : PS X st t' := ⟨fun pins s σ H D I q => h.run pins s σ H D I (i D σ H q)⟩
theorem PSs.imp {X : Cx} {st : List Stmt} {t t' : TS} (h : PSs X st t) (i : ∀ D σ H, t' D σ H → t D σ H) : PSs X st t' := ⟨fun pins s σ H D I q => h.run pins s σ H D I (i D σ H q)⟩
theorem PE.or {X : Cx} {e : Expr} {t t' : TE} (h : PE X e t) (h' : PE X e t') : PE X e (fun σ H Q => t σ H Q ∨ t' σ H Q) := ⟨fun pins s σ H Q I q => q.elim (h.run pins s σ H Q I) (h'.run pins s σ H Q I)⟩
theorem PS.or {X : Cx} {e : Stmt} {t t' : TS} (h : PS X e t) (h' : PS X e t') : PS X e (fun D σ H => t D σ H ∨ t' D σ H) := ⟨fun pins s σ H Q I q => q.elim (h.run pins s σ H Q I) (h'.run pins s σ H Q I)⟩
theorem PI.or {X : Cx} {tg e : Expr} {t t' : TI} (h : PI X tg e t) (h' : PI X tg e t') : PI X tg e (fun σ H Q => t σ H Q ∨ t' σ H Q) := ⟨fun pins s σ H Q I q => q.elim (h.run pins s σ H Q I) (h'.run pins s σ H Q I)⟩

section
variable {X : Cx} {cl : Nat → Addr} {W : WX}
/-! ### what an expression, an operand, a test, arguments do by data -/
def EE (X : Cx) (cl : Nat → Addr) (W : WX) (e : Expr) (t : Rho → Res OV) : Prop := PE X e (LE X.K cl W t)
def EP' (X : Cx) (cl : Nat → Addr) (W : WX) (e : Expr) (t : Rho → Res Opd) : Prop := PE X e (LP X.K cl W t)
def ET (X : Cx) (cl : Nat → Addr) (W : WX) (e : Expr) (t : Rho → Res Bool) : Prop := PT X e (LT X.K cl W t)
def EW (X : Cx) (cl : Nat → Addr) (W : WX) (e : Expr) (t : Rho → Res Bool) : Prop := PW X e (LT X.K cl W t)
def EA (X : Cx) (cl : Nat → Addr) (W : WX) (es : List Expr) (t : Rho → Res (List Opd)) : Prop := PA X es (LA X.K cl W t)

@[simp] def OV.opd : OV → Opd
  | .b i => .b i
  | .o x => .d x.toD
/-- as an operand: new data is frozen, the owner of a slot is borrowed -/
@[simp] def evP (t : Rho → Res OV) : Rho → Res Opd := fun ρ => (t ρ).bind fun ov ρ' => .ok ov.opd ρ'
/-- as what is stored within other data: the owner of a slot is frozen -/
@[simp] def evS (t : Rho → Res OV) : Rho → Res Opd := fun ρ => (t ρ).bind fun ov ρ' => match ov with
  | .o o => .ok (.d o.toD) ρ'
  | .b i => match gt ρ' i with
    | .gone => .bad
    | o => .ok (.d o.toD) (ρ'.set i (.fz o.toD))

theorem ErrQ.pre {K : PySem.W.Frag} {F F1 H H1 : Hp} {σ : St} {P P1 : Addr → Prop} {x : Exn} {ρ' : Rho} (h : ErrQ K cl W P F H σ x ρ') (g : Gr P P1 F H F1 H1) : ErrQ K cl W P1 F1 H1 σ x ρ' :=
  fun F' H' A' c a s g' ex => h F' H' A' c a s (g.transE g') ex

/-- the slot i is frozen -/
theorem freezeSlot {K : PySem.W.Frag} {F H : Hp} {σ : St} {ρ : Rho} {A : Nat → List Addr} {i : Nat} (s : Sto K cl F H σ ρ A) (n : gt ρ i ≠ .gone) {v : V} (hv : σ[i]? = some (some v)) :
    ∃ F' A', Sto K cl F' H σ (ρ.set i (.fz (gt ρ i).toD)) A' ∧ Rep K cl F' (gt ρ i).toD v ∧ Gr (ownd A) (ownd A') F H F' H := by
  obtain ⟨v', ev, r⟩ := (s.sl i).own n
  rw [hv] at ev
  cases ev
  have hi := gt_lt n
  have s1 := s.drop (i := i) (x := some v)
  have dj : ∀ b ∈ A i, ¬ ownd (fun j => if j = i then [] else A j) b := fun b hb ⟨j, hj⟩ => by
    dsimp only at hj
    by_cases e : j = i
    · rw [if_pos e] at hj; cases hj
    · rw [if_neg e] at hj
      exact s.dis j i e b hj hb
  obtain ⟨s2, r2, le, out⟩ := freeze s1 r dj
  have s3 := s2.put (i := i) (v := v) (o := .fz (gt ρ i).toD) (B := []) (by rw [List.length_set]; exact hi) ⟨rfl, r2⟩ List.nodup_nil (fun b hb => by cases hb)
  rw [List.set_set, List.set_set] at s3
  have eσ : σ.set i (some v) = σ := by
    apply List.ext_getElem?
    intro j
    by_cases e : j = i
    · subst e
      rw [List.getElem?_set_self (by rw [← s.len]; exact hi), hv]
    · rw [List.getElem?_set_ne (Ne.symm e)]
  rw [eσ] at s3
  refine ⟨_, _, s3, r2, fun b o h _ => h, le, fun b h n' => out b fun z => n' ⟨i, z⟩, fun b ⟨j, hj⟩ => .inl ?_⟩
  dsimp only at hj
  by_cases e : j = i
  · rw [if_pos e] at hj; cases hj
  · rw [if_neg e, if_neg e] at hj
    exact ⟨j, hj⟩

theorem ee_p {e : Expr} {t : Rho → Res OV} (h : EE X cl W e t) : EP' X cl W e (evP t) := by
  refine PE.imp h fun σ H Q ⟨F, ρ, A, s, q⟩ => ⟨F, ρ, A, s, ?_⟩
  unfold evP at q
  cases e1 : t ρ with
  | bad => rw [e1] at q; exact q
  | err x ρ' => rw [e1] at q; exact q
  | ok ov ρ' =>
    rw [e1] at q
    intro v F' H' A' B s' g r nd dj
    cases ov with
    | b i =>
      obtain ⟨rfl, hv⟩ := r
      exact q v F' H' A' s' (g.sub fun b z => .inl z) hv
    | o o =>
      obtain ⟨s2, r2, le, out⟩ := freeze s' r dj
      exact q v _ H' A' s2 (g.frozen le) r2
theorem ee_s {e : Expr} {t : Rho → Res OV} (h : EE X cl W e t) : EP' X cl W e (evS t) := by
  refine PE.imp h fun σ H Q ⟨F, ρ, A, s, q⟩ => ⟨F, ρ, A, s, ?_⟩
  unfold evS at q
  cases e1 : t ρ with
  | bad => rw [e1] at q; exact q
  | err x ρ' => rw [e1] at q; exact q
  | ok ov ρ' =>
    rw [e1] at q
    intro v F' H' A' B s' g r nd dj
    cases ov with
    | b i =>
      obtain ⟨rfl, hv⟩ := r
      have n : gt ρ' i ≠ .gone := fun z => by
        dsimp only [Res.bind] at q
        rw [z] at q
        exact q
      obtain ⟨F2, A2, s2, r2, g2⟩ := freezeSlot s' n hv
      have q' : ∀ v F'_1 H' A', Sto X.K cl F'_1 H' σ (ρ'.set i (.fz (gt ρ' i).toD)) A' → Gr (ownd A) (ownd A') F H F'_1 H' → POk X.K cl F'_1 σ (.d (gt ρ' i).toD) v → Q v H' := by
        dsimp only [Res.bind] at q
        cases z : gt ρ' i with
        | gone => exact absurd z n
        | fz _ => rw [z] at q; exact q
        | tup _ => rw [z] at q; exact q
        | lst _ => rw [z] at q; exact q
        | dic _ => rw [z] at q; exact q
        | dct _ => rw [z] at q; exact q
        | ins _ _ => rw [z] at q; exact q
      exact q' v F2 H' A2 s2 ((g.sub fun b z => .inl z).trans g2) r2
    | o o =>
      obtain ⟨s2, r2, le, out⟩ := freeze s' r dj
      exact q v _ H' A' s2 (g.frozen le) r2

/-! ### names, constants -/
@[simp] def evName (i : Nat) : Rho → Res OV := fun ρ => match gt ρ i with
  | .gone => .bad
  | .fz d => .ok (.o (.fz d)) ρ
  | _ => .ok (.b i) ρ
theorem ee_of {K : PySem.W.Frag} {F H : Hp} {σ : St} {ρ : Rho} {A : Nat → List Addr} {o : OD} {v : V} {Q : VK} (s : Sto K cl F H σ ρ A) (r : Own K cl F H o v [])
    (q : ∀ v F' H' A' B, Sto K cl F' H' σ ρ A' → Gr (ownd A) (fun b => ownd A' b ∨ b ∈ B) F H F' H' → VOk K cl F' H' σ (.o o) v B → B.Nodup → (∀ b ∈ B, ¬ ownd A' b) → Q v H') : Q v H :=
  q v F H A [] s (Gr.refl.sub fun b z => z.elim id fun z => by cases z) r List.nodup_nil fun b z => by cases z
theorem ee_name {e : Expr} (i : Nat) (h : PE X e (tVar i)) : EE X cl W e (evName i) := by
  refine PE.imp h fun σ H Q ⟨F, ρ, A, s, q⟩ => ?_
  unfold evName at q
  have n : gt ρ i ≠ .gone := fun z => by
    rw [z] at q
    exact q
  obtain ⟨v, ev, r⟩ := (s.sl i).own n
  refine ⟨v, ev, ?_⟩
  have fin : (∀ v F' H' A' B, Sto X.K cl F' H' σ ρ A' → Gr (ownd A) (fun b => ownd A' b ∨ b ∈ B) F H F' H' → VOk X.K cl F' H' σ (.b i) v B → B.Nodup → (∀ b ∈ B, ¬ ownd A' b) → Q v H') → Q v H := fun k =>
    k v F H A [] s (Gr.refl.sub fun b z => z.elim id fun z => by cases z) ⟨rfl, ev⟩ List.nodup_nil fun b z => by cases z
  cases z : gt ρ i with
  | gone => exact absurd z n
  | fz d =>
    rw [z] at q r
    obtain ⟨eA, r⟩ := r
    exact ee_of (o := .fz d) s ⟨rfl, r⟩ q
  | tup _ => rw [z] at q; exact fin q
  | lst _ => rw [z] at q; exact fin q
  | dic _ => rw [z] at q; exact fin q
  | dct _ => rw [z] at q; exact fin q
  | ins _ _ => rw [z] at q; exact fin q
@[simp] def evC (d : D) : Rho → Res OV := fun ρ => .ok (.o (.fz d)) ρ
theorem ee_c {e : Expr} {x : V} (n : notRef x) (h : PE X e (tC x)) : EE X cl W e (evC (.v x)) := by
  refine PE.imp h fun σ H Q ⟨F, ρ, A, s, q⟩ => ?_
  exact ee_of (o := .fz (.v x)) s ⟨rfl, rfl, n⟩ q
theorem ee_int {i j pos} : EE X cl W (.Constant (.int i) j pos) (evC (.v (.int i))) := ee_c trivial pe_int
theorem ee_bl {b j pos} : EE X cl W (.Constant (.bool b) j pos) (evC (.v (.bl b))) := ee_c trivial pe_bl
theorem ee_non {j pos} : EE X cl W (.Constant .none j pos) (evC (.v .non)) := ee_c trivial pe_non
theorem ee_str {x j pos} : EE X cl W (.Constant (.str x) j pos) (evC (.v (.str x))) := ee_c trivial pe_str

/-! ### a step of two operands, of arguments -/
theorem POk.mono {K : PySem.W.Frag} {F F' : Hp} {σ : St} {q : Opd} {v : V} (h : POk K cl F σ q v) (le : Le F F') : POk K cl F' σ q v := by
  cases q with
  | d d => exact rep_mono le _ _ h
  | b i => exact h
theorem POks.mono {K : PySem.W.Frag} {F F' : Hp} {σ : St} (le : Le F F') : ∀ {qs : List Opd} {vs : List V}, POks K cl F σ qs vs → POks K cl F' σ qs vs
  | [], _, h => h
  | q :: qs, _, ⟨u, us, e, p, h⟩ => ⟨u, us, e, p.mono le, POks.mono le h⟩
@[simp] def ev2 (f : List D → Option OD) (ta tb : Rho → Res Opd) : Rho → Res OV := fun ρ => (ta ρ).bind fun x ρ1 => (tb ρ1).bind fun y ρ2 => fin f [x, y] ρ2
@[simp] def ev1 (f : List D → Option OD) (ta : Rho → Res Opd) : Rho → Res OV := fun ρ => (ta ρ).bind fun x ρ1 => fin f [x] ρ1
@[simp] def evN (f : List D → Option OD) (ta : Rho → Res (List Opd)) : Rho → Res OV := fun ρ => (ta ρ).bind fun xs ρ1 => fin f xs ρ1
/-- a rule of two values, as one of a list of them -/
abbrev R2L (r : R2) : List V → Hp → VK → Prop := fun vs H Q => ∃ x y, vs = [x, y] ∧ r x y H Q

/-- the last steps of all rules: what the end asks, brought to the primitive's end -/
theorem fin_end {K : PySem.W.Frag} {F F1 H H1 : Hp} {σ : St} {ρ1 : Rho} {A A1 : Nat → List Addr} {f : List D → Option OD} {R : List V → Hp → VK → Prop} {qs : List Opd} {vs : List V} {Q : VK}
    (pr : PrimOk K cl f R) (s1 : Sto K cl F1 H1 σ ρ1 A1) (g : Gr (ownd A) (ownd A1) F H F1 H1) (h : POks K cl F1 σ qs vs)
    (q : match fin f qs ρ1 with
      | .ok ov ρ' => ∀ v F' H' A' B, Sto K cl F' H' σ ρ' A' → Gr (ownd A) (fun b => ownd A' b ∨ b ∈ B) F H F' H' → VOk K cl F' H' σ ov v B → B.Nodup → (∀ b ∈ B, ¬ ownd A' b) → Q v H'
      | .err x ρ' => ErrQ K cl W (ownd A) F H σ x ρ'
      | .bad => False) : R vs H1 Q := by
  cases e : fin f qs ρ1 with
  | bad => rw [e] at q; exact q.elim
  | err x ρ' =>
    exfalso
    unfold fin at e
    split at e
    · cases e
    · split at e
      · cases e
      · split at e <;> cases e
  | ok ov ρ' =>
    rw [e] at q
    exact fin_ok pr s1 h e fun v F' H' A' B s' g' r nd dj => q v F' H' A' B s' (g.trans g') r nd dj

theorem ee_2 {e a b : Expr} {ta tb : Rho → Res Opd} {f : List D → Option OD} {r : R2} (hr : ∀ {ua ub : TE}, PE X a ua → PE X b ub → PE X e (tOp r ua ub)) (pr : PrimOk X.K cl f (R2L r)) (ha : EP' X cl W a ta) (hb : EP' X cl W b tb) : EE X cl W e (ev2 f ta tb) := by
  refine PE.imp (hr ha hb) fun σ H Q ⟨F, ρ, A, s, q⟩ => ⟨F, ρ, A, s, ?_⟩
  unfold ev2 at q
  cases e1 : ta ρ with
  | bad => rw [e1] at q; exact q
  | err x ρ' => rw [e1] at q; exact q
  | ok x ρ1 =>
    rw [e1] at q
    intro v F1 H1 A1 s1 g1 p1
    refine ⟨F1, ρ1, A1, s1, ?_⟩
    dsimp only [Res.bind] at q
    cases e2 : tb ρ1 with
    | bad => rw [e2] at q; exact q
    | err x ρ' => rw [e2] at q; exact ErrQ.pre q g1
    | ok y ρ2 =>
      rw [e2] at q
      intro u F2 H2 A2 s2 g2 p2
      obtain ⟨_, _, e, h⟩ := fin_end pr s2 (g1.trans g2) (qs := [x, y]) (vs := [v, u]) ⟨v, _, rfl, p1.mono g2.ff, u, _, rfl, p2, rfl⟩ q
      cases e
      exact h
theorem ee_op {a b : Expr} {ta tb : Rho → Res Opd} {op : Operator} {pos : Pos} {f : List D → Option OD} {r : R2} (ho : OpR X (binaryOp op) r) (pr : PrimOk X.K cl f (R2L r)) (ha : EP' X cl W a ta) (hb : EP' X cl W b tb) : EE X cl W (.BinOp a op b pos) (ev2 f ta tb) :=
  ee_2 (fun h1 h2 => pe_op ho h1 h2) pr ha hb
theorem ee_cmp {a b : Expr} {ta tb : Rho → Res Opd} {op : CmpOp} {pos : Pos} {f : List D → Option OD} {r : R2} (ho : OpR X (compareOp op) r) (pr : PrimOk X.K cl f (R2L r)) (ha : EP' X cl W a ta) (hb : EP' X cl W b tb) (hm : behindInMarks op b = false := by rfl) :
    EE X cl W (.Compare a [op] [b] pos) (ev2 f ta tb) :=
  ee_2 (fun h1 h2 => pe_cmpR ho h1 h2 hm) pr ha hb
theorem ee_ix {a b : Expr} {ta tb : Rho → Res Opd} {pos : Pos} {f : List D → Option OD} {r : R2} (ho : IxR X r) (pr : PrimOk X.K cl f (R2L r)) (ha : EP' X cl W a ta) (hb : EP' X cl W b tb) (hs : PlainIx b := by exact fun _ _ => rfl) :
    EE X cl W (.Subscript a b pos) (ev2 f ta tb) :=
  ee_2 (fun h1 h2 => pe_ix ho h1 h2 hs) pr ha hb
theorem ee_un {a : Expr} {ta : Rho → Res Opd} {op : UnaryOp} {pos : Pos} {f : List D → Option OD} {r : V → Hp → VK → Prop} (ho : UnR X (unaryOp op) r) (pr : PrimOk X.K cl f (fun vs H Q => ∃ x, vs = [x] ∧ r x H Q)) (ha : EP' X cl W a ta) : EE X cl W (.UnaryOp op a pos) (ev1 f ta) := by
  refine PE.imp (pe_un ho ha) fun σ H Q ⟨F, ρ, A, s, q⟩ => ⟨F, ρ, A, s, ?_⟩
  unfold ev1 at q
  cases e1 : ta ρ with
  | bad => rw [e1] at q; exact q
  | err x ρ' => rw [e1] at q; exact q
  | ok x ρ1 =>
    rw [e1] at q
    intro v F1 H1 A1 s1 g1 p1
    obtain ⟨_, e, h⟩ := fin_end pr s1 g1 (qs := [x]) (vs := [v]) ⟨v, _, rfl, p1, rfl⟩ q
    cases e
    exact h

/-! ### argument lists -/
@[simp] def evNil : Rho → Res (List Opd) := fun ρ => .ok [] ρ
@[simp] def evCons (t : Rho → Res Opd) (ts : Rho → Res (List Opd)) : Rho → Res (List Opd) := fun ρ => (t ρ).bind fun x ρ1 => (ts ρ1).bind fun xs ρ2 => .ok (x :: xs) ρ2
theorem ea_nil : EA X cl W [] evNil := PA.imp pa_nil fun σ H Q ⟨F, ρ, A, s, q⟩ => q [] F H A s Gr.refl rfl
theorem ea_cons {e : Expr} {es : List Expr} {t : Rho → Res Opd} {ts : Rho → Res (List Opd)} (h : EP' X cl W e t) (hs : EA X cl W es ts) (he : starEach (e :: es) X.env = (false, eval e X.env) :: starEach es X.env := by rfl) : EA X cl W (e :: es) (evCons t ts) := by
  refine PA.imp (pa_cons h hs he) fun σ H Q ⟨F, ρ, A, s, q⟩ => ⟨F, ρ, A, s, ?_⟩
  unfold evCons at q
  cases e1 : t ρ with
  | bad => rw [e1] at q; exact q
  | err x ρ' => rw [e1] at q; exact q
  | ok x ρ1 =>
    rw [e1] at q
    intro v F1 H1 A1 s1 g1 p1
    refine ⟨F1, ρ1, A1, s1, ?_⟩
    dsimp only [Res.bind] at q
    cases e2 : ts ρ1 with
    | bad => rw [e2] at q; exact q
    | err x ρ' => rw [e2] at q; exact ErrQ.pre q g1
    | ok ys ρ2 =>
      rw [e2] at q
      intro us F2 H2 A2 s2 g2 p2
      exact q (v :: us) F2 H2 A2 s2 (g1.trans g2) ⟨v, us, rfl, p1.mono g2.ff, p2⟩
/-- a step of a list of operands -/
theorem ee_n {e : Expr} {es : List Expr} {ts : Rho → Res (List Opd)} {f : List D → Option OD} {R : List V → Hp → VK → Prop} (hr : ∀ {ta : TA}, PA X es ta → PE X e (fun σ H Q => ta σ H fun vs H1 => R vs H1 Q)) (pr : PrimOk X.K cl f R) (ha : EA X cl W es ts) : EE X cl W e (evN f ts) := by
  refine PE.imp (hr ha) fun σ H Q ⟨F, ρ, A, s, q⟩ => ⟨F, ρ, A, s, ?_⟩
  unfold evN at q
  cases e1 : ts ρ with
  | bad => rw [e1] at q; exact q
  | err x ρ' => rw [e1] at q; exact q
  | ok xs ρ1 =>
    rw [e1] at q
    intro vs F1 H1 A1 s1 g1 p1
    exact fin_end pr s1 g1 p1 q
end
end DL
/-! DL5: tests, statements. -/
namespace DL
open PySem L2
section
variable {X : Cx} {cl : Nat → Addr} {W : WX} {pn : List Nat}

/-! ### tests -/
@[simp] def Opd.bool : Opd → Option Bool
  | .d (.v (.bl k)) => some k
  | _ => none
@[simp] def evT (t : Rho → Res Opd) : Rho → Res Bool := fun ρ => (t ρ).bind fun q ρ1 => match q.bool with
  | some b => .ok b ρ1
  | none => .bad
theorem Opd.bool_some {q : Opd} {b : Bool} (h : q.bool = some b) : q = .d (.v (.bl b)) := by
  unfold Opd.bool at h
  split at h
  · cases h; rfl
  · cases h
theorem et_val {e : Expr} {t : Rho → Res Opd} (h : EP' X cl W e t) (he : ∀ whole, isTrue e X.env whole = (do let v ← whole; standAt e.pos; holding [v] (truthy v)) := by intro _; rfl) : ET X cl W e (evT t) := by
  refine PT.imp (pt_val h he) fun σ H Q ⟨F, ρ, A, s, q⟩ => ⟨F, ρ, A, s, ?_⟩
  unfold evT at q
  cases e1 : t ρ with
  | bad => rw [e1] at q; exact q
  | err x ρ' => rw [e1] at q; exact q
  | ok o ρ1 =>
    rw [e1] at q
    dsimp only [Res.bind] at q
    cases e2 : o.bool with
    | none => rw [e2] at q; exact q.elim
    | some b =>
      rw [e2] at q
      cases Opd.bool_some e2
      intro v F1 H1 A1 s1 g1 p1
      exact ⟨b, p1.1, q F1 H1 A1 s1 g1⟩
@[simp] def evAnd (ta tb : Rho → Res Bool) : Rho → Res Bool := fun ρ => (ta ρ).bind fun a ρ1 => match a with
  | true => tb ρ1
  | false => .ok false ρ1
@[simp] def evOr (ta tb : Rho → Res Bool) : Rho → Res Bool := fun ρ => (ta ρ).bind fun a ρ1 => match a with
  | true => .ok true ρ1
  | false => tb ρ1
@[simp] def evNot (ta : Rho → Res Bool) : Rho → Res Bool := fun ρ => (ta ρ).bind fun a ρ1 => .ok (!a) ρ1
theorem et_w {e : Expr} {t : Rho → Res Bool} (h : EW X cl W e t) : ET X cl W e t := PW.pt h
theorem ew_and1 {a : Expr} {pos : Pos} {t : Rho → Res Bool} (h : ET X cl W a t) : EW X cl W (.BoolOp .And [a] pos) t := pw_and1 h
theorem ew_or1 {a : Expr} {pos : Pos} {t : Rho → Res Bool} (h : ET X cl W a t) : EW X cl W (.BoolOp .Or [a] pos) t := pw_or1 h
theorem ew_and {a b : Expr} {rest : List Expr} {pos : Pos} {ta tb : Rho → Res Bool} (h : ET X cl W a ta) (h' : EW X cl W (.BoolOp .And (b :: rest) pos) tb) : EW X cl W (.BoolOp .And (a :: b :: rest) pos) (evAnd ta tb) := by
  refine PW.imp (pw_and h h') fun σ H Q ⟨F, ρ, A, s, q⟩ => ⟨F, ρ, A, s, ?_⟩
  unfold evAnd at q
  cases e1 : ta ρ with
  | bad => rw [e1] at q; exact q
  | err x ρ' => rw [e1] at q; exact q
  | ok b ρ1 =>
    rw [e1] at q
    intro F1 H1 A1 s1 g1
    cases b with
    | false => exact q F1 H1 A1 s1 g1
    | true =>
      refine ⟨F1, ρ1, A1, s1, ?_⟩
      dsimp only [Res.bind] at q
      cases e2 : tb ρ1 with
      | bad => rw [e2] at q; exact q
      | err x ρ' => rw [e2] at q; exact ErrQ.pre q g1
      | ok b' ρ2 =>
        rw [e2] at q
        exact fun F2 H2 A2 s2 g2 => q F2 H2 A2 s2 (g1.trans g2)
theorem ew_or {a b : Expr} {rest : List Expr} {pos : Pos} {ta tb : Rho → Res Bool} (h : ET X cl W a ta) (h' : EW X cl W (.BoolOp .Or (b :: rest) pos) tb) : EW X cl W (.BoolOp .Or (a :: b :: rest) pos) (evOr ta tb) := by
  refine PW.imp (pw_or h h') fun σ H Q ⟨F, ρ, A, s, q⟩ => ⟨F, ρ, A, s, ?_⟩
  unfold evOr at q
  cases e1 : ta ρ with
  | bad => rw [e1] at q; exact q
  | err x ρ' => rw [e1] at q; exact q
  | ok b ρ1 =>
    rw [e1] at q
    intro F1 H1 A1 s1 g1
    cases b with
    | true => exact q F1 H1 A1 s1 g1
    | false =>
      refine ⟨F1, ρ1, A1, s1, ?_⟩
      dsimp only [Res.bind] at q
      cases e2 : tb ρ1 with
      | bad => rw [e2] at q; exact q
      | err x ρ' => rw [e2] at q; exact ErrQ.pre q g1
      | ok b' ρ2 =>
        rw [e2] at q
        exact fun F2 H2 A2 s2 g2 => q F2 H2 A2 s2 (g1.trans g2)
theorem et_not {a : Expr} {pos : Pos} {ta : Rho → Res Bool} (h : ET X cl W a ta) : ET X cl W (.UnaryOp .Not a pos) (evNot ta) := by
  refine PT.imp (pt_not h) fun σ H Q ⟨F, ρ, A, s, q⟩ => ⟨F, ρ, A, s, ?_⟩
  unfold evNot at q
  cases e1 : ta ρ with
  | bad => rw [e1] at q; exact q
  | err x ρ' => rw [e1] at q; exact q
  | ok b ρ1 =>
    rw [e1] at q
    exact q
/-! the same as values -/
abbrev ovB (b : Bool) : OV := .o (.fz (.v (.bl b)))
@[simp] def OV.bool : OV → Option Bool
  | .o (.fz (.v (.bl k))) => some k
  | _ => none
theorem OV.bool_some {q : OV} {b : Bool} (h : q.bool = some b) : q = ovB b := by
  unfold OV.bool at h
  split at h
  · cases h; rfl
  · cases h
@[simp] def evAndV (ta tb : Rho → Res OV) : Rho → Res OV := fun ρ => (ta ρ).bind fun a ρ1 => match a.bool with
  | some true => tb ρ1
  | some false => .ok (ovB false) ρ1
  | none => .bad
@[simp] def evOrV (ta tb : Rho → Res OV) : Rho → Res OV := fun ρ => (ta ρ).bind fun a ρ1 => match a.bool with
  | some true => .ok (ovB true) ρ1
  | some false => tb ρ1
  | none => .bad
@[simp] def evNotV (ta : Rho → Res OV) : Rho → Res OV := fun ρ => (ta ρ).bind fun a ρ1 => match a.bool with
  | some b => .ok (ovB (!b)) ρ1
  | none => .bad
theorem ee_one {a : Expr} {op : BoolOp} {pos : Pos} {t : Rho → Res OV} (h : EE X cl W a t) : EE X cl W (.BoolOp op [a] pos) t := pe_one h
theorem own_bl {K : PySem.W.Frag} {F H : Hp} {b : Bool} {v : V} {B : List Addr} (r : Own K cl F H (.fz (.v (.bl b))) v B) : v = .bl b ∧ B = [] := ⟨r.2.1, r.1⟩
theorem own_mk {K : PySem.W.Frag} {F H : Hp} {b : Bool} : Own K cl F H (.fz (.v (.bl b))) (.bl b) [] := ⟨rfl, rfl, trivial⟩
theorem gr0 {F H F1 H1 : Hp} {P : Addr → Prop} {A : Nat → List Addr} (g : Gr P (fun b => ownd A b ∨ b ∈ ([] : List Addr)) F H F1 H1) : Gr P (ownd A) F H F1 H1 := g.sub fun b z => .inl z
theorem gr1 {F H F1 H1 : Hp} {P : Addr → Prop} {A : Nat → List Addr} (g : Gr P (ownd A) F H F1 H1) : Gr P (fun b => ownd A b ∨ b ∈ ([] : List Addr)) F H F1 H1 := g.sub fun b z => z.elim id fun z => by cases z
theorem ee_and {a b : Expr} {rest : List Expr} {pos : Pos} {ta tb : Rho → Res OV} (h : EE X cl W a ta) (h' : EE X cl W (.BoolOp .And (b :: rest) pos) tb) : EE X cl W (.BoolOp .And (a :: b :: rest) pos) (evAndV ta tb) := by
  refine PE.imp (pe_and h h') fun σ H Q ⟨F, ρ, A, s, q⟩ => ⟨F, ρ, A, s, ?_⟩
  unfold evAndV at q
  cases e1 : ta ρ with
  | bad => rw [e1] at q; exact q
  | err x ρ' => rw [e1] at q; exact q
  | ok o ρ1 =>
    rw [e1] at q
    dsimp only [Res.bind] at q
    intro v F1 H1 A1 B s1 g1 r1 nd dj
    cases e2 : o.bool with
    | none => rw [e2] at q; exact q.elim
    | some c =>
      rw [e2] at q
      cases OV.bool_some e2
      obtain ⟨rfl, rfl⟩ := own_bl (H := H1) r1
      refine ⟨c, rfl, ?_⟩
      cases c with
      | false => exact q _ F1 H1 A1 [] s1 g1 (own_mk (H := H1)) nd dj
      | true =>
        refine ⟨F1, ρ1, A1, s1, ?_⟩
        dsimp only at q
        cases e3 : tb ρ1 with
        | bad => rw [e3] at q; exact q
        | err x ρ' => rw [e3] at q; exact ErrQ.pre q (gr0 g1)
        | ok o2 ρ2 =>
          rw [e3] at q
          exact fun v2 F2 H2 A2 B2 s2 g2 => q v2 F2 H2 A2 B2 s2 ((gr0 g1).trans g2)
theorem ee_or {a b : Expr} {rest : List Expr} {pos : Pos} {ta tb : Rho → Res OV} (h : EE X cl W a ta) (h' : EE X cl W (.BoolOp .Or (b :: rest) pos) tb) : EE X cl W (.BoolOp .Or (a :: b :: rest) pos) (evOrV ta tb) := by
  refine PE.imp (pe_or h h') fun σ H Q ⟨F, ρ, A, s, q⟩ => ⟨F, ρ, A, s, ?_⟩
  unfold evOrV at q
  cases e1 : ta ρ with
  | bad => rw [e1] at q; exact q
  | err x ρ' => rw [e1] at q; exact q
  | ok o ρ1 =>
    rw [e1] at q
    dsimp only [Res.bind] at q
    intro v F1 H1 A1 B s1 g1 r1 nd dj
    cases e2 : o.bool with
    | none => rw [e2] at q; exact q.elim
    | some c =>
      rw [e2] at q
      cases OV.bool_some e2
      obtain ⟨rfl, rfl⟩ := own_bl (H := H1) r1
      refine ⟨c, rfl, ?_⟩
      cases c with
      | true => exact q _ F1 H1 A1 [] s1 g1 (own_mk (H := H1)) nd dj
      | false =>
        refine ⟨F1, ρ1, A1, s1, ?_⟩
        dsimp only at q
        cases e3 : tb ρ1 with
        | bad => rw [e3] at q; exact q
        | err x ρ' => rw [e3] at q; exact ErrQ.pre q (gr0 g1)
        | ok o2 ρ2 =>
          rw [e3] at q
          exact fun v2 F2 H2 A2 B2 s2 g2 => q v2 F2 H2 A2 B2 s2 ((gr0 g1).trans g2)
theorem ee_not {a : Expr} {pos : Pos} {ta : Rho → Res OV} (h : EE X cl W a ta) : EE X cl W (.UnaryOp .Not a pos) (evNotV ta) := by
  refine PE.imp (pe_not h) fun σ H Q ⟨F, ρ, A, s, q⟩ => ⟨F, ρ, A, s, ?_⟩
  unfold evNotV at q
  cases e1 : ta ρ with
  | bad => rw [e1] at q; exact q
  | err x ρ' => rw [e1] at q; exact q
  | ok o ρ1 =>
    rw [e1] at q
    dsimp only [Res.bind] at q
    intro v F1 H1 A1 B s1 g1 r1 nd dj
    cases e2 : o.bool with
    | none => rw [e2] at q; exact q.elim
    | some c =>
      rw [e2] at q
      cases OV.bool_some e2
      obtain ⟨rfl, rfl⟩ := own_bl (H := H1) r1
      exact ⟨c, rfl, q _ F1 H1 A1 [] s1 g1 (own_mk (H := H1)) nd dj⟩

/-! ### statements -/
def ES (X : Cx) (cl : Nat → Addr) (pn : List Nat) (W : WX) (st : Stmt) (t : Rho → Res Fl) : Prop := PS X st (LS X.K cl pn W t)
def ESs (X : Cx) (cl : Nat → Addr) (pn : List Nat) (W : WX) (st : List Stmt) (t : Rho → Res Fl) : Prop := PSs X st (LS X.K cl pn W t)
@[simp] def sNext : Rho → Res Fl := fun ρ => .ok .next ρ
@[simp] def sSeq (t u : Rho → Res Fl) : Rho → Res Fl := fun ρ => match t ρ with
  | .ok .next ρ1 => u ρ1
  | r => r
/-- the ends of a statement behind another one -/
theorem LS.pre {K : PySem.W.Frag} {t : Rho → Res Fl} {D : Ends} {σ σ1 : St} {F F1 H H1 : Hp} {ρ1 : Rho} {A A1 : Nat → List Addr} (s1 : Sto K cl F1 H1 σ1 ρ1 A1) (g1 : Gr (ownd A) (ownd A1) F H F1 H1) (p1 : ∀ i ∈ pn, σ1[i]? = σ[i]?)
    (q : match t ρ1 with
      | .ok .next ρ' => ∀ σ' F' H' A', Sto K cl F' H' σ' ρ' A' → Gr (ownd A) (ownd A') F H F' H' → (∀ i ∈ pn, σ'[i]? = σ[i]?) → D.nx σ' H'
      | .ok .brk ρ' => ∀ σ' F' H' A', Sto K cl F' H' σ' ρ' A' → Gr (ownd A) (ownd A') F H F' H' → (∀ i ∈ pn, σ'[i]? = σ[i]?) → D.bk σ' H'
      | .ok .cont ρ' => ∀ σ' F' H' A', Sto K cl F' H' σ' ρ' A' → Gr (ownd A) (ownd A') F H F' H' → (∀ i ∈ pn, σ'[i]? = σ[i]?) → D.ct σ' H'
      | .ok (.ret ov) ρ' => ∀ v σ' F' H' A' B, Sto K cl F' H' σ' ρ' A' → Gr (ownd A) (fun b => ownd A' b ∨ b ∈ B) F H F' H' → (∀ i ∈ pn, σ'[i]? = σ[i]?) → VOk K cl F' H' σ' ov v B → B.Nodup → (∀ b ∈ B, ¬ ownd A' b) → D.rt v H'
      | .err x ρ' => ∀ σ' F' H' A' c a, Sto K cl F' H' σ' ρ' A' → GrE (ownd A) (ownd A') F H F' H' → (∀ i ∈ pn, σ'[i]? = σ[i]?) → ExOk K cl F' H' x c a → W c a σ' H'
      | .bad => False) : LS K cl pn W t D σ1 H1 := by
  refine ⟨F1, ρ1, A1, s1, ?_⟩
  cases e : t ρ1 with
  | bad => rw [e] at q; exact q
  | err x ρ' => rw [e] at q; exact fun σ' F' H' A' c a s' g' p' => q σ' F' H' A' c a s' (g1.transE g') (fun i hi => (p' i hi).trans (p1 i hi))
  | ok f ρ' =>
    cases f with
    | next => rw [e] at q; exact fun σ' F' H' A' s' g' p' => q σ' F' H' A' s' (g1.trans g') (fun i hi => (p' i hi).trans (p1 i hi))
    | brk => rw [e] at q; exact fun σ' F' H' A' s' g' p' => q σ' F' H' A' s' (g1.trans g') (fun i hi => (p' i hi).trans (p1 i hi))
    | cont => rw [e] at q; exact fun σ' F' H' A' s' g' p' => q σ' F' H' A' s' (g1.trans g') (fun i hi => (p' i hi).trans (p1 i hi))
    | ret ov => rw [e] at q; exact fun v σ' F' H' A' B s' g' p' => q v σ' F' H' A' B s' (g1.trans g') (fun i hi => (p' i hi).trans (p1 i hi))
theorem ss_nil : ESs X cl pn W [] sNext := PSs.imp pss_nil fun D σ H ⟨F, ρ, A, s, q⟩ => q σ F H A s Gr.refl fun _ _ => rfl
theorem ss_cons {st : Stmt} {rest : List Stmt} {t u : Rho → Res Fl} (h : ES X cl pn W st t) (h' : ESs X cl pn W rest u) : ESs X cl pn W (st :: rest) (sSeq t u) := by
  refine PSs.imp (pss_cons h h') fun D σ H ⟨F, ρ, A, s, q⟩ => ⟨F, ρ, A, s, ?_⟩
  unfold sSeq at q
  cases e : t ρ with
  | bad => rw [e] at q; exact q
  | err x ρ' => rw [e] at q; exact q
  | ok f ρ' =>
    cases f with
    | next => rw [e] at q; exact fun σ1 F1 H1 A1 s1 g1 p1 => LS.pre s1 g1 p1 q
    | brk => rw [e] at q; exact q
    | cont => rw [e] at q; exact q
    | ret ov => rw [e] at q; exact q
theorem ss_one {st : Stmt} {t : Rho → Res Fl} (h : ES X cl pn W st t) : ESs X cl pn W [st] t := pss_one h
@[simp] def sBrk : Rho → Res Fl := fun ρ => .ok .brk ρ
@[simp] def sCont : Rho → Res Fl := fun ρ => .ok .cont ρ
theorem es_pass {pos : Pos} : ES X cl pn W (.Pass pos) sNext := PS.imp ps_pass fun D σ H ⟨F, ρ, A, s, q⟩ => q σ F H A s Gr.refl fun _ _ => rfl
theorem es_brk {pos : Pos} : ES X cl pn W (.Break pos) sBrk := PS.imp ps_break fun D σ H ⟨F, ρ, A, s, q⟩ => q σ F H A s Gr.refl fun _ _ => rfl
theorem es_cont {pos : Pos} : ES X cl pn W (.Continue pos) sCont := PS.imp ps_continue fun D σ H ⟨F, ρ, A, s, q⟩ => q σ F H A s Gr.refl fun _ _ => rfl
@[simp] def sBad : Rho → Res Fl := fun _ => .bad
theorem es_bad {st : Stmt} : ES X cl pn W st sBad := PS.imp ps_never fun D σ H ⟨F, ρ, A, s, q⟩ => q
theorem ss_bad {sts : List Stmt} : ESs X cl pn W sts sBad := PSs.imp pss_never fun D σ H ⟨F, ρ, A, s, q⟩ => q
@[simp] def sIf (c : Rho → Res Bool) (t u : Rho → Res Fl) : Rho → Res Fl := fun ρ => match c ρ with
  | .ok b ρ1 => (match b with | true => t ρ1 | false => u ρ1)
  | .err x ρ1 => .err x ρ1
  | .bad => .bad
theorem es_if {c : Expr} {a b : List Stmt} {pos : Pos} {tc : Rho → Res Bool} {t u : Rho → Res Fl} (hc : ET X cl W c tc) (ha : ESs X cl pn W a t) (hb : ESs X cl pn W b u) : ES X cl pn W (.If c a b pos) (sIf tc t u) := by
  refine PS.imp (ps_if hc ha hb) fun D σ H ⟨F, ρ, A, s, q⟩ => ⟨F, ρ, A, s, ?_⟩
  unfold sIf at q
  cases e : tc ρ with
  | bad => rw [e] at q; exact q
  | err x ρ' => rw [e] at q; exact fun F' H' A' c a s' g' => q σ F' H' A' c a s' g' fun _ _ => rfl
  | ok b ρ1 =>
    rw [e] at q
    intro F1 H1 A1 s1 g1
    cases b with
    | true => exact LS.pre s1 g1 (fun _ _ => rfl) q
    | false => exact LS.pre s1 g1 (fun _ _ => rfl) q
@[simp] def sRet (t : Rho → Res OV) : Rho → Res Fl := fun ρ => match t ρ with
  | .ok ov ρ1 => .ok (.ret ov) ρ1
  | .err x ρ1 => .err x ρ1
  | .bad => .bad
theorem es_ret {e : Expr} {pos : Pos} {t : Rho → Res OV} (h : EE X cl W e t) : ES X cl pn W (.Return (some e) pos) (sRet t) := by
  refine PS.imp (ps_ret h) fun D σ H ⟨F, ρ, A, s, q⟩ => ⟨F, ρ, A, s, ?_⟩
  unfold sRet at q
  cases e1 : t ρ with
  | bad => rw [e1] at q; exact q
  | err x ρ' => rw [e1] at q; exact fun F' H' A' c a s' g' => q σ F' H' A' c a s' g' fun _ _ => rfl
  | ok ov ρ1 => rw [e1] at q; exact fun v F' H' A' B s' g' r nd dj => q v σ F' H' A' B s' g' (fun _ _ => rfl) r nd dj
@[simp] def sRetN : Rho → Res Fl := fun ρ => .ok (.ret (.o (.fz (.v .non)))) ρ
theorem es_retN {pos : Pos} : ES X cl pn W (.Return none pos) sRetN := PS.imp ps_retN fun D σ H ⟨F, ρ, A, s, q⟩ => q .non σ F H A [] s (gr1 Gr.refl) (fun _ _ => rfl) ⟨rfl, rfl, trivial⟩ List.nodup_nil (fun b z => by cases z)
@[simp] def sExp (t : Rho → Res OV) : Rho → Res Fl := fun ρ => match t ρ with
  | .ok _ ρ1 => .ok .next ρ1
  | .err x ρ1 => .err x ρ1
  | .bad => .bad
theorem es_exp {e : Expr} {pos : Pos} {t : Rho → Res OV} (h : EE X cl W e t) (hs : swapsWith e none pos.line X.env = pure false := by rfl) : ES X cl pn W (.Expr e pos) (sExp t) := by
  refine PS.imp (ps_expr h hs) fun D σ H ⟨F, ρ, A, s, q⟩ => ⟨F, ρ, A, s, ?_⟩
  unfold sExp at q
  cases e1 : t ρ with
  | bad => rw [e1] at q; exact q
  | err x ρ' => rw [e1] at q; exact fun F' H' A' c a s' g' => q σ F' H' A' c a s' g' fun _ _ => rfl
  | ok ov ρ1 => rw [e1] at q; exact fun v F' H' A' B s' g' r nd dj => q σ F' H' A' s' (g'.sub fun b z => .inl z) fun _ _ => rfl
/-- what is stored at a name: new data as its own, the owner of another slot frozen -/
@[simp] def sSet (i : Nat) (t : Rho → Res OV) : Rho → Res Fl := fun ρ => match t ρ with
  | .ok (.o o) ρ1 => if i < ρ1.length then .ok .next (ρ1.set i o) else .bad
  | .ok (.b j) ρ1 => if i < ρ1.length then (match gt ρ1 j with
    | .gone => .bad
    | o => .ok .next ((ρ1.set j (.fz o.toD)).set i (.fz o.toD))) else .bad
  | .err x ρ1 => .err x ρ1
  | .bad => .bad
theorem pn_set {σ : St} {i : Nat} {x : Option V} (h : i ∉ pn) : ∀ j ∈ pn, (σ.set i x)[j]? = σ[j]? := fun j hj => by
  rw [List.getElem?_set_ne]
  rintro rfl
  exact h hj
theorem es_setR {st : Stmt} {i : Nat} {t : Rho → Res OV} {u : TE} (hp : i ∉ pn) (h : PS X st (tAsg u (gName i))) (hu : ∀ σ H Q, LE X.K cl W t σ H Q → u σ H Q) : ES X cl pn W st (sSet i t) := by
  refine PS.imp h fun D σ H ⟨F, ρ, A, s, q⟩ => hu σ H _ ⟨F, ρ, A, s, ?_⟩
  unfold sSet at q
  cases e1 : t ρ with
  | bad => rw [e1] at q; exact q
  | err x ρ' => rw [e1] at q; exact fun F' H' A' c a s' g' => q σ F' H' A' c a s' g' fun _ _ => rfl
  | ok ov ρ1 =>
    rw [e1] at q
    intro v F' H' A' B s' g r nd dj
    show D.nx (σ.set i (some v)) H'
    cases ov with
    | o o =>
      dsimp only at q
      by_cases hi : i < ρ1.length
      · rw [if_pos hi] at q
        refine q _ F' H' (fun j => if j = i then B else A' j) (s'.put hi r nd fun b hb j _ hj => dj b hb ⟨j, hj⟩) ⟨g.keep, g.ff, g.new, fun b ⟨j, hj⟩ => ?_⟩ (pn_set hp)
        dsimp only at hj
        split at hj
        · exact g.ow b (.inr hj)
        · exact g.ow b (.inl ⟨j, hj⟩)
      · rw [if_neg hi] at q
        exact q.elim
    | b j =>
      obtain ⟨rfl, hv⟩ := r
      dsimp only at q
      by_cases hi : i < ρ1.length
      · rw [if_pos hi] at q
        have n : gt ρ1 j ≠ .gone := fun z => by
          rw [z] at q
          exact q
        have q' : ∀ σ' F' H' A', Sto X.K cl F' H' σ' ((ρ1.set j (.fz (gt ρ1 j).toD)).set i (.fz (gt ρ1 j).toD)) A' → Gr (ownd A) (ownd A') F H F' H' → (∀ i ∈ pn, σ'[i]? = σ[i]?) → D.nx σ' H' := by
          cases z : gt ρ1 j with
          | gone => exact absurd z n
          | fz _ => rw [z] at q; exact q
          | tup _ => rw [z] at q; exact q
          | lst _ => rw [z] at q; exact q
          | dic _ => rw [z] at q; exact q
          | dct _ => rw [z] at q; exact q
          | ins _ _ => rw [z] at q; exact q
        obtain ⟨F2, A2, s2, r2, g2⟩ := freezeSlot s' n hv
        refine q' _ F2 H' (fun k => if k = i then [] else A2 k) (s2.put (o := .fz (gt ρ1 j).toD) (B := []) (by rw [List.length_set]; exact hi) ⟨rfl, r2⟩ List.nodup_nil fun b hb => by cases hb) (((gr0 g).trans g2).sub fun b ⟨k, hk⟩ => ?_) (pn_set hp)
        dsimp only at hk
        split at hk
        · cases hk
        · exact ⟨k, hk⟩
      · rw [if_neg hi] at q
        exact q.elim
theorem es_set {i : Nat} {x : Str} {e : Expr} {pos pos' : Pos} {t : Rho → Res OV} (hp : i ∉ pn) (hN : X.N.Nodup) (hi : X.N[i]? = some x) (hx : Loc X.env.scope x) (h : EE X cl W e t) (hs : swapsWith e (some (.Name x pos')) pos.line X.env = pure false := by rfl) (hf : X.fn x = true ∨ X.env.scope.names.lookup x = some .local := by first | exact .inl rfl | exact .inr rfl | assumption) :
    ES X cl pn W (.Assign [.Name x pos'] e pos) (sSet i t) := es_setR hp (ps_set hN hi hx h hs hf) fun _ _ _ h => h

/-! ### while -/
def whileN (c : Rho → Res Bool) (b : Rho → Res Fl) : Nat → Rho → Res Fl
  | 0, _ => .bad
  | n + 1, ρ => match c ρ with
    | .ok true ρ1 => (match b ρ1 with
      | .ok .next ρ2 => whileN c b n ρ2
      | .ok .cont ρ2 => whileN c b n ρ2
      | .ok .brk ρ2 => .ok .next ρ2
      | r => r)
    | .ok false ρ1 => .ok .next ρ1
    | .err x ρ1 => .err x ρ1
    | .bad => .bad
theorem es_while {c : Expr} {body : List Stmt} {pos : Pos} {tc : Rho → Res Bool} {tb : Rho → Res Fl} (n : Nat) (hp : PassesOwn (model X.prog X.w) X.A X.env X.xe) (hc : ET X cl W c tc) (hb : ESs X cl pn W body tb) : ES X cl pn W (.While c body [] pos) (whileN tc tb n) := by
  refine PS.imp (ps_while hp hc hb) fun D σ0 H0 ⟨F0, ρ0, A0, s0, q0⟩ => ?_
  refine ⟨fun m σ H => ∃ F ρ A, Sto X.K cl F H σ ρ A ∧ Gr (ownd A0) (ownd A) F0 H0 F H ∧ (∀ i ∈ pn, σ[i]? = σ0[i]?) ∧ match whileN tc tb m ρ with
      | .ok .next ρ' => ∀ σ' F' H' A', Sto X.K cl F' H' σ' ρ' A' → Gr (ownd A0) (ownd A') F0 H0 F' H' → (∀ i ∈ pn, σ'[i]? = σ0[i]?) → D.nx σ' H'
      | .ok .brk ρ' => ∀ σ' F' H' A', Sto X.K cl F' H' σ' ρ' A' → Gr (ownd A0) (ownd A') F0 H0 F' H' → (∀ i ∈ pn, σ'[i]? = σ0[i]?) → D.bk σ' H'
      | .ok .cont ρ' => ∀ σ' F' H' A', Sto X.K cl F' H' σ' ρ' A' → Gr (ownd A0) (ownd A') F0 H0 F' H' → (∀ i ∈ pn, σ'[i]? = σ0[i]?) → D.ct σ' H'
      | .ok (.ret ov) ρ' => ∀ v σ' F' H' A' B, Sto X.K cl F' H' σ' ρ' A' → Gr (ownd A0) (fun b => ownd A' b ∨ b ∈ B) F0 H0 F' H' → (∀ i ∈ pn, σ'[i]? = σ0[i]?) → VOk X.K cl F' H' σ' ov v B → B.Nodup → (∀ b ∈ B, ¬ ownd A' b) → D.rt v H'
      | .err x ρ' => ∀ σ' F' H' A' c a, Sto X.K cl F' H' σ' ρ' A' → GrE (ownd A0) (ownd A') F0 H0 F' H' → (∀ i ∈ pn, σ'[i]? = σ0[i]?) → ExOk X.K cl F' H' x c a → W c a σ' H'
      | .bad => False, ⟨n, F0, ρ0, A0, s0, Gr.refl, fun _ _ => rfl, q0⟩, ?_⟩
  rintro m σ H ⟨F, ρ, A, s, g, p, q⟩
  cases m with
  | zero => exact q.elim
  | succ m =>
    refine ⟨F, ρ, A, s, ?_⟩
    unfold whileN at q
    cases e : tc ρ with
    | bad => rw [e] at q; exact q
    | err x ρ' => rw [e] at q; exact fun F' H' A' c a s' g' => q σ F' H' A' c a s' (g.transE g') p
    | ok b ρ1 =>
      rw [e] at q
      intro F1 H1 A1 s1 g1
      cases b with
      | false => exact q σ F1 H1 A1 s1 (g.trans g1) p
      | true =>
        refine ⟨_, fun σ' H' w => ⟨m, Nat.lt_succ_self m, w⟩, F1, ρ1, A1, s1, ?_⟩
        dsimp only at q
        cases e2 : tb ρ1 with
        | bad => rw [e2] at q; exact q
        | err x ρ' => rw [e2] at q; exact fun σ' F' H' A' c a s' g' p' => q σ' F' H' A' c a s' ((g.trans g1).transE g') fun i hi => (p' i hi).trans (p i hi)
        | ok f ρ' =>
          rw [e2] at q
          cases f with
          | next => exact fun σ' F' H' A' s' g' p' => ⟨F', ρ', A', s', (g.trans g1).trans g', fun i hi => (p' i hi).trans (p i hi), q⟩
          | cont => exact fun σ' F' H' A' s' g' p' => ⟨F', ρ', A', s', (g.trans g1).trans g', fun i hi => (p' i hi).trans (p i hi), q⟩
          | brk => exact fun σ' F' H' A' s' g' p' => q σ' F' H' A' s' ((g.trans g1).trans g') fun i hi => (p' i hi).trans (p i hi)
          | ret ov => exact fun v σ' F' H' A' B s' g' p' => q v σ' F' H' A' B s' ((g.trans g1).trans g') fun i hi => (p' i hi).trans (p i hi)
end
end DL
/-! DL6: targets, for, comprehensions. -/
namespace DL
open PySem L2

theorem PG.imp {X : Cx} {e : Expr} {t t' : TG} (h : PG X e t) (i : ∀ v σ H Q, t' v σ H Q → t v σ H Q) : PG X e t' := ⟨fun pins s σ H x v Q I r q => h.run pins s σ H x v Q I r (i _ _ _ _ q)⟩
theorem PI.imp {X : Cx} {tg e : Expr} {t t' : TI} (h : PI X tg e t) (i : ∀ σ H R, t' σ H R → t σ H R) : PI X tg e t' := ⟨fun pins s σ H R I q => h.run pins s σ H R I (i _ _ _ q)⟩

/-- what a target does with a datum -/
abbrev GR := D → Rho → Option Rho
def LG (K : PySem.W.Frag) (cl : Nat → Addr) (st : List Nat) (g : GR) : TG := fun v σ H Q => ∃ F ρ A d, Sto K cl F H σ ρ A ∧ Rep K cl F d v ∧ match g d ρ with
  | some ρ' => ∀ σ' A', Sto K cl F H σ' ρ' A' → (∀ b, ownd A' b → ownd A b) → σ'.length = σ.length → (∀ i, i ∉ st → σ'[i]? = σ[i]?) → Q σ' H
  | none => False
def EG (X : Cx) (cl : Nat → Addr) (st : List Nat) (tg : Expr) (g : GR) : Prop := PG X tg (LG X.K cl st g)
def LGs (K : PySem.W.Frag) (cl : Nat → Addr) (st : List Nat) (g : List D → Rho → Option Rho) : TGs := fun vs σ H Q => ∃ F ρ A ds, Sto K cl F H σ ρ A ∧ Reps K cl F ds vs ∧ match g ds ρ with
  | some ρ' => ∀ σ' A', Sto K cl F H σ' ρ' A' → (∀ b, ownd A' b → ownd A b) → σ'.length = σ.length → (∀ i, i ∉ st → σ'[i]? = σ[i]?) → Q σ' H
  | none => False
def EGs (X : Cx) (cl : Nat → Addr) (st : List Nat) (ts : List Expr) (g : List D → Rho → Option Rho) : Prop := PGs X ts (LGs X.K cl st g)
@[simp] def gSet (i : Nat) : GR := fun d ρ => if i < ρ.length then some (ρ.set i (.fz d)) else none
@[simp] def gsNil : List D → Rho → Option Rho := fun ds ρ => match ds with
  | [] => some ρ
  | _ => none
@[simp] def gsCons (g : GR) (gs : List D → Rho → Option Rho) : List D → Rho → Option Rho := fun ds ρ => match ds with
  | [] => none
  | d :: ds => match g d ρ with
    | none => none
    | some ρ' => gs ds ρ'
@[simp] def gTupl (n : Nat) (gs : List D → Rho → Option Rho) : GR := fun d ρ => match d with
  | .tup ds => if ds.length = n then gs ds ρ else none
  | _ => none
section
variable {X : Cx} {cl : Nat → Addr} {W : WX} {pn : List Nat} {pos : Pos}
theorem eg_name {i : Nat} {x : Str} (hN : X.N.Nodup) (hi : X.N[i]? = some x) (hx : Loc X.env.scope x) (hf : X.fn x = true ∨ X.env.scope.names.lookup x = some .local := by first | exact .inl rfl | exact .inr rfl | assumption) : EG X cl [i] (.Name x pos) (gSet i) := by
  refine PG.imp (pg_name hN hi hx hf) fun v σ H Q ⟨F, ρ, A, d, s, r, q⟩ => ?_
  unfold gSet at q
  by_cases hl : i < ρ.length
  · rw [if_pos hl] at q
    refine q _ (fun j => if j = i then [] else A j) (s.put (o := .fz d) (B := []) hl ⟨rfl, r⟩ List.nodup_nil fun b hb => by cases hb) (fun b ⟨j, hj⟩ => ?_) List.length_set fun j hj => List.getElem?_set_ne fun e => hj (by rw [e]; exact List.mem_singleton_self _)
    dsimp only at hj
    split at hj
    · cases hj
    · exact ⟨j, hj⟩
  · rw [if_neg hl] at q
    exact q.elim
theorem PGs.imp {ts : List Expr} {t t' : TGs} (h : PGs X ts t) (i : ∀ v σ H Q, t' v σ H Q → t v σ H Q) : PGs X ts t' := ⟨fun pins s σ H vs us Q I r q => h.run pins s σ H vs us Q I r (i _ _ _ _ q)⟩
theorem egs_nil : EGs X cl [] [] gsNil := PGs.imp pgs_nil fun vs σ H Q ⟨F, ρ, A, ds, s, r, q⟩ => by
  cases ds with
  | nil => exact ⟨r, q σ A s (fun _ h => h) rfl fun _ _ => rfl⟩
  | cons d ds => exact q.elim
theorem egs_cons {e : Expr} {es : List Expr} {st sts : List Nat} {g : GR} {gs : List D → Rho → Option Rho} (h : EG X cl st e g) (h' : EGs X cl sts es gs) (hs : (assignEach (e :: es) X.env).map (·.2) = assign e X.env :: (assignEach es X.env).map (·.2) := by rfl) : EGs X cl (st ++ sts) (e :: es) (gsCons g gs) := by
  refine PGs.imp (pgs_cons h h' hs) fun vs σ H Q ⟨F, ρ, A, ds, s, r, q⟩ => ?_
  cases ds with
  | nil => exact q.elim
  | cons d ds =>
    obtain ⟨u, us, e, r1, r2⟩ := r
    refine ⟨u, us, e, F, ρ, A, d, s, r1, ?_⟩
    unfold gsCons at q
    dsimp only at q
    cases e1 : g d ρ with
    | none => rw [e1] at q; exact q.elim
    | some ρ1 =>
      rw [e1] at q
      intro σ1 A1 s1 w1 l1 p1
      refine ⟨F, ρ1, A1, ds, s1, r2, ?_⟩
      dsimp only at q
      cases e2 : gs ds ρ1 with
      | none => rw [e2] at q; exact q.elim
      | some ρ2 =>
        rw [e2] at q
        exact fun σ2 A2 s2 w2 l2 p2 => q σ2 A2 s2 (fun b hb => w1 b (w2 b hb)) (l2.trans l1) fun i hi => (p2 i fun z => hi (List.mem_append_right _ z)).trans (p1 i fun z => hi (List.mem_append_left _ z))
theorem reps_length {K : PySem.W.Frag} {F : Hp} : ∀ {ds : List D} {vs : List V}, Reps K cl F ds vs → vs.length = ds.length
  | [], vs, h => by rw [show vs = [] from h]; rfl
  | d :: ds, vs, ⟨u, us, e, _, q⟩ => by rw [e, List.length_cons, List.length_cons, reps_length q]
theorem sb_sqT {K : PySem.W.Frag} {F H : Hp} {a : Addr} {xs : List V} (sb : Sb F H) (h : SqT K F a xs) : SqT K H a xs := by
  rcases h with (h | ⟨o, h⟩) | h
  · exact .inl (sb _ _ h).1
  · exact .inl (.inr ⟨o, (sb _ _ h).2 rfl⟩)
  · exact .inr h
theorem sb_sqL {K : PySem.W.Frag} {F H : Hp} {a : Addr} {xs : List V} (sb : Sb F H) (h : SqL K F a xs) : SqL K H a xs := by
  rcases h with (h | ⟨o, h⟩) | h
  · exact .inl (sb _ _ h).1
  · exact .inl (.inr ⟨o, (sb _ _ h).2 rfl⟩)
  · exact .inr h
theorem eg_tup {es : List Expr} {k n : Nat} {st : List Nat} {gs : List D → Rho → Option Rho} (hc : X.calm = true) (h : EGs X cl st es gs)
    (hn : (assignEach es X.env).length = n := by rfl) (hst : (assignEach es X.env).findIdx? (·.1) = none := by rfl) : EG X cl st (.Tuple es k pos) (gTupl n gs) := by
  refine PG.imp (pg_tup hc h hn hst) fun v σ H Q ⟨F, ρ, A, d, s, r, q⟩ => ?_
  unfold gTupl at q
  cases d with
  | tup ds =>
    dsimp only at q
    by_cases hl : ds.length = n
    · rw [if_pos hl] at q
      obtain ⟨a, vs, e, hq, r⟩ := r
      exact ⟨a, vs, e, sb_sqT s.sub (SqT.of hq), (reps_length r).trans hl, F, ρ, A, ds, s, r, q⟩
    · rw [if_neg hl] at q
      exact q.elim
  | v _ => exact q.elim
  | wtp _ => exact q.elim
  | lst _ => exact q.elim
  | wls _ => exact q.elim
  | dic _ => exact q.elim
  | dct _ => exact q.elim
  | ins _ _ => exact q.elim
  | exc _ _ => exact q.elim

/-- name, name = value -/
@[simp] def sAsgG (g : GR) (t : Rho → Res Opd) : Rho → Res Fl := fun ρ => match t ρ with
  | .ok (.d d) ρ1 => (match g d ρ1 with
    | some ρ2 => .ok .next ρ2
    | none => .bad)
  | .ok (.b _) _ => .bad
  | .err x ρ1 => .err x ρ1
  | .bad => .bad
theorem pn_st {st : List Nat} {σ σ' : L2.St} (h : (st.all fun i => !pn.contains i) = true) (p : ∀ i, i ∉ st → σ'[i]? = σ[i]?) : ∀ i ∈ pn, σ'[i]? = σ[i]? := fun i hi => p i fun z => by
  have := List.all_eq_true.mp h i z
  simp at this
  exact this hi
theorem es_asgG {tg e : Expr} {st : List Nat} {g : GR} {t : Rho → Res Opd} (h : EP' X cl W e t) (hg : EG X cl st tg g) (hst : (st.all fun i => !pn.contains i) = true := by decide) (hs : swapsWithSole [tg] e pos.line X.env = pure false := by rfl) (hw : swappedStores [tg] e X.env = pure none := by rfl)
    (h1 : (assignEach [tg] X.env).map (·.2) = [assign tg X.env] := by rfl) : ES X cl pn W (.Assign [tg] e pos) (sAsgG g t) := by
  refine PS.imp (ps_asg h hg hs hw h1) fun D σ H ⟨F, ρ, A, s, q⟩ => ⟨F, ρ, A, s, ?_⟩
  unfold sAsgG at q
  cases e1 : t ρ with
  | bad => rw [e1] at q; exact q
  | err x ρ' => rw [e1] at q; exact fun F' H' A' c a s' g' => q σ F' H' A' c a s' g' fun _ _ => rfl
  | ok o ρ1 =>
    rw [e1] at q
    intro v F1 H1 A1 s1 g1 p1
    cases o with
    | b i => exact q.elim
    | d d =>
      refine ⟨F1, ρ1, A1, d, s1, p1, ?_⟩
      dsimp only at q
      cases e2 : g d ρ1 with
      | none => rw [e2] at q; exact q.elim
      | some ρ2 =>
        rw [e2] at q
        exact fun σ2 A2 s2 w2 _ p2 => q σ2 F1 H1 A2 s2 (g1.sub w2) (pn_st hst p2)

/-! ### what is walked -/
/-- J gives the items ds, while F and H are kept -/
def ItOk (K : PySem.W.Frag) (cl : Nat → Addr) (P : Addr → Prop) (J : It) (F H : Hp) (ds : List D) : Prop :=
  ∀ (i : Nat) (P' : Addr → Prop) (F' H' : Hp), Sb F' H' → Gr P P' F H F' H' →
    (∀ d, ds[i]? = some d → J.go i H' ∧ ∀ x H2, J.yld i H' x H2 → ∃ F2, Sb F2 H2 ∧ Gr (fun _ => False) (fun _ => False) F' H' F2 H2 ∧ Rep K cl F2 d x) ∧
    (ds.length ≤ i → J.stop i H')
def LI (K : PySem.W.Frag) (cl : Nat → Addr) (W : WX) (t : Rho → Res (List D)) : TI := fun σ H R => ∃ F ρ A, Sto K cl F H σ ρ A ∧ match t ρ with
  | .ok ds ρ' => ∀ J F' H' A', Sto K cl F' H' σ ρ' A' → Gr (ownd A) (ownd A') F H F' H' → ItOk K cl (ownd A') J F' H' ds → R J H'
  | .err x ρ' => ErrQ K cl W (ownd A) F H σ x ρ'
  | .bad => False
def EI (X : Cx) (cl : Nat → Addr) (W : WX) (tg e : Expr) (t : Rho → Res (List D)) : Prop := PI X tg e (LI X.K cl W t)

def forN (g : GR) (b : Rho → Res Fl) : List D → Rho → Res Fl
  | [], ρ => .ok .next ρ
  | d :: ds, ρ => match g d ρ with
    | none => .bad
    | some ρ1 => match b ρ1 with
      | .ok .next ρ2 => forN g b ds ρ2
      | .ok .cont ρ2 => forN g b ds ρ2
      | .ok .brk ρ2 => .ok .next ρ2
      | r => r
@[simp] def sFor (t : Rho → Res (List D)) (g : GR) (b : Rho → Res Fl) : Rho → Res Fl := fun ρ => match t ρ with
  | .ok ds ρ1 => forN g b ds ρ1
  | .err x ρ1 => .err x ρ1
  | .bad => .bad
/-- the ends that are wanted, from a base on -/
def Wants (K : PySem.W.Frag) (cl : Nat → Addr) (pn : List Nat) (W : WX) (D : Ends) (σ0 : L2.St) (A0 : Nat → List Addr) (F0 H0 : Hp) (r : Res Fl) : Prop := match r with
  | .ok .next ρ' => ∀ σ' F' H' A', Sto K cl F' H' σ' ρ' A' → Gr (ownd A0) (ownd A') F0 H0 F' H' → (∀ i ∈ pn, σ'[i]? = σ0[i]?) → D.nx σ' H'
  | .ok .brk ρ' => ∀ σ' F' H' A', Sto K cl F' H' σ' ρ' A' → Gr (ownd A0) (ownd A') F0 H0 F' H' → (∀ i ∈ pn, σ'[i]? = σ0[i]?) → D.bk σ' H'
  | .ok .cont ρ' => ∀ σ' F' H' A', Sto K cl F' H' σ' ρ' A' → Gr (ownd A0) (ownd A') F0 H0 F' H' → (∀ i ∈ pn, σ'[i]? = σ0[i]?) → D.ct σ' H'
  | .ok (.ret ov) ρ' => ∀ v σ' F' H' A' B, Sto K cl F' H' σ' ρ' A' → Gr (ownd A0) (fun b => ownd A' b ∨ b ∈ B) F0 H0 F' H' → (∀ i ∈ pn, σ'[i]? = σ0[i]?) → VOk K cl F' H' σ' ov v B → B.Nodup → (∀ b ∈ B, ¬ ownd A' b) → D.rt v H'
  | .err x ρ' => ∀ σ' F' H' A' c a, Sto K cl F' H' σ' ρ' A' → GrE (ownd A0) (ownd A') F0 H0 F' H' → (∀ i ∈ pn, σ'[i]? = σ0[i]?) → ExOk K cl F' H' x c a → W c a σ' H'
  | .bad => False
theorem LS.iff {K : PySem.W.Frag} {t : Rho → Res Fl} {D : Ends} {σ : L2.St} {H : Hp} : LS K cl pn W t D σ H ↔ ∃ F ρ A, Sto K cl F H σ ρ A ∧ Wants K cl pn W D σ A F H (t ρ) := Iff.rfl
theorem Wants.pre {K : PySem.W.Frag} {D : Ends} {σ σ1 : L2.St} {F F1 H H1 : Hp} {A A1 : Nat → List Addr} {r : Res Fl} (q : Wants K cl pn W D σ A F H r) (g1 : Gr (ownd A) (ownd A1) F H F1 H1) (p1 : ∀ i ∈ pn, σ1[i]? = σ[i]?) : Wants K cl pn W D σ1 A1 F1 H1 r := by
  cases r with
  | bad => exact q
  | err x ρ' => exact fun σ' F' H' A' c a s' g' p' => q σ' F' H' A' c a s' (g1.transE g') (fun i hi => (p' i hi).trans (p1 i hi))
  | ok f ρ' =>
    cases f with
    | next => exact fun σ' F' H' A' s' g' p' => q σ' F' H' A' s' (g1.trans g') (fun i hi => (p' i hi).trans (p1 i hi))
    | brk => exact fun σ' F' H' A' s' g' p' => q σ' F' H' A' s' (g1.trans g') (fun i hi => (p' i hi).trans (p1 i hi))
    | cont => exact fun σ' F' H' A' s' g' p' => q σ' F' H' A' s' (g1.trans g') (fun i hi => (p' i hi).trans (p1 i hi))
    | ret ov => exact fun v σ' F' H' A' B s' g' p' => q v σ' F' H' A' B s' (g1.trans g') (fun i hi => (p' i hi).trans (p1 i hi))
theorem gr_new {F F1 H H1 : Hp} {P' : Addr → Prop} (g : Gr (fun _ => False) P' F H F1 H1) {A : Nat → List Addr} (h : ∀ b, P' b → False) : Gr (ownd A) (ownd A) F H F1 H1 :=
  ⟨fun b o e _ => g.keep b o e id, g.ff, fun b e _ => g.new b e id, fun b z => .inl z⟩
theorem Sto.new {K : PySem.W.Frag} {σ : L2.St} {ρ : Rho} {A : Nat → List Addr} {F F1 H H1 : Hp} {P' : Addr → Prop} (s : Sto K cl F H σ ρ A) (sb : Sb F1 H1) (g : Gr (fun _ => False) P' F H F1 H1) : Sto K cl F1 H1 σ ρ A := by
  refine s.mono g.ff sb fun b hb => ⟨?_, fun y hy => g.keep b y hy id⟩
  rw [g.new b (s.at_ hb).2 id]
  exact (s.at_ hb).1
/-- what tFor asks behind its source, from data -/
theorem for_core {K : PySem.W.Frag} {st : List Nat} {J : It} {ds : List D} {D : Ends} {σ0 : L2.St} {ρ1 : Rho} {F1 H1 : Hp} {A1 : Nat → List Addr} {g : GR} {b : Rho → Res Fl} (hst : (st.all fun i => !pn.contains i) = true) (s1 : Sto K cl F1 H1 σ0 ρ1 A1)
    (it : ItOk K cl (ownd A1) J F1 H1 ds) (q1 : Wants K cl pn W D σ0 A1 F1 H1 (forN g b ds ρ1)) :
    ∃ Wn : Nat → Nat → L2.St → Hp → Prop, (∃ m, Wn 0 m σ0 H1) ∧ ∀ i m σ H, Wn i m σ H → (J.stop i H ∧ D.nx σ H) ∨ (J.go i H ∧ ∃ Nx : L2.St → Hp → Prop, (∀ σ' H', Nx σ' H' → ∃ m', m' < m ∧ Wn (i + 1) m' σ' H') ∧ ∀ x H', J.yld i H x H' →
      LG K cl st g x σ H' fun σ2 H2 => LS K cl pn W b ⟨Nx, D.rt, D.nx, Nx⟩ σ2 H2) := by
  refine ⟨fun i m σ H => m = ds.length - i ∧ i ≤ ds.length ∧ ∃ F ρ A, Sto K cl F H σ ρ A ∧ Gr (ownd A1) (ownd A) F1 H1 F H ∧ (∀ j ∈ pn, σ[j]? = σ0[j]?) ∧ Wants K cl pn W D σ A F H (forN g b (ds.drop i) ρ), ⟨_, rfl, Nat.zero_le _, F1, ρ1, A1, s1, Gr.refl, fun _ _ => rfl, q1⟩, ?_⟩
  rintro i m σ H ⟨rfl, hi, F, ρ, A, s, gg, p, q⟩
  obtain ⟨go, stop⟩ := it i _ F H s.sub gg
  by_cases hl : i < ds.length
  · have hd : ds[i]? = some ds[i] := List.getElem?_eq_getElem hl
    obtain ⟨hgo, hy⟩ := go _ hd
    refine .inr ⟨hgo, _, fun σ' H' w => ⟨ds.length - (i + 1), by omega, rfl, hl, w⟩, fun x H2 y => ?_⟩
    obtain ⟨F2, sb2, g2, r2⟩ := hy x H2 y
    have s2 := s.new sb2 g2
    have gg2 : Gr (ownd A) (ownd A) F H F2 H2 := gr_new g2 fun _ z => z
    refine ⟨F2, ρ, A, ds[i], s2, r2, ?_⟩
    rw [List.drop_eq_getElem_cons hl] at q
    unfold forN at q
    cases e1 : g ds[i] ρ with
    | none => rw [e1] at q; exact q.elim
    | some ρ3 =>
      rw [e1] at q
      dsimp only at q
      intro σ3 A3 s3 w3 _ p3'
      have p3 := pn_st hst p3'
      refine ⟨F2, ρ3, A3, s3, ?_⟩
      have gg3 : Gr (ownd A) (ownd A3) F H F2 H2 := gg2.sub w3
      cases e2 : b ρ3 with
      | bad => rw [e2] at q; exact q
      | err x ρ' => rw [e2] at q; exact fun σ' F' H' A' c a s' g' p' => q σ' F' H' A' c a s' (gg3.transE g') fun i hi => (p' i hi).trans (p3 i hi)
      | ok f ρ' =>
        rw [e2] at q
        cases f with
        | next => exact fun σ' F' H' A' s' g' p' => ⟨F', ρ', A', s', (gg.trans gg3).trans g', fun i hi => ((p' i hi).trans (p3 i hi)).trans (p i hi), Wants.pre q (gg3.trans g') fun i hi => (p' i hi).trans (p3 i hi)⟩
        | cont => exact fun σ' F' H' A' s' g' p' => ⟨F', ρ', A', s', (gg.trans gg3).trans g', fun i hi => ((p' i hi).trans (p3 i hi)).trans (p i hi), Wants.pre q (gg3.trans g') fun i hi => (p' i hi).trans (p3 i hi)⟩
        | brk => exact fun σ' F' H' A' s' g' p' => q σ' F' H' A' s' (gg3.trans g') fun i hi => (p' i hi).trans (p3 i hi)
        | ret ov => exact fun v σ' F' H' A' B s' g' p' => q v σ' F' H' A' B s' (gg3.trans g') fun i hi => (p' i hi).trans (p3 i hi)
  · have e : i = ds.length := by omega
    subst e
    refine .inl ⟨stop (Nat.le_refl _), ?_⟩
    rw [List.drop_length] at q
    exact q σ F H A s Gr.refl fun _ _ => rfl
theorem es_for {tg iter : Expr} {body : List Stmt} {st : List Nat} {t : Rho → Res (List D)} {g : GR} {b : Rho → Res Fl} (hp : PassesOwn (model X.prog X.w) X.A X.env X.xe) (hc : X.calm = true) (hi : EI X cl W tg iter t) (hg : EG X cl st tg g) (hb : ESs X cl pn W body b)
    (hst : (st.all fun i => !pn.contains i) = true := by decide) (hs : ∀ x, foldedSetIterable iter X.env x = pure x := by intro _; rfl) : ES X cl pn W (.For tg iter body [] pos) (sFor t g b) := by
  refine PS.imp (ps_for hp hc hi hg hb hs) fun D σ0 H0 ⟨F0, ρ0, A0, s0, q0⟩ => ⟨F0, ρ0, A0, s0, ?_⟩
  unfold sFor at q0
  cases e : t ρ0 with
  | bad => rw [e] at q0; exact q0
  | err x ρ' => rw [e] at q0; exact fun F' H' A' c a s' g' => q0 σ0 F' H' A' c a s' g' fun _ _ => rfl
  | ok ds ρ1 =>
    rw [e] at q0
    intro J F1 H1 A1 s1 g1 it
    exact for_core hst s1 it (Wants.pre q0 g1 fun _ _ => rfl)
end
end DL
/-! DL7: what is walked: lists, tuples, texts, ranges, enumerate, dicts. -/
namespace DL
open PySem L2
section
variable {X : Cx} {cl : Nat → Addr} {W : WX} {pn : List Nat} {pos p : Pos} {tg : Expr}

theorem reps_get {K : PySem.W.Frag} {F : Hp} : ∀ {ds : List D} {vs : List V} {i : Nat} {d : D}, Reps K cl F ds vs → ds[i]? = some d → ∃ v, vs[i]? = some v ∧ Rep K cl F d v
  | [], _, _, _, _, e => by simp at e
  | d :: ds, _, 0, _, ⟨u, us, e, r, _⟩, e2 => by
    simp at e2
    subst e2 e
    exact ⟨u, rfl, r⟩
  | d :: ds, _, i + 1, _, ⟨u, us, e, _, q⟩, e2 => by
    obtain ⟨v, h1, h2⟩ := reps_get (i := i) q (by simpa using e2)
    subst e
    exact ⟨v, by simpa using h1, h2⟩
theorem Gr.sb_self {F H : Hp} : Gr (fun _ => False) (fun _ => False) F H F H := Gr.refl
@[simp] def sgn (c : Nat) : D := .v (.str ⟨#[c]⟩)
@[simp] def iterD : D → Option (List D)
  | .wtp ds => some ds
  | .wls ds => some ds
  | .lst ds => some ds
  | .tup ds => some ds
  | .v (.str z) => some (z.cps.toList.map sgn)
  | _ => none
@[simp] def evIt (f : D → Option (List D)) (t : Rho → Res Opd) : Rho → Res (List D) := fun ρ => match t ρ with
  | .ok (.d d) ρ1 => (match f d with
    | some ds => .ok ds ρ1
    | none => .bad)
  | .ok (.b _) _ => .bad
  | .err x ρ1 => .err x ρ1
  | .bad => .bad
theorem it_list {K : PySem.W.Frag} {P : Addr → Prop} {F H : Hp} {a : Addr} {vs : List V} {ds : List D} (hq : SqL K F a vs) (r : Reps K cl F ds vs) : ItOk K cl P (Itl K a) F H ds := fun i P' F' H' sb g => by
  have q : SqL K H' a vs := sb_sqL sb (g.ff.sqL hq)
  refine ⟨fun d hd => ?_, fun hl => ⟨vs, q, by rw [reps_length r]; exact hl⟩⟩
  obtain ⟨v, hv, rv⟩ := reps_get r hd
  exact ⟨⟨vs, v, q, hv⟩, fun x H2 ⟨e, y⟩ => by
    subst e
    have := y vs q
    rw [hv] at this
    cases this
    exact ⟨F', sb, Gr.refl, rep_mono g.ff _ _ rv⟩⟩
theorem it_tup {K : PySem.W.Frag} {P : Addr → Prop} {F H : Hp} {a : Addr} {vs : List V} {ds : List D} (hq : SqT K F a vs) (r : Reps K cl F ds vs) : ItOk K cl P (Itt K a) F H ds := fun i P' F' H' sb g => by
  have q : SqT K H' a vs := sb_sqT sb (g.ff.sqT hq)
  refine ⟨fun d hd => ?_, fun hl => ⟨vs, q, by rw [reps_length r]; exact hl⟩⟩
  obtain ⟨v, hv, rv⟩ := reps_get r hd
  exact ⟨⟨vs, v, q, hv⟩, fun x H2 ⟨e, y⟩ => by
    subst e
    have := y vs q
    rw [hv] at this
    cases this
    exact ⟨F', sb, Gr.refl, rep_mono g.ff _ _ rv⟩⟩
theorem it_str {K : PySem.W.Frag} {P : Addr → Prop} {F H : Hp} {z : Str} : ItOk K cl P (Its z) F H (z.cps.toList.map sgn) := fun i P' F' H' sb g => by
  refine ⟨fun d hd => ?_, fun hl => by show z.cps.size ≤ i; simpa using hl⟩
  rw [List.getElem?_map] at hd
  cases e : z.cps.toList[i]? with
  | none => rw [e] at hd; cases hd
  | some c =>
    rw [e] at hd
    cases hd
    have e' : z.cps[i]? = some c := by simpa using e
    refine ⟨(Array.getElem?_eq_some_iff.mp e').1, fun x H2 ⟨eH, c', hc, ex⟩ => ?_⟩
    subst eH ex
    rw [e'] at hc
    cases hc
    exact ⟨F', sb, Gr.refl, rfl, trivial⟩
theorem ei_seq {e : Expr} {t : Rho → Res Opd} (h : EP' X cl W e t) : EI X cl W tg e (evIt iterD t) := by
  refine PI.imp (PI.or (pi_list h) (PI.or (pi_tup h) (pi_str h))) fun σ H R ⟨F, ρ, A, s, q⟩ => ?_
  unfold evIt at q
  cases e1 : t ρ with
  | bad => rw [e1] at q; exact q.elim
  | err x ρ' => rw [e1] at q; exact .inl ⟨F, ρ, A, s, by rw [e1]; exact q⟩
  | ok o ρ1 =>
    rw [e1] at q
    cases o with
    | b i => exact q.elim
    | d d =>
      dsimp only at q
      cases d with
      | lst ds =>
        refine .inl ⟨F, ρ, A, s, ?_⟩
        rw [e1]
        intro v F1 H1 A1 s1 g1 ⟨a, vs, e, hq, r⟩
        exact ⟨a, e, ⟨vs, sb_sqL s1.sub (SqL.of hq)⟩, q _ F1 H1 A1 s1 g1 (it_list (SqL.of hq) r)⟩
      | wls ds =>
        refine .inl ⟨F, ρ, A, s, ?_⟩
        rw [e1]
        intro v F1 H1 A1 s1 g1 ⟨a, vs, e, hq, r⟩
        exact ⟨a, e, ⟨vs, sb_sqL s1.sub hq⟩, q _ F1 H1 A1 s1 g1 (it_list hq r)⟩
      | tup ds =>
        refine .inr (.inl ⟨F, ρ, A, s, ?_⟩)
        rw [e1]
        intro v F1 H1 A1 s1 g1 ⟨a, vs, e, hq, r⟩
        exact ⟨a, e, ⟨vs, sb_sqT s1.sub (SqT.of hq)⟩, q _ F1 H1 A1 s1 g1 (it_tup (SqT.of hq) r)⟩
      | wtp ds =>
        refine .inr (.inl ⟨F, ρ, A, s, ?_⟩)
        rw [e1]
        intro v F1 H1 A1 s1 g1 ⟨a, vs, e, hq, r⟩
        exact ⟨a, e, ⟨vs, sb_sqT s1.sub hq⟩, q _ F1 H1 A1 s1 g1 (it_tup hq r)⟩
      | dic _ => exact q.elim
      | dct _ => exact q.elim
      | ins _ _ => exact q.elim
      | exc _ _ => exact q.elim
      | v x =>
        cases x with
        | str z =>
          refine .inr (.inr ⟨F, ρ, A, s, ?_⟩)
          rw [e1]
          intro v F1 H1 A1 s1 g1 ⟨e, _⟩
          exact ⟨z, e, q _ F1 H1 A1 s1 g1 it_str⟩
        | non => exact q.elim
        | bl _ => exact q.elim
        | int _ => exact q.elim
        | byt _ => exact q.elim
        | flt _ => exact q.elim
        | ref _ => exact q.elim
        | ty _ => exact q.elim
/-- bounds that nobody unfolds -/
theorem bnd_ex : ∃ n : Int, n = 4611686018427387904 := ⟨_, rfl⟩
noncomputable def BND : Int := Classical.choose bnd_ex
theorem BND_eq : BND = 4611686018427387904 := Classical.choose_spec bnd_ex
theorem szi_ex : ∃ n : Int, n = 16777216 := ⟨_, rfl⟩
noncomputable def SZI : Int := Classical.choose szi_ex
theorem SZI_eq : SZI = 16777216 := Classical.choose_spec szi_ex
noncomputable def inR (j : Int) : Bool := decide (-BND ≤ j) && decide (j < BND)
noncomputable def inZ (j : Int) : Bool := decide (0 ≤ j) && decide (j ≤ SZI)
theorem inR_iff {j : Int} : inR j = true ↔ -(2 ^ 62) ≤ j ∧ j < 2 ^ 62 := by
  unfold inR
  rw [BND_eq, Bool.and_eq_true, decide_eq_true_eq, decide_eq_true_eq]
  exact Iff.rfl
theorem inZ_iff {j : Int} : inZ j = true ↔ 0 ≤ j ∧ j ≤ 16777216 := by
  unfold inZ
  rw [SZI_eq, Bool.and_eq_true, decide_eq_true_eq, decide_eq_true_eq]
@[simp] theorem inR_of {j : Int} (h0 : 0 ≤ j) (h1 : j ≤ 1000000) : inR j = true := inR_iff.mpr (by omega)
@[simp] theorem inZ_of {j : Int} (h0 : 0 ≤ j) (h1 : j ≤ 1000000) : inZ j = true := inZ_iff.mpr (by omega)
noncomputable section
/-- range(n), range(m, n) -/
def rngD (lo : Int) (n : Nat) : List D := (List.range n).map fun (i : Nat) => D.v (.int (lo + i))
@[simp] def evRng1 (t : Rho → Res (List Opd)) : Rho → Res (List D) := fun ρ => match t ρ with
  | .ok [.d (.v (.int j))] ρ1 => if inR j = true then .ok (rngD 0 j.toNat) ρ1 else .bad
  | .err x ρ1 => .err x ρ1
  | _ => .bad
@[simp] def evRng2 (t : Rho → Res (List Opd)) : Rho → Res (List D) := fun ρ => match t ρ with
  | .ok [.d (.v (.int i)), .d (.v (.int j))] ρ1 => if (inR i && inR j) = true then .ok (rngD i (j - i).toNat) ρ1 else .bad
  | .err x ρ1 => .err x ρ1
  | _ => .bad
theorem it_rng {K : PySem.W.Frag} {P : Addr → Prop} {F H : Hp} {lo : Int} {n : Nat} : ItOk K cl P (Itr lo n) F H (rngD lo n) := fun i P' F' H' sb g => by
  unfold rngD
  refine ⟨fun d hd => ?_, fun hl => by show n ≤ i; simpa using hl⟩
  rw [List.getElem?_map] at hd
  cases e : (List.range n)[i]? with
  | none => rw [e] at hd; cases hd
  | some c =>
    rw [e] at hd
    cases hd
    obtain ⟨h1, h2⟩ := List.getElem?_eq_some_iff.mp e
    rw [List.getElem_range] at h2
    subst h2
    rw [List.length_range] at h1
    refine ⟨h1, fun x H2 ⟨eH, ex⟩ => ?_⟩
    subst eH ex
    exact ⟨F', sb, Gr.refl, rfl, trivial⟩
theorem ei_rng1 {a : Expr} {t : Rho → Res (List Opd)} (hg : Gl X "range") (hm : X.mg "range" = none) (ha : EA X cl W [a] t) (hs : starEach [a] X.env = [(false, eval a X.env)] := by rfl) : EI X cl W tg (.Call (.Name "range" p) [a] [] pos) (evRng1 t) := by
  refine PI.imp (pi_range1 hg hm ha hs) fun σ H R ⟨F, ρ, A, s, q⟩ => ⟨F, ρ, A, s, ?_⟩
  unfold evRng1 at q
  cases e1 : t ρ with
  | bad => rw [e1] at q; exact q.elim
  | err x ρ' => rw [e1] at q; exact q
  | ok os ρ1 =>
    rw [e1] at q
    intro vs F1 H1 A1 s1 g1 ps
    split at q
    · rename_i j ρ2 e2
      split at e2
      · rename_i j' ρ3 e3
        cases e3
        split at e2
        · rename_i hb
          cases e2
          obtain ⟨u, us, e, r, e4⟩ := ps
          obtain rfl : us = [] := e4
          exact ⟨j', by rw [e, r.1], (inR_iff.mp hb).1, (inR_iff.mp hb).2, q _ F1 H1 A1 s1 g1 it_rng⟩
        · cases e2
      · rename_i e3; cases e3
      · cases e2
    · rename_i x ρ2 e2
      split at e2
      · split at e2 <;> cases e2
      · rename_i e3; cases e3
      · cases e2
    · exact q.elim
theorem ei_rng2 {a b : Expr} {t : Rho → Res (List Opd)} (hg : Gl X "range") (hm : X.mg "range" = none) (ha : EA X cl W [a, b] t) (hs : starEach [a, b] X.env = [(false, eval a X.env), (false, eval b X.env)] := by rfl) (hs2 : starEach [b] X.env = [(false, eval b X.env)] := by rfl) :
    EI X cl W tg (.Call (.Name "range" p) [a, b] [] pos) (evRng2 t) := by
  refine PI.imp (pi_range2 hg hm ha hs hs2) fun σ H R ⟨F, ρ, A, s, q⟩ => ⟨F, ρ, A, s, ?_⟩
  unfold evRng2 at q
  cases e1 : t ρ with
  | bad => rw [e1] at q; exact q.elim
  | err x ρ' => rw [e1] at q; exact q
  | ok os ρ1 =>
    rw [e1] at q
    intro vs F1 H1 A1 s1 g1 ps
    split at q
    · rename_i j ρ2 e2
      split at e2
      · rename_i i' j' ρ3 e3
        cases e3
        split at e2
        · rename_i hb
          cases e2
          obtain ⟨u, us, e, r, u2, us2, e', r', e4⟩ := ps
          obtain rfl : us2 = [] := e4
          have hb1 := inR_iff.mp (Bool.and_eq_true_iff.mp hb).1
          have hb2 := inR_iff.mp (Bool.and_eq_true_iff.mp hb).2
          exact ⟨i', j', by rw [e, r.1, e', r'.1], ⟨hb1.1, hb1.2, hb2.1, hb2.2⟩, q _ F1 H1 A1 s1 g1 it_rng⟩
        · cases e2
      · rename_i e3; cases e3
      · cases e2
    · rename_i x ρ2 e2
      split at e2
      · split at e2 <;> cases e2
      · rename_i e3; cases e3
      · cases e2
    · exact q.elim
end
end
end DL
/-! DL8: primitive steps by their data. -/
namespace DL
open PySem L2

section
variable {K : PySem.W.Frag} {cl : Nat → Addr} {F F' H H' : Hp} {Q : VK}
theorem vq_v {x : V} (n : notRef x) (sb : Sb F H) (h : VQ K cl F H (.fz (.v x)) Q) : Q x H := h x F H [] ⟨rfl, rfl, n⟩ List.nodup_nil sb ⟨fun _ _ e _ => e, Le.refl _, fun _ _ _ => rfl, fun b z => by cases z⟩
theorem vq_d {d : D} {v : V} (r : Rep K cl F d v) (sb : Sb F H) (h : VQ K cl F H (.fz d) Q) : Q v H := h v F H [] ⟨rfl, r⟩ List.nodup_nil sb ⟨fun _ _ e _ => e, Le.refl _, fun _ _ _ => rfl, fun b z => by cases z⟩
theorem sb_none {p : Addr} (sb : Sb F H) (hp : H p = none) : F p = none := by
  cases e : F p with
  | none => rfl
  | some o =>
    rcases (sb _ _ e).1 with z | ⟨ob, z⟩
    · rw [hp] at z; cases z
    · rw [hp] at z; cases z
theorem Rd.upd {a p : Addr} {o u : HO} (h : Rd H a u) (hp : H p = none) : Rd (upd H p o) a u := by
  rcases h with z | ⟨ob, z⟩
  · exact .inl (by rw [upd_ne (ne_of_none z hp)]; exact z)
  · exact .inr ⟨ob, by rw [upd_ne (ne_of_none z hp)]; exact z⟩
theorem sb_upd {p : Addr} {o : HO} (sb : Sb F H) (hp : H p = none) : Sb F (upd H p o) := fun a x e =>
  ⟨Rd.upd (sb _ _ e).1 hp, fun i => by rw [upd_ne (ne_of_none ((sb _ _ e).2 i) hp)]; exact (sb _ _ e).2 i⟩
theorem upd_le {p : Addr} {o : HO} (hp : F p = none) : Le F (upd F p o) := fun a x h => by rw [upd_ne (ne_of_none h hp)]; exact h
/-- a new tuple is frozen at once -/
theorem vq_tup {ds : List D} {vs : List V} (r : Reps K cl F ds vs) (sb : Sb F H) (h : VQ K cl F H (.fz (.tup ds)) Q) : ∀ p, H p = none → Q (.ref p) (upd H p (.tup vs)) := fun p hp => by
  have fp := sb_none sb hp
  refine h (.ref p) (upd F p (.tup vs)) (upd H p (.tup vs)) [] ⟨rfl, p, vs, rfl, upd_same, reps_mono (upd_le fp) ds vs r⟩ List.nodup_nil (fun a o e => ?_) ⟨fun b o e _ => by rw [upd_ne (ne_of_none e hp)]; exact e, upd_le fp, fun b w _ => ?_, fun b z => by cases z⟩
  · by_cases q : a = p
    · subst q
      rw [upd_same] at e
      cases e
      exact ⟨.inl upd_same, fun _ => upd_same⟩
    · rw [upd_ne q] at e
      exact sb_upd sb hp _ _ e
  · refine upd_ne ?_
    rintro rfl
    rw [hp] at w
    exact w
/-- new data of its own at p -/
theorem vq_own {p : Addr} {ho : HO} {o : OD} (hp : H p = none) (sb : Sb F H) (r : Own K cl F (upd H p ho) o (.ref p) [p]) (h : VQ K cl F H o Q) : Q (.ref p) (upd H p ho) := by
  refine h (.ref p) F (upd H p ho) [p] r (List.nodup_cons.mpr ⟨by simp, List.nodup_nil⟩) (sb_upd sb hp) ⟨fun b x e _ => by rw [upd_ne (ne_of_none e hp)]; exact e, Le.refl _, fun _ _ _ => rfl, fun b z => .inr ?_⟩
  rw [List.mem_singleton] at z
  rw [z]
  exact hp
def fzs (ds : List D) : List OD := ds.map .fz
@[simp] theorem fzs_nil : fzs [] = [] := rfl
@[simp] theorem fzs_cons {d : D} {ds : List D} : fzs (d :: ds) = .fz d :: fzs ds := rfl
@[simp] theorem fzs_len {ds : List D} : (fzs ds).length = ds.length := List.length_map _
@[simp] theorem toDs_fzs : ∀ {ds : List D}, toDs (fzs ds) = ds
  | [] => rfl
  | d :: ds => by rw [fzs_cons]; show d :: toDs (fzs ds) = _; rw [toDs_fzs]
@[simp] theorem oimms_fzs : ∀ {ds : List D}, oimms (fzs ds) = imms ds
  | [] => rfl
  | d :: ds => by rw [fzs_cons]; show (d.imm && oimms (fzs ds)) = _; rw [oimms_fzs]; rfl
theorem owns_fz : ∀ {ds : List D} {vs : List V}, Reps K cl F ds vs → Owns K cl F H (fzs ds) vs []
  | [], vs, h => ⟨h, rfl⟩
  | d :: ds, _, ⟨u, us, e, r, q⟩ => ⟨u, us, [], [], e, rfl, ⟨rfl, r⟩, owns_fz q⟩
theorem vq_lst {ds : List D} {vs : List V} (r : Reps K cl F ds vs) (sb : Sb F H) (h : VQ K cl F H (.lst (fzs ds)) Q) : ∀ p, H p = none → Q (.ref p) (upd H p (.lst vs)) := fun p hp =>
  vq_own (K := K) (cl := cl) (o := .lst (fzs ds)) hp sb ⟨p, vs, [], rfl, rfl, sb_none sb hp, upd_same, owns_fz r⟩ h

theorem reps1 {d : D} {vs : List V} (h : Reps K cl F [d] vs) : ∃ x, vs = [x] ∧ Rep K cl F d x := by
  obtain ⟨u, us, e, r, q⟩ := h
  obtain rfl : us = [] := q
  exact ⟨u, e, r⟩
theorem reps2 {d e : D} {vs : List V} (h : Reps K cl F [d, e] vs) : ∃ x y, vs = [x, y] ∧ Rep K cl F d x ∧ Rep K cl F e y := by
  obtain ⟨u, us, e1, r, q⟩ := h
  obtain ⟨y, rfl, r2⟩ := reps1 q
  exact ⟨u, y, e1, r, r2⟩
theorem reps3 {d e f : D} {vs : List V} (h : Reps K cl F [d, e, f] vs) : ∃ x y z, vs = [x, y, z] ∧ Rep K cl F d x ∧ Rep K cl F e y ∧ Rep K cl F f z := by
  obtain ⟨u, us, e1, r, q⟩ := h
  obtain ⟨y, z, rfl, r2⟩ := reps2 q
  exact ⟨u, y, z, e1, r, r2⟩

/-! ### first one, else the other -/
@[simp] def alt (f g : List D → Option OD) : List D → Option OD := fun ds => match f ds with
  | some o => some o
  | none => g ds
theorem PrimOk.alt {f g : List D → Option OD} {R R' : List V → Hp → VK → Prop} (h : PrimOk K cl f R) (h' : PrimOk K cl g R') : PrimOk K cl (alt f g) (fun vs H Q => R vs H Q ∨ R' vs H Q) := fun F H ds vs o Q sb r e q => by
  unfold DL.alt at e
  cases e1 : f ds with
  | none => rw [e1] at e; exact .inr (h' F H ds vs o Q sb r e q)
  | some o' => rw [e1] at e; cases e; exact .inl (h F H ds vs o Q sb r e1 q)
theorem PrimOk.alt2 {f g : List D → Option OD} {r r' : R2} (h : PrimOk K cl f (R2L r)) (h' : PrimOk K cl g (R2L r')) : PrimOk K cl (DL.alt f g) (R2L fun x y H Q => r x y H Q ∨ r' x y H Q) := fun F H ds vs o Q sb rr e q => by
  rcases (PrimOk.alt h h') F H ds vs o Q sb rr e q with ⟨x, y, e, z⟩ | ⟨x, y, e, z⟩
  · exact ⟨x, y, e, .inl z⟩
  · exact ⟨x, y, e, .inr z⟩

/-! ### numbers -/
@[simp] def pII (C : Int → Int → Bool) (g : Int → Int → V) : List D → Option OD
  | [.v (.int a), .v (.int b)] => if C a b = true then some (.fz (.v (g a b))) else none
  | _ => none
theorem pII_some {C : Int → Int → Bool} {g : Int → Int → V} {ds : List D} {o : OD} (h : pII C g ds = some o) : ∃ a b, ds = [.v (.int a), .v (.int b)] ∧ C a b = true ∧ o = .fz (.v (g a b)) := by
  unfold pII at h
  split at h
  · split at h
    · cases h
      exact ⟨_, _, rfl, by assumption, rfl⟩
    · cases h
  · cases h
theorem pr_ii {C : Int → Int → Bool} {C' : Int → Int → Prop} {g : Int → Int → V} (hC : ∀ a b, C a b = true → C' a b) (ng : ∀ a b, notRef (g a b)) : PrimOk K cl (pII C g) (R2L (rI C' g)) := fun F H ds vs o Q sb r e q => by
  obtain ⟨a, b, rfl, hc, rfl⟩ := pII_some e
  obtain ⟨x, y, rfl, rx, ry⟩ := reps2 r
  exact ⟨x, y, rfl, a, b, rx.1, ry.1, hC a b hc, vq_v (ng a b) sb q⟩
theorem pr_ii0 {g : Int → Int → V} (ng : ∀ a b, notRef (g a b)) : PrimOk K cl (pII (fun _ _ => true) g) (R2L (rI0 g)) := fun F H ds vs o Q sb r e q => by
  obtain ⟨a, b, rfl, hc, rfl⟩ := pII_some e
  obtain ⟨x, y, rfl, rx, ry⟩ := reps2 r
  exact ⟨x, y, rfl, a, b, rx.1, ry.1, vq_v (ng a b) sb q⟩
@[simp] def pSS (C : Str → Str → Bool) (g : Str → Str → V) : List D → Option OD
  | [.v (.str a), .v (.str b)] => if C a b = true then some (.fz (.v (g a b))) else none
  | _ => none
theorem pSS_some {C : Str → Str → Bool} {g : Str → Str → V} {ds : List D} {o : OD} (h : pSS C g ds = some o) : ∃ a b, ds = [.v (.str a), .v (.str b)] ∧ C a b = true ∧ o = .fz (.v (g a b)) := by
  unfold pSS at h
  split at h
  · split at h
    · cases h
      exact ⟨_, _, rfl, by assumption, rfl⟩
    · cases h
  · cases h
theorem pr_ss {C : Str → Str → Bool} {C' : Str → Str → Prop} {g : Str → Str → V} (hC : ∀ a b, C a b = true → C' a b) (ng : ∀ a b, notRef (g a b)) : PrimOk K cl (pSS C g) (R2L fun x y H Q => ∃ i j, x = .str i ∧ y = .str j ∧ C' i j ∧ Q (g i j) H) := fun F H ds vs o Q sb r e q => by
  obtain ⟨a, b, rfl, hc, rfl⟩ := pSS_some e
  obtain ⟨x, y, rfl, rx, ry⟩ := reps2 r
  exact ⟨x, y, rfl, a, b, rx.1, ry.1, hC a b hc, vq_v (ng a b) sb q⟩
theorem pr_ss0 {g : Str → Str → V} (ng : ∀ a b, notRef (g a b)) : PrimOk K cl (pSS (fun _ _ => true) g) (R2L fun x y H Q => ∃ i j, x = .str i ∧ y = .str j ∧ Q (g i j) H) := fun F H ds vs o Q sb r e q => by
  obtain ⟨a, b, rfl, hc, rfl⟩ := pSS_some e
  obtain ⟨x, y, rfl, rx, ry⟩ := reps2 r
  exact ⟨x, y, rfl, a, b, rx.1, ry.1, vq_v (ng a b) sb q⟩
theorem sz {n : Nat} (h : decide (n ≤ 16777216) = true) : n ≤ sizeLine := by
  rw [sizeLine_eq]
  exact of_decide_eq_true h
theorem reps_append : ∀ {ds es : List D} {vs us : List V}, Reps K cl F ds vs → Reps K cl F es us → Reps K cl F (ds ++ es) (vs ++ us)
  | [], es, vs, us, h, h' => by
    obtain rfl : vs = [] := h
    exact h'
  | d :: ds, es, _, us, ⟨u, vs, e, r, q⟩, h' => ⟨u, vs ++ us, by rw [e]; rfl, r, reps_append q h'⟩
/-- lists together -/
@[simp] def pLL : List D → Option OD
  | [.lst a, .lst b] => if (decide (a.length ≤ 16777216) && decide (b.length ≤ 16777216) && decide (a.length + b.length ≤ 16777216)) = true then some (.lst (fzs (a ++ b))) else none
  | _ => none
@[simp] def pTT : List D → Option OD
  | [.tup a, .tup b] => if decide (a.length + b.length ≤ 16777216) = true then some (.fz (.tup (a ++ b))) else none
  | _ => none
theorem pTT_some {ds : List D} {o : OD} (h : pTT ds = some o) : ∃ a b, ds = [.tup a, .tup b] ∧ decide (a.length + b.length ≤ 16777216) = true ∧ o = .fz (.tup (a ++ b)) := by
  unfold pTT at h
  split at h
  · split at h
    · cases h
      exact ⟨_, _, rfl, by assumption, rfl⟩
    · cases h
  · cases h
theorem pLL_some {ds : List D} {o : OD} (h : pLL ds = some o) : ∃ a b, ds = [.lst a, .lst b] ∧ decide (a.length + b.length ≤ 16777216) = true ∧ o = .lst (fzs (a ++ b)) := by
  unfold pLL at h
  split at h
  · split at h
    · rename_i z
      cases h
      exact ⟨_, _, rfl, (Bool.and_eq_true_iff.mp z).2, rfl⟩
    · cases h
  · cases h
theorem pr_tt : PrimOk K cl pTT (R2L (rCatA K)) := fun F H ds vs o Q sb r e q => by
  obtain ⟨a, b, rfl, hc, rfl⟩ := pTT_some e
  obtain ⟨x, y, rfl, ⟨p, xs, ex, hx, rx⟩, ⟨p', ys, ey, hy, ry⟩⟩ := reps2 r
  have lx := reps_length rx
  have ly := reps_length ry
  refine ⟨x, y, rfl, p, p', xs, ys, ex, ey, sb_sqT sb (SqT.of hx), sb_sqT sb (SqT.of hy), sz (by rw [lx, ly]; exact hc), fun z => ?_, fun z z' => ?_, fun _ _ => vq_tup (reps_append rx ry) sb q⟩
  · subst z
    have ea : a = [] := List.length_eq_zero_iff.mp lx.symm
    subst ea
    rw [← ey]
    exact vq_d (d := .tup b) ⟨p', ys, ey, hy, ry⟩ sb q
  · subst z'
    have eb : b = [] := List.length_eq_zero_iff.mp ly.symm
    subst eb
    rw [← ex]
    rw [List.append_nil] at q
    exact vq_d (d := .tup a) ⟨p, xs, ex, hx, rx⟩ sb q
end

section
variable {X : Cx} {cl : Nat → Addr}
/-! ### operators -/
@[simp] def fAdd : List D → Option OD := alt (pII (fun _ _ => true) fun a b => .int (a + b)) (alt (pSS (fun a b => decide (a.length + b.length ≤ 16777216)) fun a b => .str (a ++ b)) pTT)
theorem op_Add : ∃ r, OpR X (binaryOp .Add) r ∧ PrimOk X.K cl fAdd (R2L r) :=
  ⟨_, op_add.or (op_add_str.or op_catA), PrimOk.alt2 (pr_ii0 fun _ _ => trivial) (PrimOk.alt2 (pr_ss (fun _ _ h => sz h) fun _ _ => trivial) pr_tt)⟩
@[simp] def fSub : List D → Option OD := pII (fun _ _ => true) fun a b => .int (a - b)
theorem op_Sub : ∃ r, OpR X (binaryOp .Sub) r ∧ PrimOk X.K cl fSub (R2L r) := ⟨_, op_sub, pr_ii0 fun _ _ => trivial⟩
/-- not too great -/
def fitB (a : Int) : Bool := decide (a.natAbs < 2 ^ 3000)
theorem fitB_of {a : Int} {n : Nat} (h : a.natAbs < 2 ^ n) (hn : n ≤ 3000) : fitB a = true := decide_eq_true (Nat.lt_of_lt_of_le h (Nat.pow_le_pow_right (by decide) hn))
@[simp] def fMul : List D → Option OD := pII (fun a b => fitB a && fitB b) fun a b => .int (a * b)
theorem op_Mul : ∃ r, OpR X (binaryOp .Mult) r ∧ PrimOk X.K cl fMul (R2L r) := ⟨_, op_mulW, pr_ii (fun a b h => wide_mul (a := 3000) (b := 3000) (of_decide_eq_true (Bool.and_eq_true_iff.mp h).1) (of_decide_eq_true (Bool.and_eq_true_iff.mp h).2) (by decide) (by decide) (by decide)) fun _ _ => trivial⟩
@[simp] def fDiv : List D → Option OD := pII (fun _ b => decide (0 < b) && fitB b) fun a b => .int (a / b)
theorem op_Div : ∃ r, OpR X (binaryOp .FloorDiv) r ∧ PrimOk X.K cl fDiv (R2L r) := ⟨_, op_fdivW, pr_ii (fun a b h => wide_div (b := 3000) (of_decide_eq_true (Bool.and_eq_true_iff.mp h).1) (of_decide_eq_true (Bool.and_eq_true_iff.mp h).2) (by decide) (by decide)) fun _ _ => trivial⟩
@[simp] def fMod : List D → Option OD := pII (fun _ b => decide (0 < b)) fun a b => .int (a % b)
theorem op_Mod : ∃ r, OpR X (binaryOp .Mod) r ∧ PrimOk X.K cl fMod (R2L r) := ⟨_, op_mod, pr_ii (fun a b h => of_decide_eq_true h) fun _ _ => trivial⟩
@[simp] def fPow : List D → Option OD := pII (fun a b => decide (0 ≤ b) && decide (b ≤ 1000) && decide (a.natAbs < 1000000)) fun a b => .int (a ^ b.toNat)
theorem op_Pow : ∃ r, OpR X (binaryOp .Pow) r ∧ PrimOk X.K cl fPow (R2L r) := ⟨_, op_pow, pr_ii (fun a b h => by
  obtain ⟨h1, h3⟩ := Bool.and_eq_true_iff.mp h
  obtain ⟨h1, h2⟩ := Bool.and_eq_true_iff.mp h1
  have := of_decide_eq_true h1
  have := of_decide_eq_true h2
  have := of_decide_eq_true h3
  exact ⟨by omega, by omega, by omega⟩) fun _ _ => trivial⟩

/-! ### comparisons -/
/-- texts by their signs -/
def ltS (a b : Str) : Bool := decide (a.cps.toList < b.cps.toList)
@[simp] def fLt : List D → Option OD := alt (pII (fun _ _ => true) fun a b => .bl (decide (a < b))) (pSS (fun _ _ => true) fun a b => .bl (ltS a b))
theorem op_Lt : ∃ r, OpR X (compareOp .Lt) r ∧ PrimOk X.K cl fLt (R2L r) := ⟨_, op_lt.or op_lt_str, PrimOk.alt2 (pr_ii0 fun _ _ => trivial) (pr_ss0 fun _ _ => trivial)⟩
@[simp] def fLe : List D → Option OD := alt (pII (fun _ _ => true) fun a b => .bl (decide (a ≤ b))) (pSS (fun _ _ => true) fun a b => .bl (!ltS b a))
theorem op_Le : ∃ r, OpR X (compareOp .LtE) r ∧ PrimOk X.K cl fLe (R2L r) := ⟨_, op_le.or op_le_str, PrimOk.alt2 (pr_ii0 fun _ _ => trivial) (pr_ss0 fun _ _ => trivial)⟩
@[simp] def fGt : List D → Option OD := alt (pII (fun _ _ => true) fun a b => .bl (decide (b < a))) (pSS (fun _ _ => true) fun a b => .bl (ltS b a))
theorem op_Gt : ∃ r, OpR X (compareOp .Gt) r ∧ PrimOk X.K cl fGt (R2L r) := ⟨_, op_gt.or op_gt_str, PrimOk.alt2 (pr_ii0 fun _ _ => trivial) (pr_ss0 fun _ _ => trivial)⟩
@[simp] def fGe : List D → Option OD := alt (pII (fun _ _ => true) fun a b => .bl (decide (b ≤ a))) (pSS (fun _ _ => true) fun a b => .bl (!ltS a b))
theorem op_Ge : ∃ r, OpR X (compareOp .GtE) r ∧ PrimOk X.K cl fGe (R2L r) := ⟨_, op_ge.or op_ge_str, PrimOk.alt2 (pr_ii0 fun _ _ => trivial) (pr_ss0 fun _ _ => trivial)⟩
end
end DL
/-! DL9: equality, in, items, slices, lengths, displays, built-in calls. -/
namespace DL
open PySem L2

/-! ### data as the library's -/
mutual
@[simp] def D.py : D → Option PyData
  | .v .non => some .none
  | .v (.bl b) => some (.bool b)
  | .v (.int i) => some (.int i)
  | .v (.str z) => some (.str z)
  | .tup ds => match pys ds with
    | some ps => some (.tuple ps)
    | none => none
  | .wtp ds => match pys ds with
    | some ps => some (.tuple ps)
    | none => none
  | .lst ds => match pys ds with
    | some ps => some (.list ps)
    | none => none
  | _ => none
@[simp] def pys : List D → Option (List PyData)
  | [] => some []
  | d :: ds => match d.py with
    | none => none
    | some p => match pys ds with
      | none => none
      | some ps => some (p :: ps)
end
section
variable {K : PySem.W.Frag} {cl : Nat → Addr} {F F' H H' : Hp} {Q : VK}
mutual
theorem py_dp (sb : Sb F H) : ∀ (d : D) (v : V) (p : PyData), d.py = some p → Rep K cl F d v → Dp K H v p
  | .v .non, v, p, e, r => by cases e; rw [r.1]; exact .non
  | .v (.bl b), v, p, e, r => by cases e; rw [r.1]; exact .bl b
  | .v (.int b), v, p, e, r => by cases e; rw [r.1]; exact .int b
  | .v (.str b), v, p, e, r => by cases e; rw [r.1]; exact .str b
  | .tup ds, v, p, e, ⟨a, vs, ev, q, r⟩ => by
    unfold D.py at e
    cases e1 : pys ds with
    | none => rw [e1] at e; cases e
    | some ps => rw [e1] at e; cases e; rw [ev]; exact .tup (sb_sqT sb (SqT.of q)) (pys_dp sb ds vs ps e1 r)
  | .wtp ds, v, p, e, ⟨a, vs, ev, q, r⟩ => by
    unfold D.py at e
    cases e1 : pys ds with
    | none => rw [e1] at e; cases e
    | some ps => rw [e1] at e; cases e; rw [ev]; exact .tup (sb_sqT sb q) (pys_dp sb ds vs ps e1 r)
  | .lst ds, v, p, e, ⟨a, vs, ev, q, r⟩ => by
    unfold D.py at e
    cases e1 : pys ds with
    | none => rw [e1] at e; cases e
    | some ps => rw [e1] at e; cases e; rw [ev]; exact .lst (sb_sqL sb (SqL.of q)) (pys_dp sb ds vs ps e1 r)
  | .v (.byt _), _, _, e, _ => by cases e
  | .v (.flt _), _, _, e, _ => by cases e
  | .v (.ref _), _, _, e, _ => by cases e
  | .v (.ty _), _, _, e, _ => by cases e
  | .wls _, _, _, e, _ => by cases e
  | .dic _, _, _, e, _ => by cases e
  | .dct _, _, _, e, _ => by cases e
  | .ins _ _, _, _, e, _ => by cases e
  | .exc _ _, _, _, e, _ => by cases e
theorem pys_dp (sb : Sb F H) : ∀ (ds : List D) (vs : List V) (ps : List PyData), pys ds = some ps → Reps K cl F ds vs → DpAll K H vs ps
  | [], vs, ps, e, r => by cases e; rw [show vs = [] from r]; exact .nil
  | d :: ds, vs, ps, e, ⟨u, us, ev, r, q⟩ => by
    unfold pys at e
    cases e1 : d.py with
    | none => rw [e1] at e; cases e
    | some p' =>
      rw [e1] at e
      dsimp only at e
      cases e2 : pys ds with
      | none => rw [e2] at e; cases e
      | some ps' => rw [e2] at e; cases e; rw [ev]; exact .cons (py_dp sb d u p' e1 r) (pys_dp sb ds us ps' e2 q)
end
@[simp] def pVV (C : V → V → Bool) (g : V → V → V) : List D → Option OD
  | [.v a, .v b] => if C a b = true then some (.fz (.v (g a b))) else none
  | _ => none
theorem pVV_some {C : V → V → Bool} {g : V → V → V} {ds : List D} {o : OD} (h : pVV C g ds = some o) : ∃ a b, ds = [.v a, .v b] ∧ C a b = true ∧ o = .fz (.v (g a b)) := by
  unfold pVV at h
  split at h
  · split at h
    · cases h
      exact ⟨_, _, rfl, by assumption, rfl⟩
    · cases h
  · cases h
@[simp] def pPP (g : PyData → PyData → Bool) : List D → Option OD
  | [a, b] => match a.py with
    | none => none
    | some p => match b.py with
      | none => none
      | some q => if (SeqAt.shaped p && SeqAt.shaped q) = true then some (.fz (.v (.bl (g p q)))) else none
  | _ => none
theorem pPP_some {g : PyData → PyData → Bool} {ds : List D} {o : OD} (h : pPP g ds = some o) : ∃ a b p q, ds = [a, b] ∧ a.py = some p ∧ b.py = some q ∧ SeqAt.shaped p = true ∧ SeqAt.shaped q = true ∧ o = .fz (.v (.bl (g p q))) := by
  unfold pPP at h
  split at h
  · split at h
    · cases h
    · split at h
      · cases h
      · split at h
        · rename_i hc
          cases h
          exact ⟨_, _, _, _, rfl, by assumption, by assumption, (Bool.and_eq_true_iff.mp hc).1, (Bool.and_eq_true_iff.mp hc).2, rfl⟩
        · cases h
  · cases h
theorem pr_vv {C : V → V → Bool} {g : V → V → V} {C' : V → V → Prop} (hC : ∀ a b, C a b = true → C' a b) (ng : ∀ a b, notRef (g a b)) : PrimOk K cl (pVV C g) (R2L fun x y H Q => C' x y ∧ Q (g x y) H) := fun F H ds vs o Q sb r e q => by
  obtain ⟨a, b, rfl, hc, rfl⟩ := pVV_some e
  obtain ⟨x, y, rfl, rx, ry⟩ := reps2 r
  rw [rx.1, ry.1]
  exact ⟨a, b, rfl, hC a b hc, vq_v (ng a b) sb q⟩
theorem pr_pp {g : PyData → PyData → Bool} : PrimOk K cl (pPP g) (R2L fun x y H Q => ∃ d e, Dp K H x d ∧ Dp K H y e ∧ SeqAt.shaped d = true ∧ SeqAt.shaped e = true ∧ Q (.bl (g d e)) H) := fun F H ds vs o Q sb r e q => by
  obtain ⟨a, b, p, p', rfl, e1, e2, s1, s2, rfl⟩ := pPP_some e
  obtain ⟨x, y, rfl, rx, ry⟩ := reps2 r
  exact ⟨x, y, rfl, p, p', py_dp sb _ _ _ e1 rx, py_dp sb _ _ _ e2 ry, s1, s2, vq_v trivial sb q⟩
/-- the flat items of a sequence -/
@[simp] def flats : List D → Option (List V)
  | [] => some []
  | .v x :: ds => if flatV x = true then (match flats ds with
    | some xs => some (x :: xs)
    | none => none) else none
  | _ :: _ => none
theorem flats_rep : ∀ {ds : List D} {vs xs : List V}, flats ds = some xs → Reps K cl F ds vs → vs = xs ∧ xs.all flatV = true
  | [], vs, xs, e, r => by cases e; exact ⟨r, rfl⟩
  | .v x :: ds, vs, xs, e, ⟨u, us, ev, r, q⟩ => by
    unfold flats at e
    split at e
    · rename_i hf
      cases e1 : flats ds with
      | none => rw [e1] at e; cases e
      | some ys =>
        rw [e1] at e
        cases e
        obtain ⟨h1, h2⟩ := flats_rep e1 q
        exact ⟨by rw [ev, r.1, h1], by rw [List.all_cons, hf, h2]; rfl⟩
    · cases e
  | .tup _ :: _, _, _, e, _ => by cases e
  | .wtp _ :: _, _, _, e, _ => by cases e
  | .lst _ :: _, _, _, e, _ => by cases e
  | .wls _ :: _, _, _, e, _ => by cases e
  | .dic _ :: _, _, _, e, _ => by cases e
  | .dct _ :: _, _, _, e, _ => by cases e
  | .ins _ _ :: _, _, _, e, _ => by cases e
  | .exc _ _ :: _, _, _, e, _ => by cases e
@[simp] def seqOf : D → Option (List D)
  | .lst ds => some ds
  | .wtp ds => some ds
  | .tup ds => some ds
  | _ => none
theorem seq_rep {d : D} {ds : List D} {v : V} (sb : Sb F H) (e : seqOf d = some ds) (r : Rep K cl F d v) : ∃ a vs, v = .ref a ∧ (SqL K H a vs ∨ SqT K H a vs) ∧ Reps K cl F ds vs := by
  cases d with
  | lst _ => cases e; obtain ⟨a, vs, e, q, r⟩ := r; exact ⟨a, vs, e, .inl (sb_sqL sb (SqL.of q)), r⟩
  | wls _ => cases e
  | tup _ => cases e; obtain ⟨a, vs, e, q, r⟩ := r; exact ⟨a, vs, e, .inr (sb_sqT sb (SqT.of q)), r⟩
  | wtp _ => cases e; obtain ⟨a, vs, e, q, r⟩ := r; exact ⟨a, vs, e, .inr (sb_sqT sb q), r⟩
  | v _ => cases e
  | dic _ => cases e
  | dct _ => cases e
  | ins _ _ => cases e
  | exc _ _ => cases e
@[simp] def pIn (neg : Bool) : List D → Option OD
  | [.v x, s] => if flatV x = true then (match seqOf s with
    | none => none
    | some ds => match flats ds with
      | none => none
      | some xs => some (.fz (.v (.bl (if neg then !inV x xs else inV x xs))))) else none
  | _ => none
theorem pIn_some {neg : Bool} {ds : List D} {o : OD} (h : pIn neg ds = some o) : ∃ x s es xs, ds = [.v x, s] ∧ flatV x = true ∧ seqOf s = some es ∧ flats es = some xs ∧ o = .fz (.v (.bl (if neg then !inV x xs else inV x xs))) := by
  unfold pIn at h
  split at h
  · split at h
    · split at h
      · cases h
      · split at h
        · cases h
        · cases h
          exact ⟨_, _, _, _, rfl, by assumption, by assumption, by assumption, rfl⟩
    · cases h
  · cases h
theorem pr_in {neg : Bool} : PrimOk K cl (pIn neg) (R2L (rIn K neg)) := fun F H ds vs o Q sb r e q => by
  obtain ⟨x, s, es, xs, rfl, hf, e1, e2, rfl⟩ := pIn_some e
  obtain ⟨u, y, rfl, rx, ry⟩ := reps2 r
  obtain ⟨a, us, rfl, hq, rr⟩ := seq_rep sb e1 ry
  obtain ⟨rfl, h2⟩ := flats_rep e2 rr
  rw [rx.1]
  exact ⟨x, _, rfl, a, us, rfl, hq, hf, h2, vq_v trivial sb q⟩
/-- an item of a list, a tuple, a text -/
@[simp] def pIx : List D → Option OD
  | [.lst ds, .v (.int i)] => (atI ds i).map .fz
  | [.wls ds, .v (.int i)] => (atI ds i).map .fz
  | [.tup ds, .v (.int i)] => (atI ds i).map .fz
  | [.wtp ds, .v (.int i)] => (atI ds i).map .fz
  | [.v (.str z), .v (.int i)] => if decide (z.length ≤ 16777216) = true then (atI z.cps.toList i).map fun c => .fz (.v (.str ⟨#[c]⟩)) else none
  | _ => none
theorem atI_rep {ds : List D} {vs : List V} {i : Int} {d : D} (r : Reps K cl F ds vs) (e : atI ds i = some d) : ∃ v, atI vs i = some v ∧ Rep K cl F d v := by
  unfold atI at e ⊢
  rw [reps_length r]
  cases e1 : ixN ds.length i with
  | none => rw [e1] at e; cases e
  | some j =>
    rw [e1] at e
    exact reps_get r e
theorem pr_ix : PrimOk K cl pIx (R2L (rIx K)) := fun F H ds vs o Q sb r e q => by
  unfold pIx at e
  split at e
  · rename_i es i
    cases e1 : atI es i with
    | none => rw [e1] at e; cases e
    | some d =>
      rw [e1] at e
      cases e
      obtain ⟨x, y, rfl, ⟨a, us, ex, hq, rr⟩, ry⟩ := reps2 r
      obtain ⟨v, h1, h2⟩ := atI_rep rr e1
      exact ⟨x, y, rfl, .inl ⟨a, us, i, v, ex, ry.1, sb_sqL sb (SqL.of hq), h1, vq_d h2 sb q⟩⟩
  · rename_i es i
    cases e1 : atI es i with
    | none => rw [e1] at e; cases e
    | some d =>
      rw [e1] at e
      cases e
      obtain ⟨x, y, rfl, ⟨a, us, ex, hq, rr⟩, ry⟩ := reps2 r
      obtain ⟨v, h1, h2⟩ := atI_rep rr e1
      exact ⟨x, y, rfl, .inl ⟨a, us, i, v, ex, ry.1, sb_sqL sb hq, h1, vq_d h2 sb q⟩⟩
  · rename_i es i
    cases e1 : atI es i with
    | none => rw [e1] at e; cases e
    | some d =>
      rw [e1] at e
      cases e
      obtain ⟨x, y, rfl, ⟨a, us, ex, hq, rr⟩, ry⟩ := reps2 r
      obtain ⟨v, h1, h2⟩ := atI_rep rr e1
      exact ⟨x, y, rfl, .inr (.inl ⟨a, us, i, v, ex, ry.1, sb_sqT sb (SqT.of hq), h1, vq_d h2 sb q⟩)⟩
  · rename_i es i
    cases e1 : atI es i with
    | none => rw [e1] at e; cases e
    | some d =>
      rw [e1] at e
      cases e
      obtain ⟨x, y, rfl, ⟨a, us, ex, hq, rr⟩, ry⟩ := reps2 r
      obtain ⟨v, h1, h2⟩ := atI_rep rr e1
      exact ⟨x, y, rfl, .inr (.inl ⟨a, us, i, v, ex, ry.1, sb_sqT sb hq, h1, vq_d h2 sb q⟩)⟩
  · rename_i z i
    split at e
    · rename_i hz
      cases e1 : atI z.cps.toList i with
      | none => rw [e1] at e; cases e
      | some c =>
        rw [e1] at e
        cases e
        obtain ⟨x, y, rfl, rx, ry⟩ := reps2 r
        exact ⟨x, y, rfl, .inr (.inr ⟨z, i, c, rx.1, ry.1, sz hz, e1, vq_v trivial sb q⟩)⟩
    · cases e
  · cases e
/-- an item of a dict -/
@[simp] def keyOf : D → Option Key
  | .v (.int i) => some (.inl i)
  | .v (.str z) => some (.inr z)
  | _ => none
@[simp] def keysOf : List D → Option (List Key)
  | [] => some []
  | d :: ds => match keyOf d with
    | none => none
    | some k => match keysOf ds with
      | none => none
      | some ks => some (k :: ks)
theorem key_rep {d : D} {k : Key} {v : V} (e : keyOf d = some k) (r : Rep K cl F d v) : v = kV k := by
  unfold keyOf at e
  split at e
  · cases e; exact r.1
  · cases e; exact r.1
  · cases e
theorem keys_rep : ∀ {ds : List D} {ks : List Key} {vs : List V}, keysOf ds = some ks → Reps K cl F ds vs → vs = ks.map kV
  | [], ks, vs, e, r => by cases e; exact r
  | d :: ds, ks, vs, e, ⟨u, us, ev, r, q⟩ => by
    unfold keysOf at e
    cases e1 : keyOf d with
    | none => rw [e1] at e; cases e
    | some k =>
      rw [e1] at e
      dsimp only at e
      cases e2 : keysOf ds with
      | none => rw [e2] at e; cases e
      | some ks' =>
        rw [e2] at e
        cases e
        rw [ev, key_rep e1 r, keys_rep e2 q]
        rfl
def dval {κ : Type} [DecidableEq κ] (kvs : List (κ × D)) (k : κ) : Option D := (kvs.find? fun kv => decide (kv.1 = k)).map (·.2)
/-- what stands under a key: none: no such step; some none: not there -/
@[simp] def dget : D → D → Option (Option D)
  | .dic kvs, d => match keyOf d with
    | some k => some (dval kvs k)
    | none => none
  | .dct kvs, .tup ds => match keysOf ds with
    | some k => some (dval kvs k)
    | none => none
  | _, _ => none
theorem dval_repK : ∀ {kvs : List (Key × D)} {vs : List (Key × V)} {k : Key}, RepK K cl F kvs vs → match dval kvs k with
    | some d => ∃ v, valV vs k = some v ∧ Rep K cl F d v
    | none => valV vs k = none
  | [], vs, k, h => by rw [show vs = [] from h]; rfl
  | (j, d) :: kvs, vs, k, ⟨u, us, e, r, q⟩ => by
    subst e
    by_cases h : j = k
    · have e1 : dval ((j, d) :: kvs) k = some d := by simp [dval, List.find?_cons, h]
      rw [e1]
      exact ⟨u, valV_pos h, r⟩
    · have e1 : dval ((j, d) :: kvs) k = dval kvs k := by simp [dval, List.find?_cons, h]
      rw [e1, valV_neg (p := (j, u)) h]
      exact dval_repK q
theorem dval_repT : ∀ {kvs : List (List Key × D)} {vs : List (List Key × V)} {k : List Key}, RepT K cl F kvs vs → match dval kvs k with
    | some d => ∃ v, valV vs k = some v ∧ Rep K cl F d v
    | none => valV vs k = none
  | [], vs, k, h => by rw [show vs = [] from h]; rfl
  | (j, d) :: kvs, vs, k, ⟨u, us, e, r, q⟩ => by
    subst e
    by_cases h : j = k
    · have e1 : dval ((j, d) :: kvs) k = some d := by simp [dval, List.find?_cons, h]
      rw [e1]
      exact ⟨u, valV_pos h, r⟩
    · have e1 : dval ((j, d) :: kvs) k = dval kvs k := by simp [dval, List.find?_cons, h]
      rw [e1, valV_neg (p := (j, u)) h]
      exact dval_repT q
@[simp] def pDIn (neg : Bool) : List D → Option OD
  | [k, d] => match dget d k with
    | some o => some (.fz (.v (.bl (if neg then !o.isSome else o.isSome))))
    | none => none
  | _ => none
@[simp] def pDIx : List D → Option OD
  | [d, k] => match dget d k with
    | some (some x) => some (.fz x)
    | _ => none
  | _ => none
theorem dget_rep {d k : D} {o : Option D} {x y : V} (sb : Sb F H) (e : dget d k = some o) (rd : Rep K cl F d x) (rk : Rep K cl F k y) : ∃ a, x = .ref a ∧
    (∀ d', o = some d' → ∃ v, DGet H a y (some v) ∧ Rep K cl F d' v) ∧ (o = none → DGet H a y none) := by
  cases d with
  | dic kvs =>
    unfold dget at e
    dsimp only at e
    cases e1 : keyOf k with
    | none => rw [e1] at e; cases e
    | some k' =>
      rw [e1] at e
      cases e
      obtain ⟨a, vs, ex, hq, rr⟩ := rd
      refine ⟨a, ex, ?_⟩
      have hr := (sb _ _ hq).1
      have ey := key_rep e1 rk
      have := dval_repK (k := k') rr
      refine ⟨fun d' e2 => ?_, fun e2 => ?_⟩
      · rw [e2] at this
        obtain ⟨v, h1, h2⟩ := this
        exact ⟨v, .inl ⟨vs, k', hr, ey, h1.symm⟩, h2⟩
      · rw [e2] at this
        exact .inl ⟨vs, k', hr, ey, this.symm⟩
  | v _ => cases e
  | tup _ => cases e
  | wtp _ => cases e
  | lst _ => cases e
  | wls _ => cases e
  | dct kvs =>
    cases k with
    | tup ds =>
      unfold dget at e
      dsimp only at e
      cases e1 : keysOf ds with
      | none => rw [e1] at e; cases e
      | some k' =>
        rw [e1] at e
        cases e
        obtain ⟨a, vs, ex, hq, rr⟩ := rd
        obtain ⟨b, us, ey, hb, rb⟩ := rk
        refine ⟨a, ex, ?_⟩
        have hr := (sb _ _ hq).1
        have hb2 := (sb _ _ hb).2 rfl
        rw [keys_rep e1 rb] at hb2
        have := dval_repT (k := k') rr
        refine ⟨fun d' e2 => ?_, fun e2 => ?_⟩
        · rw [e2] at this
          obtain ⟨v, h1, h2⟩ := this
          exact ⟨v, .inr ⟨vs, k', b, hr, ey, hb2, h1.symm⟩, h2⟩
        · rw [e2] at this
          exact .inr ⟨vs, k', b, hr, ey, hb2, this.symm⟩
    | _ => cases e
  | ins _ _ => cases e
  | exc _ _ => cases e
theorem pr_din {neg : Bool} : PrimOk K cl (pDIn neg) (R2L fun y x H Q => ∃ a o, x = .ref a ∧ DGet H a y o ∧ Q (.bl (if neg then !o.isSome else o.isSome)) H) := fun F H ds vs o Q sb r e q => by
  unfold pDIn at e
  split at e
  · rename_i k d
    cases e1 : dget d k with
    | none => rw [e1] at e; cases e
    | some o' =>
      rw [e1] at e
      cases e
      obtain ⟨y, x, rfl, ry, rx⟩ := reps2 r
      obtain ⟨a, ex, h, h'⟩ := dget_rep sb e1 rx ry
      cases o' with
      | none => exact ⟨y, x, rfl, a, none, ex, h' rfl, vq_v trivial sb q⟩
      | some d' =>
        obtain ⟨v, h1, h2⟩ := h d' rfl
        exact ⟨y, x, rfl, a, some v, ex, h1, vq_v trivial sb q⟩
  · cases e
theorem pr_dix : PrimOk K cl pDIx (R2L fun x y H Q => ∃ a v, x = .ref a ∧ DGet H a y (some v) ∧ Q v H) := fun F H ds vs o Q sb r e q => by
  unfold pDIx at e
  split at e
  · rename_i d k
    split at e
    · rename_i d' e1
      cases e
      obtain ⟨x, y, rfl, rx, ry⟩ := reps2 r
      obtain ⟨a, ex, h, _⟩ := dget_rep sb e1 rx ry
      obtain ⟨v, h1, h2⟩ := h d' rfl
      exact ⟨x, y, rfl, a, v, ex, h1, vq_d h2 sb q⟩
    · cases e
  · cases e
end

section
variable {X : Cx} {cl : Nat → Addr} {W : WX} {e a b : Expr} {ta tb : Rho → Res Opd} {pos : Pos}
theorem fin_alt {f g : List D → Option OD} {qs : List Opd} {ρ : Rho} : fin (alt f g) qs ρ = fin f qs ρ ∨ fin (alt f g) qs ρ = fin g qs ρ := by
  unfold fin
  cases rss ρ qs with
  | none => exact .inl rfl
  | some ds =>
    dsimp only [alt]
    cases f ds with
    | none => exact .inr rfl
    | some o => exact .inl rfl
theorem ee_alt2 {f g : List D → Option OD} (h : EE X cl W e (ev2 f ta tb)) (h' : EE X cl W e (ev2 g ta tb)) : EE X cl W e (ev2 (alt f g) ta tb) := by
  refine PE.imp (PE.or h h') fun σ H Q ⟨F, ρ, A, s, q⟩ => ?_
  have : ev2 (alt f g) ta tb ρ = ev2 f ta tb ρ ∨ ev2 (alt f g) ta tb ρ = ev2 g ta tb ρ := by
    unfold ev2
    cases ta ρ with
    | bad => exact .inl rfl
    | err _ _ => exact .inl rfl
    | ok x ρ1 =>
      show (tb ρ1).bind _ = (tb ρ1).bind _ ∨ (tb ρ1).bind _ = (tb ρ1).bind _
      cases tb ρ1 with
      | bad => exact .inl rfl
      | err _ _ => exact .inl rfl
      | ok y ρ2 => exact fin_alt
  rcases this with z | z
  · rw [z] at q; exact .inl ⟨F, ρ, A, s, q⟩
  · rw [z] at q; exact .inr ⟨F, ρ, A, s, q⟩
theorem ee_altN {f g : List D → Option OD} {ts : Rho → Res (List Opd)} (h : EE X cl W e (evN f ts)) (h' : EE X cl W e (evN g ts)) : EE X cl W e (evN (alt f g) ts) := by
  refine PE.imp (PE.or h h') fun σ H Q ⟨F, ρ, A, s, q⟩ => ?_
  have : evN (alt f g) ts ρ = evN f ts ρ ∨ evN (alt f g) ts ρ = evN g ts ρ := by
    unfold evN
    cases ts ρ with
    | bad => exact .inl rfl
    | err _ _ => exact .inl rfl
    | ok y ρ2 => exact fin_alt
  rcases this with z | z
  · rw [z] at q; exact .inl ⟨F, ρ, A, s, q⟩
  · rw [z] at q; exact .inr ⟨F, ρ, A, s, q⟩

@[simp] def fEq : List D → Option OD := alt (pVV scal fun x y => .bl (decide (x = y))) (pPP PyData.eqv)
@[simp] def fNe : List D → Option OD := alt (pVV scal fun x y => .bl (!decide (x = y))) (pPP fun p q => !PyData.eqv p q)
theorem op_Eq (hu : X.A.units + 64 < cLine) : ∃ r, OpR X (compareOp .Eq) r ∧ PrimOk X.K cl fEq (R2L r) := ⟨_, op_eq.or (op_eqD hu), PrimOk.alt2 (pr_vv (fun _ _ h => h) fun _ _ => trivial) pr_pp⟩
theorem op_Ne (hu : X.A.units + 64 < cLine) : ∃ r, OpR X (compareOp .NotEq) r ∧ PrimOk X.K cl fNe (R2L r) := ⟨_, op_ne.or (op_neD hu), PrimOk.alt2 (pr_vv (fun _ _ h => h) fun _ _ => trivial) pr_pp⟩
/-- is None, is True .. -/
@[simp] def pIsN (neg : Bool) : List D → Option OD
  | [.v x, .v .non] => some (.fz (.v (.bl (if neg then !decide (x = .non) else decide (x = .non)))))
  | [.lst _, .v .non] => some (.fz (.v (.bl neg)))
  | [.tup _, .v .non] => some (.fz (.v (.bl neg)))
  | [.wtp _, .v .non] => some (.fz (.v (.bl neg)))
  | [.exc _ _, .v .non] => some (.fz (.v (.bl neg)))
  | [.ins _ _, .v .non] => some (.fz (.v (.bl neg)))
  | [.dic _, .v .non] => some (.fz (.v (.bl neg)))
  | [.dct _, .v .non] => some (.fz (.v (.bl neg)))
  | [.v (.bl a), .v (.bl b)] => some (.fz (.v (.bl (if neg then !decide (a = b) else decide (a = b)))))
  | _ => none
theorem pr_isN {K : PySem.W.Frag} : PrimOk K cl (pIsN false) (R2L fun x y H Q => (y = .non ∧ Q (.bl (decide (x = .non))) H) ∨ rIsB x y H Q) := fun F H ds vs o Q sb r e q => by
  unfold pIsN at e
  split at e
  · cases e
    obtain ⟨x, y, rfl, rx, ry⟩ := reps2 r
    refine ⟨x, y, rfl, .inl ⟨ry.1, ?_⟩⟩
    rw [rx.1]
    exact vq_v trivial sb q
  · cases e
    obtain ⟨x, y, rfl, ⟨a, vs, ex, _⟩, ry⟩ := reps2 r
    refine ⟨x, y, rfl, .inl ⟨ry.1, ?_⟩⟩
    rw [ex]
    exact vq_v trivial sb q
  · cases e
    obtain ⟨x, y, rfl, ⟨a, vs, ex, _⟩, ry⟩ := reps2 r
    refine ⟨x, y, rfl, .inl ⟨ry.1, ?_⟩⟩
    rw [ex]
    exact vq_v trivial sb q
  · cases e
    obtain ⟨x, y, rfl, ⟨a, vs, ex, _⟩, ry⟩ := reps2 r
    refine ⟨x, y, rfl, .inl ⟨ry.1, ?_⟩⟩
    rw [ex]
    exact vq_v trivial sb q
  · cases e
    obtain ⟨x, y, rfl, ⟨a, d, vs, ex, _⟩, ry⟩ := reps2 r
    refine ⟨x, y, rfl, .inl ⟨ry.1, ?_⟩⟩
    rw [ex]
    exact vq_v trivial sb q
  · cases e
    obtain ⟨x, y, rfl, ⟨a, d, vs, ex, _⟩, ry⟩ := reps2 r
    refine ⟨x, y, rfl, .inl ⟨ry.1, ?_⟩⟩
    rw [ex]
    exact vq_v trivial sb q
  · cases e
    obtain ⟨x, y, rfl, ⟨a, vs, ex, _⟩, ry⟩ := reps2 r
    refine ⟨x, y, rfl, .inl ⟨ry.1, ?_⟩⟩
    rw [ex]
    exact vq_v trivial sb q
  · cases e
    obtain ⟨x, y, rfl, ⟨a, vs, ex, _⟩, ry⟩ := reps2 r
    refine ⟨x, y, rfl, .inl ⟨ry.1, ?_⟩⟩
    rw [ex]
    exact vq_v trivial sb q
  · cases e
    obtain ⟨x, y, rfl, rx, ry⟩ := reps2 r
    exact ⟨x, y, rfl, .inr ⟨_, _, rx.1, ry.1, vq_v trivial sb q⟩⟩
  · cases e
theorem pr_notN {K : PySem.W.Frag} : PrimOk K cl (pIsN true) (R2L fun x y H Q => (y = .non ∧ Q (.bl (!decide (x = .non))) H) ∨ rNotB x y H Q) := fun F H ds vs o Q sb r e q => by
  unfold pIsN at e
  split at e
  · cases e
    obtain ⟨x, y, rfl, rx, ry⟩ := reps2 r
    refine ⟨x, y, rfl, .inl ⟨ry.1, ?_⟩⟩
    rw [rx.1]
    exact vq_v trivial sb q
  · cases e
    obtain ⟨x, y, rfl, ⟨a, vs, ex, _⟩, ry⟩ := reps2 r
    refine ⟨x, y, rfl, .inl ⟨ry.1, ?_⟩⟩
    rw [ex]
    exact vq_v trivial sb q
  · cases e
    obtain ⟨x, y, rfl, ⟨a, vs, ex, _⟩, ry⟩ := reps2 r
    refine ⟨x, y, rfl, .inl ⟨ry.1, ?_⟩⟩
    rw [ex]
    exact vq_v trivial sb q
  · cases e
    obtain ⟨x, y, rfl, ⟨a, vs, ex, _⟩, ry⟩ := reps2 r
    refine ⟨x, y, rfl, .inl ⟨ry.1, ?_⟩⟩
    rw [ex]
    exact vq_v trivial sb q
  · cases e
    obtain ⟨x, y, rfl, ⟨a, d, vs, ex, _⟩, ry⟩ := reps2 r
    refine ⟨x, y, rfl, .inl ⟨ry.1, ?_⟩⟩
    rw [ex]
    exact vq_v trivial sb q
  · cases e
    obtain ⟨x, y, rfl, ⟨a, d, vs, ex, _⟩, ry⟩ := reps2 r
    refine ⟨x, y, rfl, .inl ⟨ry.1, ?_⟩⟩
    rw [ex]
    exact vq_v trivial sb q
  · cases e
    obtain ⟨x, y, rfl, ⟨a, vs, ex, _⟩, ry⟩ := reps2 r
    refine ⟨x, y, rfl, .inl ⟨ry.1, ?_⟩⟩
    rw [ex]
    exact vq_v trivial sb q
  · cases e
    obtain ⟨x, y, rfl, ⟨a, vs, ex, _⟩, ry⟩ := reps2 r
    refine ⟨x, y, rfl, .inl ⟨ry.1, ?_⟩⟩
    rw [ex]
    exact vq_v trivial sb q
  · cases e
    obtain ⟨x, y, rfl, rx, ry⟩ := reps2 r
    exact ⟨x, y, rfl, .inr ⟨_, _, rx.1, ry.1, vq_v trivial sb q⟩⟩
  · cases e
theorem op_Is : ∃ r, OpR X (compareOp .Is) r ∧ PrimOk X.K cl (pIsN false) (R2L r) := ⟨_, op_isN.or op_isBl, pr_isN⟩
theorem op_IsNot : ∃ r, OpR X (compareOp .IsNot) r ∧ PrimOk X.K cl (pIsN true) (R2L r) := ⟨_, op_notN.or op_notBl, pr_notN⟩
def inS (i j : Str) : Bool := !(Builtin.Str.occurrences j i 0 j.length 1).isEmpty
/-- in: a text in a text, a flat thing in a list or tuple, data in a list, a key in a dict -/
def pInD (neg : Bool) : List D → Option OD := pPP fun p q => match q with
  | .list ps => if neg then !ps.any fun z => PyData.eqv z p else ps.any fun z => PyData.eqv z p
  | _ => false
@[simp] def fIn0 (neg : Bool) : List D → Option OD := alt (pSS (fun _ _ => true) fun i j => .bl (if neg then !inS i j else inS i j)) (pIn neg)
@[simp] def fIn (neg : Bool) : List D → Option OD := alt (fIn0 neg) (pDIn neg)
theorem ee_in (hu : X.A.units + 1 < cLine) (ha : EP' X cl W a ta) (hb : EP' X cl W b tb) (hm : behindInMarks .In b = false := by rfl) : EE X cl W (.Compare a [.In] [b] pos) (ev2 (fIn false) ta tb) :=
  ee_alt2 (ee_cmp (op_in_str.or op_in_seq) (PrimOk.alt2 (pr_ss0 fun _ _ => trivial) pr_in) ha hb hm) (ee_2 (fun h1 h2 => pe_cmp (pc_din hu h1 h2) hm) pr_din ha hb)
theorem ee_notin (hu : X.A.units + 1 < cLine) (ha : EP' X cl W a ta) (hb : EP' X cl W b tb) (hm : behindInMarks .NotIn b = false := by rfl) : EE X cl W (.Compare a [.NotIn] [b] pos) (ev2 (fIn true) ta tb) :=
  ee_alt2 (ee_cmp (op_notIn_str.or op_notIn_seq) (PrimOk.alt2 (pr_ss0 fun _ _ => trivial) pr_in) ha hb hm) (ee_2 (fun h1 h2 => pe_cmp (pc_dnotin hu h1 h2) hm) pr_din ha hb)
@[simp] def fIx : List D → Option OD := alt pIx pDIx
theorem ee_item (hu : X.A.units + 1 < cLine) (ha : EP' X cl W a ta) (hb : EP' X cl W b tb) (hs : PlainIx b := by exact fun _ _ => rfl) : EE X cl W (.Subscript a b pos) (ev2 fIx ta tb) :=
  ee_alt2 (ee_ix ix_seq pr_ix ha hb hs) (ee_2 (fun h1 h2 => pe_dget hu h1 h2 hs) pr_dix ha hb)
/-! ### built-in calls -/
theorem ee_callB {f : List D → Option OD} {R : List V → Hp → VK → Prop} {id : String} {x : Str} {p : Pos} {es : List Expr} {ts : Rho → Res (List Opd)} (hc : CallR X (.builtin id) R) (pr : PrimOk X.K cl f R) (hg : Gl X x) (hm : X.mg x = none) (hv : bootBuiltins x = some (.builtin id)) (ha : EA X cl W (a :: es) ts) (hn : x ≠ "__name__" := by decide) (hdb : (x == ("__debug__" : Str)) = false := by decide)
    (he : starEach (a :: es) X.env = (false, eval a X.env) :: starEach es X.env := by rfl) (hpl : (backTo pos (starEach es X.env)).any (·.1) = false := by rfl) : EE X cl W (.Call (.Name x p) (a :: es) [] pos) (evN f ts) :=
  ee_n (fun h => pe_callB hc hg hm hv h hn hdb he hpl) pr ha
theorem ee_callTy {f : List D → Option OD} {R : List V → Hp → VK → Prop} {T : String} {x : Str} {p : Pos} {es : List Expr} {ts : Rho → Res (List Opd)} (hc : CallR X (.type T) R) (pr : PrimOk X.K cl f R) (hg : Gl X x) (hm : X.mg x = none) (hv : bootBuiltins x = some (.type T)) (ha : EA X cl W (a :: es) ts) (hn : x ≠ "__name__" := by decide) (hdb : (x == ("__debug__" : Str)) = false := by decide)
    (he : starEach (a :: es) X.env = (false, eval a X.env) :: starEach es X.env := by rfl) (hpl : (backTo pos (starEach es X.env)).any (·.1) = false := by rfl) : EE X cl W (.Call (.Name x p) (a :: es) [] pos) (evN f ts) :=
  ee_n (fun h => pe_callTy hc hg hm hv h hn hdb he hpl) pr ha
end
end DL
/-! DL10: built-in calls, slices, displays, what changes an own object. -/
namespace DL
open PySem L2

section
variable {K : PySem.W.Frag} {cl : Nat → Addr} {F F' H H' : Hp} {Q : VK}
/-! ### len, list, tuple, isinstance, max, min, str -/
@[simp] def pLen : List D → Option OD
  | [.lst ds] => some (.fz (.v (.int ds.length)))
  | [.wls ds] => some (.fz (.v (.int ds.length)))
  | [.tup ds] => some (.fz (.v (.int ds.length)))
  | [.wtp ds] => some (.fz (.v (.int ds.length)))
  | [.v (.str z)] => if decide (z.length ≤ 16777216) = true then some (.fz (.v (.int z.length))) else none
  | [.dic kvs] => some (.fz (.v (.int kvs.length)))
  | _ => none
theorem repK_length : ∀ {ds : List (Key × D)} {vs : List (Key × V)}, RepK K cl F ds vs → vs.length = ds.length
  | [], vs, h => by rw [show vs = [] from h]; rfl
  | (k, d) :: ds, vs, ⟨u, us, e, _, q⟩ => by rw [e, List.length_cons, List.length_cons, repK_length q]
@[simp] def pListOf : List D → Option OD
  | [.lst ds] => some (.lst (fzs ds))
  | [.tup ds] => some (.lst (fzs ds))
  | _ => none
theorem pr_listOf : PrimOk K cl pListOf (fun xs H Q => ∃ p ys, xs = [.ref p] ∧ (SqL K H p ys ∨ SqT K H p ys) ∧ ∀ l, H l = none → Q (.ref l) (upd H l (.lst ys))) := fun F H ds vs o Q sb r e q => by
  unfold pListOf at e
  split at e
  · cases e
    obtain ⟨x, rfl, a, us, rfl, hq, rr⟩ := reps1 r
    exact ⟨a, us, rfl, .inl (sb_sqL sb (SqL.of hq)), vq_lst rr sb q⟩
  · cases e
    obtain ⟨x, rfl, a, us, rfl, hq, rr⟩ := reps1 r
    exact ⟨a, us, rfl, .inr (sb_sqT sb (SqT.of hq)), vq_lst rr sb q⟩
  · cases e
@[simp] def pTupOf : List D → Option OD
  | [.lst ds] => some (.fz (.tup ds))
  | [.tup ds] => some (.fz (.tup ds))
  | _ => none
theorem pr_tupOf : PrimOk K cl pTupOf (fun xs H Q => ∃ p ys, xs = [.ref p] ∧ ((SqL K H p ys ∧ ∀ l, H l = none → Q (.ref l) (upd H l (.tup ys))) ∨ (SqT K H p ys ∧ Q (.ref p) H))) := fun F H ds vs o Q sb r e q => by
  unfold pTupOf at e
  split at e
  · cases e
    obtain ⟨x, rfl, a, us, rfl, hq, rr⟩ := reps1 r
    exact ⟨a, us, rfl, .inl ⟨sb_sqL sb (SqL.of hq), vq_tup rr sb q⟩⟩
  · cases e
    obtain ⟨x, rfl, a, us, rfl, hq, rr⟩ := reps1 r
    exact ⟨a, us, rfl, .inr ⟨sb_sqT sb (SqT.of hq), vq_d (d := .tup _) ⟨a, us, rfl, hq, rr⟩ sb q⟩⟩
  · cases e
@[simp] def tyName : D → Option String
  | .v .non => some "NoneType"
  | .v (.bl _) => some "bool"
  | .v (.int _) => some "int"
  | .v (.str _) => some "str"
  | .lst _ => some "list"
  | .tup _ => some "tuple"
  | .wtp _ => some "tuple"
  | .dic _ => some "dict"
  | _ => none
def isiB (a b : String) : Option Bool := if a == b then some true else if a == "bool" && b == "int" then some true else
  if (b == "bool" || b == "int" || b == "str" || b == "list" || b == "tuple" || b == "dict") then some false else none
@[simp] def pIsi : List D → Option OD
  | [d, .v (.ty T)] => match tyName d with
    | some a => (kitB a T).map fun b => .fz (.v (.bl b))
    | none => none
  | _ => none
theorem ty_list {a : Addr} {xs : List V} (h : SqL K H a xs) : TyX K H (.ref a) (.type "list") := by
  rcases h with (h | ⟨o, h⟩) | ⟨o, its, n, h1, h2, h3, _⟩
  · exact .base (.lst h)
  · exact .base (.frz h)
  · exact .kList h1 h2
theorem ty_tup {a : Addr} {xs : List V} (h : SqT K H a xs) : TyX K H (.ref a) (.type "tuple") := by
  rcases h with (h | ⟨o, h⟩) | ⟨o, its, n, h1, h2, h3, _⟩
  · exact .base (.tup h)
  · exact .fTuple h
  · exact .kTuple h1 h2
theorem ty_dict {a : Addr} {xs : List (Key × V)} (h : Rd H a (.dK xs)) : TyX K H (.ref a) (.type "dict") := by
  rcases h with h | ⟨o, h⟩
  · exact .base (.dK h)
  · exact .fDict h
theorem tyName_ok {d : D} {a : String} {v : V} (sb : Sb F H) (e : tyName d = some a) (r : Rep K cl F d v) : TyX K H v (.type a) := by
  unfold tyName at e
  split at e
  · cases e; rw [r.1]; exact .base .non
  · cases e; rw [r.1]; exact .base (.bl _)
  · cases e; rw [r.1]; exact .base (.int _)
  · cases e; rw [r.1]; exact .base (.str _)
  · cases e; obtain ⟨a, vs, rfl, q, _⟩ := r; exact ty_list (sb_sqL sb (SqL.of q))
  · cases e; obtain ⟨a, vs, rfl, q, _⟩ := r; exact ty_tup (sb_sqT sb (SqT.of q))
  · cases e; obtain ⟨a, vs, rfl, q, _⟩ := r; exact ty_tup (sb_sqT sb q)
  · cases e; obtain ⟨a, vs, rfl, q, _⟩ := r; exact ty_dict (sb _ _ q).1
  · cases e
theorem pIsi_some {ds : List D} {o : OD} (h : pIsi ds = some o) : ∃ d T a b, ds = [d, .v (.ty T)] ∧ tyName d = some a ∧ kitB a T = some b ∧ o = .fz (.v (.bl b)) := by
  match ds, h with
  | [d, .v (.ty T)], h =>
    unfold pIsi at h
    dsimp only at h
    cases ea : tyName d with
    | none => rw [ea] at h; cases h
    | some a =>
      rw [ea] at h
      dsimp only at h
      cases ek : kitB a T with
      | none => rw [ek] at h; cases h
      | some b => rw [ek] at h; cases h; exact ⟨d, T, a, b, rfl, ea, ek, rfl⟩
theorem pr_isi : PrimOk K cl pIsi (rIsi K) := fun F H ds vs o Q sb r e q => by
  obtain ⟨d, T, a, b, rfl, ea, ek, rfl⟩ := pIsi_some e
  obtain ⟨x, y, rfl, rx, ry⟩ := reps2 r
  exact ⟨x, y, _, _, b, rfl, by rw [ry.1]; exact .ty T, tyName_ok sb ea rx, kit_ty ek, vq_v trivial sb q⟩
@[simp] def pMax : List D → Option OD
  | [.v (.int a), .v (.int b)] => some (.fz (.v (.int (if b > a then b else a))))
  | _ => none
@[simp] def pMin : List D → Option OD
  | [.v (.int a), .v (.int b)] => some (.fz (.v (.int (if b < a then b else a))))
  | _ => none
theorem pr_max : PrimOk K cl pMax (fun xs H Q => ∃ i j, xs = [.int i, .int j] ∧ Q (.int (if j > i then j else i)) H) := fun F H ds vs o Q sb r e q => by
  unfold pMax at e
  split at e
  · cases e
    obtain ⟨x, y, rfl, rx, ry⟩ := reps2 r
    exact ⟨_, _, by rw [rx.1, ry.1], vq_v trivial sb q⟩
  · cases e
theorem pr_min : PrimOk K cl pMin (fun xs H Q => ∃ i j, xs = [.int i, .int j] ∧ Q (.int (if j < i then j else i)) H) := fun F H ds vs o Q sb r e q => by
  unfold pMin at e
  split at e
  · cases e
    obtain ⟨x, y, rfl, rx, ry⟩ := reps2 r
    exact ⟨_, _, by rw [rx.1, ry.1], vq_v trivial sb q⟩
  · cases e
/-- int(n), int(flag) -/
@[simp] def pInt : List D → Option OD
  | [.v (.int a)] => some (.fz (.v (.int a)))
  | [.v (.bl k)] => some (.fz (.v (.int (if k then 1 else 0))))
  | _ => none
theorem pr_int : PrimOk K cl pInt (fun xs H Q => (∃ i, xs = [.int i] ∧ Q (.int i) H) ∨ ∃ k, xs = [.bl k] ∧ Q (.int (if k then 1 else 0)) H) := fun F H ds vs o Q sb r e q => by
  unfold pInt at e
  split at e
  · cases e
    obtain ⟨x, rfl, rx⟩ := reps1 r
    exact .inl ⟨_, by rw [rx.1], vq_v trivial sb q⟩
  · cases e
    obtain ⟨x, rfl, rx⟩ := reps1 r
    exact .inr ⟨_, by rw [rx.1], vq_v trivial sb q⟩
  · cases e
@[simp] def pNeg : List D → Option OD
  | [.v (.int a)] => some (.fz (.v (.int (-a))))
  | _ => none
theorem pr_neg : PrimOk K cl pNeg (fun vs H Q => ∃ x, vs = [x] ∧ (rU fun i => .int (-i)) x H Q) := fun F H ds vs o Q sb r e q => by
  unfold pNeg at e
  split at e
  · cases e
    obtain ⟨x, rfl, rx⟩ := reps1 r
    exact ⟨x, rfl, _, rx.1, vq_v trivial sb q⟩
  · cases e
/-- all(xs), any(xs) of truths -/
@[simp] def bools : List D → Option (List Bool)
  | [] => some []
  | .v (.bl b) :: ds => match bools ds with
    | some bs => some (b :: bs)
    | none => none
  | _ :: _ => none
theorem bools_rep : ∀ {ds : List D} {bs : List Bool} {vs : List V}, bools ds = some bs → Reps K cl F ds vs → vs = bs.map V.bl
  | [], bs, vs, e, r => by cases e; exact r
  | .v (.bl b) :: ds, bs, vs, e, ⟨u, us, ev, r, q⟩ => by
    unfold bools at e
    cases e1 : bools ds with
    | none => rw [e1] at e; cases e
    | some bs' => rw [e1] at e; cases e; rw [ev, r.1, bools_rep e1 q]; rfl
  | .tup _ :: _, _, _, e, _ => by cases e
  | .wtp _ :: _, _, _, e, _ => by cases e
  | .lst _ :: _, _, _, e, _ => by cases e
  | .wls _ :: _, _, _, e, _ => by cases e
  | .dic _ :: _, _, _, e, _ => by cases e
  | .dct _ :: _, _, _, e, _ => by cases e
  | .ins _ _ :: _, _, _, e, _ => by cases e
  | .exc _ _ :: _, _, _, e, _ => by cases e
  | .v .non :: _, _, _, e, _ => by cases e
  | .v (.int _) :: _, _, _, e, _ => by cases e
  | .v (.str _) :: _, _, _, e, _ => by cases e
  | .v (.byt _) :: _, _, _, e, _ => by cases e
  | .v (.flt _) :: _, _, _, e, _ => by cases e
  | .v (.ref _) :: _, _, _, e, _ => by cases e
  | .v (.ty _) :: _, _, _, e, _ => by cases e
@[simp] def pAll : List D → Option OD
  | [.lst ds] => match bools ds with
    | some bs => some (.fz (.v (.bl (bs.all id))))
    | none => none
  | _ => none
@[simp] def pAny : List D → Option OD
  | [.lst ds] => match bools ds with
    | some bs => some (.fz (.v (.bl (bs.any id))))
    | none => none
  | _ => none
end

section
variable {X : Cx} {cl : Nat → Addr} {W : WX} {e a b : Expr} {es : List Expr} {ts : Rho → Res (List Opd)} {ta tb : Rho → Res Opd} {pos p : Pos}
theorem pr_lenS {K : PySem.W.Frag} : PrimOk K cl pLen (fun xs H Q => (∃ p ys, xs = [.ref p] ∧ (SqL K H p ys ∨ SqT K H p ys) ∧ Q (.int ys.length) H) ∨ (∃ z, xs = [.str z] ∧ z.length ≤ sizeLine ∧ Q (.int z.length) H) ∨ ∃ d kvs, xs = [.ref d] ∧ Rd H d (.dK kvs) ∧ Q (.int (kvs.length : Nat)) H) := fun F H ds vs o Q sb r e q => by
  unfold pLen at e
  split at e
  · cases e
    obtain ⟨x, rfl, a, us, rfl, hq, rr⟩ := reps1 r
    refine .inl ⟨a, us, rfl, .inl (sb_sqL sb (SqL.of hq)), ?_⟩
    rw [reps_length rr]
    exact vq_v trivial sb q
  · cases e
    obtain ⟨x, rfl, a, us, rfl, hq, rr⟩ := reps1 r
    refine .inl ⟨a, us, rfl, .inl (sb_sqL sb hq), ?_⟩
    rw [reps_length rr]
    exact vq_v trivial sb q
  · cases e
    obtain ⟨x, rfl, a, us, rfl, hq, rr⟩ := reps1 r
    refine .inl ⟨a, us, rfl, .inr (sb_sqT sb (SqT.of hq)), ?_⟩
    rw [reps_length rr]
    exact vq_v trivial sb q
  · cases e
    obtain ⟨x, rfl, a, us, rfl, hq, rr⟩ := reps1 r
    refine .inl ⟨a, us, rfl, .inr (sb_sqT sb hq), ?_⟩
    rw [reps_length rr]
    exact vq_v trivial sb q
  · split at e
    · rename_i hz
      cases e
      obtain ⟨x, rfl, rx⟩ := reps1 r
      exact .inr (.inl ⟨_, by rw [rx.1], sz hz, vq_v trivial sb q⟩)
    · cases e
  · cases e
    obtain ⟨x, rfl, a, us, rfl, hq, rr⟩ := reps1 r
    refine .inr (.inr ⟨a, us, rfl, (sb _ _ hq).1, ?_⟩)
    rw [repK_length rr]
    exact vq_v trivial sb q
  · cases e
theorem call_lenRd : CallR X (.builtin "len") (fun xs H Q => ∃ d kvs, xs = [.ref d] ∧ Rd H d (.dK kvs) ∧ Q (.int (kvs.length : Nat)) H) := by
  intro pins s σ H xs us Q I r h
  obtain ⟨d, kvs, rfl, hd, q⟩ := h
  obtain ⟨u, rfl, ru⟩ := vals1 r
  cases (show u = Value.ref d from ru)
  exact d_len I hd fun t s' I' => ⟨.int (kvs.length : Nat), H, I', ⟨t, rfl⟩, q⟩
theorem ee_len (hg : Gl X "len") (hm : X.mg "len" = none) (ha : EA X cl W [a] ts) (he : starEach [a] X.env = (false, eval a X.env) :: starEach [] X.env := by rfl) : EE X cl W (.Call (.Name "len" p) [a] [] pos) (evN pLen ts) :=
  ee_callB (call_len_seq.or (call_len_str.or call_lenRd)) pr_lenS hg hm PySem.boot_len ha (by decide) (by decide) he rfl
theorem ee_list (hg : Gl X "list") (hm : X.mg "list" = none) (ha : EA X cl W [a] ts) (he : starEach [a] X.env = (false, eval a X.env) :: starEach [] X.env := by rfl) : EE X cl W (.Call (.Name "list" p) [a] [] pos) (evN pListOf ts) :=
  ee_callTy call_list_of pr_listOf hg hm (by decide +kernel) ha (by decide) (by decide) he rfl
theorem ee_tuple (hg : Gl X "tuple") (hm : X.mg "tuple" = none) (ha : EA X cl W [a] ts) (he : starEach [a] X.env = (false, eval a X.env) :: starEach [] X.env := by rfl) : EE X cl W (.Call (.Name "tuple" p) [a] [] pos) (evN pTupOf ts) :=
  ee_callTy call_tuple_of pr_tupOf hg hm (by decide +kernel) ha (by decide) (by decide) he rfl
theorem ee_toInt (hg : Gl X "int") (hm : X.mg "int" = none) (ha : EA X cl W [a] ts) (he : starEach [a] X.env = (false, eval a X.env) :: starEach [] X.env := by rfl) : EE X cl W (.Call (.Name "int" p) [a] [] pos) (evN pInt ts) :=
  ee_callTy call_int1 pr_int hg hm (by decide +kernel) ha (by decide) (by decide) he rfl
theorem ee_isi (hg : Gl X "isinstance") (hm : X.mg "isinstance" = none) (ha : EA X cl W [a, b] ts) (he : starEach [a, b] X.env = (false, eval a X.env) :: starEach [b] X.env := by rfl) (hpl : (backTo pos (starEach [b] X.env)).any (·.1) = false := by rfl) : EE X cl W (.Call (.Name "isinstance" p) [a, b] [] pos) (evN pIsi ts) :=
  ee_callB call_isi pr_isi hg hm (by decide +kernel) ha (by decide) (by decide) he hpl
theorem ee_max (hc : X.calm = true) (hg : Gl X "max") (hm : X.mg "max" = none) (ha : EA X cl W [a, b] ts) (he : starEach [a, b] X.env = (false, eval a X.env) :: starEach [b] X.env := by rfl) (hpl : (backTo pos (starEach [b] X.env)).any (·.1) = false := by rfl) : EE X cl W (.Call (.Name "max" p) [a, b] [] pos) (evN pMax ts) :=
  ee_callB (call_max2 hc) pr_max hg hm (by decide +kernel) ha (by decide) (by decide) he hpl
theorem ee_min (hc : X.calm = true) (hg : Gl X "min") (hm : X.mg "min" = none) (ha : EA X cl W [a, b] ts) (he : starEach [a, b] X.env = (false, eval a X.env) :: starEach [b] X.env := by rfl) (hpl : (backTo pos (starEach [b] X.env)).any (·.1) = false := by rfl) : EE X cl W (.Call (.Name "min" p) [a, b] [] pos) (evN pMin ts) :=
  ee_callB (call_min2 hc) pr_min hg hm (by decide +kernel) ha (by decide) (by decide) he hpl
theorem ee_neg (ha : EP' X cl W a ta) : EE X cl W (.UnaryOp .USub a pos) (ev1 pNeg ta) := ee_un un_neg pr_neg ha
theorem ee_op' {op : Operator} {f : List D → Option OD} (h : ∃ r, OpR X (binaryOp op) r ∧ PrimOk X.K cl f (R2L r)) (ha : EP' X cl W a ta) (hb : EP' X cl W b tb) : EE X cl W (.BinOp a op b pos) (ev2 f ta tb) :=
  let ⟨_, h1, h2⟩ := h; ee_op h1 h2 ha hb
theorem ee_cmp' {op : CmpOp} {f : List D → Option OD} (h : ∃ r, OpR X (compareOp op) r ∧ PrimOk X.K cl f (R2L r)) (ha : EP' X cl W a ta) (hb : EP' X cl W b tb) (hm : behindInMarks op b = false := by rfl) : EE X cl W (.Compare a [op] [b] pos) (ev2 f ta tb) :=
  let ⟨_, h1, h2⟩ := h; ee_cmp h1 h2 ha hb hm
/-! ### displays -/
@[simp] def evTup : List D → Option OD := fun ds => if decide (ds.length ≤ 16777216) = true then some (.fz (.tup ds)) else none
@[simp] def evLst : List D → Option OD := fun ds => if decide (ds.length ≤ 16777216) = true then some (.lst (fzs ds)) else none
theorem ee_tup {x1} (h : EA X cl W es ts) : EE X cl W (.Tuple es x1 pos) (evN evTup ts) :=
  ee_n (R := fun xs H1 Q => xs.length ≤ sizeLine ∧ ∀ p, H1 p = none → Q (.ref p) (upd H1 p (.tup xs))) (fun h => pe_tup h) (fun F H ds vs o Q sb r e q => by
    unfold evTup at e
    split at e
    · rename_i hz
      cases e
      exact ⟨by rw [reps_length r]; exact sz hz, vq_tup r sb q⟩
    · cases e) h
theorem ee_lst (h : EA X cl W es ts) : EE X cl W (.List es pos) (evN evLst ts) :=
  ee_n (R := fun xs H1 Q => xs.length ≤ sizeLine ∧ ∀ p, H1 p = none → Q (.ref p) (upd H1 p (.lst xs))) (fun h => pe_lst h) (fun F H ds vs o Q sb r e q => by
    unfold evLst at e
    split at e
    · rename_i hz
      cases e
      exact ⟨by rw [reps_length r]; exact sz hz, vq_lst r sb q⟩
    · cases e) h
@[simp] def evNewK : Rho → Res OV := fun ρ => .ok (.o (.dic [])) ρ
theorem ee_newK : EE X cl W (.Dict [] [] pos) evNewK := PE.imp pe_dnewK fun σ H Q ⟨F, ρ, A, s, q⟩ => fun p hp =>
  vq_own (K := X.K) (cl := cl) (o := .dic []) hp s.sub ⟨p, [], [], rfl, rfl, sb_none s.sub hp, upd_same, rfl, rfl⟩ fun v F' H' B r nd sb g => q v F' H' A B (s.new sb g) ⟨fun b o e _ => g.keep b o e id, g.ff, fun b e _ => g.new b e id, fun b z => z.elim .inl fun z => (g.ow b z).elim (fun z => z.elim) .inr⟩ r nd fun b hb ⟨i, hi⟩ => by
    have h1 := (s.at_ ⟨i, hi⟩).2
    rcases g.ow b hb with z | z
    · exact z
    · rw [z] at h1; exact h1
/-! ### slices -/
@[simp] def evPart : Option (Rho → Res Opd) → Rho → Res (Option Int)
  | none, ρ => .ok none ρ
  | some t, ρ => match t ρ with
    | .ok (.d (.v (.int i))) ρ1 => .ok (some i) ρ1
    | .err x ρ1 => .err x ρ1
    | _ => .bad
def LO (K : PySem.W.Frag) (cl : Nat → Addr) (W : WX) (t : Rho → Res (Option Int)) : TO := fun σ H Q => ∃ F ρ A, Sto K cl F H σ ρ A ∧ match t ρ with
  | .ok b ρ' => ∀ F' H' A', Sto K cl F' H' σ ρ' A' → Gr (ownd A) (ownd A') F H F' H' → Q b H'
  | .err x ρ' => ErrQ K cl W (ownd A) F H σ x ρ'
  | .bad => False
def EO (X : Cx) (cl : Nat → Addr) (W : WX) (e : Option Expr) (t : Rho → Res (Option Int)) : Prop := PO X e (LO X.K cl W t)
theorem PO.imp {e : Option Expr} {t t' : TO} (h : PO X e t) (i : ∀ σ H Q, t' σ H Q → t σ H Q) : PO X e t' := ⟨fun pins s σ H Q I q => h.run pins s σ H Q I (i _ _ _ q)⟩
theorem eo_none : EO X cl W none (evPart none) := PO.imp po_none fun σ H Q ⟨F, ρ, A, s, q⟩ => q F H A s Gr.refl
theorem eo_some (h : EP' X cl W a ta) : EO X cl W (some a) (evPart (some ta)) := PO.imp (po_some h) fun σ H Q ⟨F, ρ, A, s, q⟩ => ⟨F, ρ, A, s, by
  unfold evPart at q
  dsimp only at q
  cases e : ta ρ with
  | bad => rw [e] at q; exact q
  | err x ρ' => rw [e] at q; exact q
  | ok o ρ1 =>
    rw [e] at q
    intro v F1 H1 A1 s1 g1 p1
    split at q
    · rename_i b ρ2 e2
      split at e2
      · rename_i i ρ3 e3
        cases e3
        cases e2
        exact ⟨i, p1.1, q F1 H1 A1 s1 g1⟩
      · rename_i e3; cases e3
      · cases e2
    · rename_i e2
      split at e2
      · cases e2
      · rename_i e3; cases e3
      · cases e2
    · exact q.elim⟩
/-- the slice's step -/
@[simp] def evSl (f : Option Int → Option Int → List D → Option OD) (t : Rho → Res Opd) (lo hi : Rho → Res (Option Int)) : Rho → Res OV := fun ρ => (t ρ).bind fun x ρ1 => (lo ρ1).bind fun l ρ2 => (hi ρ2).bind fun u ρ3 => fin (f l u) [x] ρ3
@[simp] def fSl (lo hi : Option Int) : List D → Option OD
  | [.wls ds] => some (.lst (fzs ((ds.drop (HT.sIx ds.length 0 lo)).take (HT.sIx ds.length ds.length hi - HT.sIx ds.length 0 lo))))
  | [.lst ds] => some (.lst (fzs ((ds.drop (HT.sIx ds.length 0 lo)).take (HT.sIx ds.length ds.length hi - HT.sIx ds.length 0 lo))))
  | [.tup ds] => some (.fz (.tup ((ds.drop (HT.sIx ds.length 0 lo)).take (HT.sIx ds.length ds.length hi - HT.sIx ds.length 0 lo))))
  | [.wtp ds] => if (decide (HT.sIx ds.length 0 lo = 0) && decide (HT.sIx ds.length ds.length hi = ds.length)) = true then none else some (.fz (.tup ((ds.drop (HT.sIx ds.length 0 lo)).take (HT.sIx ds.length ds.length hi - HT.sIx ds.length 0 lo))))
  | [.v (.str z)] => if decide (z.length ≤ 16777216) = true then some (.fz (.v (.str (cutS z lo hi)))) else none
  | _ => none
theorem reps_drop {K : PySem.W.Frag} {F : Hp} : ∀ (n : Nat) {ds : List D} {vs : List V}, Reps K cl F ds vs → Reps K cl F (ds.drop n) (vs.drop n)
  | 0, _, _, h => h
  | n + 1, [], vs, h => by rw [show vs = [] from h]; rfl
  | n + 1, d :: ds, vs, ⟨u, us, e, _, q⟩ => by rw [e]; exact reps_drop n q
theorem reps_take {K : PySem.W.Frag} {F : Hp} : ∀ (n : Nat) {ds : List D} {vs : List V}, Reps K cl F ds vs → Reps K cl F (ds.take n) (vs.take n)
  | 0, _, _, h => rfl
  | n + 1, [], vs, h => by rw [show vs = [] from h]; rfl
  | n + 1, d :: ds, vs, ⟨u, us, e, r, q⟩ => by rw [e]; exact ⟨u, us.take n, rfl, r, reps_take n q⟩
theorem reps_cut {K : PySem.W.Frag} {F : Hp} {ds : List D} {vs : List V} {lo hi : Option Int} (h : Reps K cl F ds vs) : Reps K cl F ((ds.drop (HT.sIx ds.length 0 lo)).take (HT.sIx ds.length ds.length hi - HT.sIx ds.length 0 lo)) (cutV vs lo hi) := by
  unfold cutV
  rw [reps_length h]
  exact reps_take _ (reps_drop _ h)
abbrev rSl3 (K : PySem.W.Frag) : V → Option Int → Option Int → Hp → VK → Prop := fun x lo hi H Q => rSlL K x lo hi H Q ∨ rSlA K x lo hi H Q ∨ rSlS x lo hi H Q
theorem pr_sl {K : PySem.W.Frag} {lo hi : Option Int} : PrimOk K cl (fSl lo hi) (fun vs H Q => ∃ x, vs = [x] ∧ rSl3 K x lo hi H Q) := fun F H ds vs o Q sb r e q => by
  unfold fSl at e
  split at e
  · cases e
    obtain ⟨x, rfl, a, us, ex, hq, rr⟩ := reps1 r
    exact ⟨x, rfl, .inl ⟨a, us, ex, sb_sqL sb hq, vq_lst (reps_cut rr) sb q⟩⟩
  · cases e
    obtain ⟨x, rfl, a, us, ex, hq, rr⟩ := reps1 r
    exact ⟨x, rfl, .inl ⟨a, us, ex, sb_sqL sb (SqL.of hq), vq_lst (reps_cut rr) sb q⟩⟩
  · rename_i es
    cases e
    obtain ⟨x, rfl, a, us, ex, hq, rr⟩ := reps1 r
    refine ⟨x, rfl, .inr (.inl ⟨a, us, ex, sb_sqT sb (SqT.of hq), fun ⟨h1, h2⟩ => ?_, fun _ => vq_tup (reps_cut rr) sb q⟩)⟩
    rw [reps_length rr] at h1 h2
    rw [h1, h2, List.drop_zero, Nat.sub_zero, List.take_length] at q
    rw [← ex]
    exact vq_d (d := .tup es) ⟨a, us, ex, hq, rr⟩ sb q
  · rename_i es
    split at e
    · cases e
    · rename_i hn
      cases e
      obtain ⟨x, rfl, a, us, ex, hq, rr⟩ := reps1 r
      refine ⟨x, rfl, .inr (.inl ⟨a, us, ex, sb_sqT sb hq, fun ⟨h1, h2⟩ => ?_, fun _ => vq_tup (reps_cut rr) sb q⟩)⟩
      rw [reps_length rr] at h1 h2
      exact absurd (Bool.and_eq_true_iff.mpr ⟨decide_eq_true h1, decide_eq_true h2⟩) hn
  · split at e
    · rename_i hz
      cases e
      obtain ⟨x, rfl, rx⟩ := reps1 r
      exact ⟨x, rfl, .inr (.inr ⟨_, rx.1, sz hz, vq_v trivial sb q⟩)⟩
    · cases e
  · cases e
theorem ee_slice {lo hi : Option Expr} {p2 : Pos} {tl th : Rho → Res (Option Int)} (ha : EP' X cl W a ta) (hl : EO X cl W lo tl) (hh : EO X cl W hi th) : EE X cl W (.Subscript a (.Slice lo hi none p2) pos) (evSl fSl ta tl th) := by
  refine PE.imp (pe_slice (sl_list.or (sl_tupA.or sl_str)) ha hl hh) fun σ H Q ⟨F, ρ, A, s, q⟩ => ⟨F, ρ, A, s, ?_⟩
  unfold evSl at q
  cases e1 : ta ρ with
  | bad => rw [e1] at q; exact q
  | err x ρ' => rw [e1] at q; exact q
  | ok x ρ1 =>
    rw [e1] at q
    intro v F1 H1 A1 s1 g1 p1
    refine ⟨F1, ρ1, A1, s1, ?_⟩
    dsimp only [Res.bind] at q
    cases e2 : tl ρ1 with
    | bad => rw [e2] at q; exact q
    | err x ρ' => rw [e2] at q; exact ErrQ.pre q g1
    | ok l ρ2 =>
      rw [e2] at q
      intro F2 H2 A2 s2 g2
      refine ⟨F2, ρ2, A2, s2, ?_⟩
      dsimp only at q
      cases e3 : th ρ2 with
      | bad => rw [e3] at q; exact q
      | err x ρ' => rw [e3] at q; exact ErrQ.pre q (g1.trans g2)
      | ok u ρ3 =>
        rw [e3] at q
        intro F3 H3 A3 s3 g3
        obtain ⟨_, e, h⟩ := fin_end pr_sl s3 ((g1.trans g2).trans g3) (qs := [x]) (vs := [v]) ⟨v, _, rfl, p1.mono (g2.ff.trans g3.ff), rfl⟩ q
        cases e
        exact h
end
end DL
/-! DL11: what changes an own object. -/
namespace DL
open PySem L2
noncomputable section

section
variable {K : PySem.W.Frag} {cl : Nat → Addr} {F F' H H' : Hp} {σ : L2.St} {ρ : Rho} {A : Nat → List Addr}
theorem ne_mem {a p : Addr} {B : List Addr} (ha : a ∈ B) (n : p ∉ B) : a ≠ p := fun z => n (z ▸ ha)
theorem rho_set_self {i : Nat} (h : gt ρ i ≠ .gone) : ρ.set i (gt ρ i) = ρ := by
  have hi := gt_lt h
  apply List.ext_getElem?
  intro j
  by_cases e : j = i
  · subst e
    rw [List.getElem?_set_self hi]
    show some (ρ.getD j .gone) = ρ[j]?
    rw [List.getD_eq_getElem?_getD, List.getElem?_eq_getElem hi]
    rfl
  · rw [List.getElem?_set_ne (Ne.symm e)]
theorem sigma_set_self {i : Nat} {v : V} (h : σ[i]? = some (some v)) : σ.set i (some v) = σ := by
  apply List.ext_getElem?
  intro j
  by_cases e : j = i
  · subst e
    rw [List.getElem?_set_self (List.getElem?_eq_some_iff.mp h).1, h]
  · rw [List.getElem?_set_ne (Ne.symm e)]
/-- the object p of slot i is changed -/
theorem Sto.mut {i : Nat} {p : Addr} {B : List Addr} {ho : HO} {o' : OD} (s : Sto K cl F H σ ρ A) (hv : σ[i]? = some (some (.ref p))) (eA : A i = p :: B) (r : Own K cl F (upd H p ho) o' (.ref p) (p :: B)) :
    Sto K cl F (upd H p ho) σ (ρ.set i o') A ∧ Gr (ownd A) (ownd A) F H F (upd H p ho) := by
  have hp : ownd A p := ⟨i, by rw [eA]; exact List.mem_cons_self⟩
  have fp : F p = none := (s.at_ hp).1
  have hi : i < ρ.length := by rw [s.len]; exact (List.getElem?_eq_some_iff.mp hv).1
  refine ⟨⟨fun a x e => ?_, by rw [List.length_set]; exact s.len, fun j => ?_, s.dis, s.nd⟩, fun b o e n => ?_, Le.refl _, fun _ _ _ => rfl, fun b z => .inl z⟩
  · have ne : a ≠ p := ne_of_none e fp
    obtain ⟨h1, h2⟩ := s.sub a x e
    refine ⟨?_, fun q => by rw [upd_ne ne]; exact h2 q⟩
    rcases h1 with z | ⟨ob, z⟩
    · exact .inl (by rw [upd_ne ne]; exact z)
    · exact .inr ⟨ob, by rw [upd_ne ne]; exact z⟩
  · by_cases e : j = i
    · subst e
      rw [gt_set hi, eA]
      exact .mk hv r
    · rw [gt_ne e]
      refine (s.sl j).mono (Le.refl _) fun a ha => ⟨((s.sl j).at_ a ha).1, fun y hy => ?_⟩
      rw [upd_ne ?_]
      · exact hy
      · rintro rfl
        exact s.dis j i e a ha (by rw [eA]; exact List.mem_cons_self)
  · rw [upd_ne (fun z => n (by rw [z]; exact hp))]
    exact e
theorem owns_append {v : V} {d : D} : ∀ {os : List OD} {vs : List V} {B : List Addr}, Owns K cl F H os vs B → Rep K cl F d v → Owns K cl F H (os ++ [.fz d]) (vs ++ [v]) B
  | [], vs, B, ⟨e, eB⟩, r => by subst e eB; exact ⟨v, [], [], [], rfl, rfl, ⟨rfl, r⟩, rfl, rfl⟩
  | o :: os, vs, B, ⟨u, us, A1, A2, e, eB, h, q⟩, r => by subst e eB; exact ⟨u, us ++ [v], A1, A2, rfl, rfl, h, owns_append q r⟩
theorem owns_length : ∀ {os : List OD} {vs : List V} {B : List Addr}, Owns K cl F H os vs B → vs.length = os.length
  | [], vs, B, ⟨e, _⟩ => by rw [e]; rfl
  | o :: os, vs, B, ⟨u, us, A1, A2, e, _, _, q⟩ => by rw [e, List.length_cons, List.length_cons, owns_length q]
theorem owns_upd {p : Addr} {ho : HO} {os : List OD} {vs : List V} {B : List Addr} (h : Owns K cl F H os vs B) (n : p ∉ B) : Owns K cl F (upd H p ho) os vs B :=
  owns_mono (Le.refl _) os vs B (fun a ha => ⟨(owns_at os vs B h a ha).1, fun x hx => by rw [upd_ne (ne_mem ha n)]; exact hx⟩) h
theorem ownK_upd {p : Addr} {ho : HO} {os : List (Key × OD)} {vs : List (Key × V)} {B : List Addr} (h : OwnK K cl F H os vs B) (n : p ∉ B) : OwnK K cl F (upd H p ho) os vs B :=
  ownK_mono (Le.refl _) os vs B (fun a ha => ⟨(ownK_at os vs B h a ha).1, fun x hx => by rw [upd_ne (ne_mem ha n)]; exact hx⟩) h
theorem ownT_upd {p : Addr} {ho : HO} {os : List (List Key × OD)} {vs : List (List Key × V)} {B : List Addr} (h : OwnT K cl F H os vs B) (n : p ∉ B) : OwnT K cl F (upd H p ho) os vs B :=
  ownT_mono (Le.refl _) os vs B (fun a ha => ⟨(ownT_at os vs B h a ha).1, fun x hx => by rw [upd_ne (ne_mem ha n)]; exact hx⟩) h
theorem ownA_upd {p : Addr} {ho : HO} {os : List (Str × OD)} {vs : List (Str × V)} {B : List Addr} (h : OwnA K cl F H os vs B) (n : p ∉ B) : OwnA K cl F (upd H p ho) os vs B :=
  ownA_mono (Le.refl _) os vs B (fun a ha => ⟨(ownA_at os vs B h a ha).1, fun x hx => by rw [upd_ne (ne_mem ha n)]; exact hx⟩) h

/-- a change of one own object by a step: f gives what it is then, and the answer -/
def MutOk (K : PySem.W.Frag) (cl : Nat → Addr) (f : OD → List D → Option (OD × D)) (R : V → List V → Hp → VK → Prop) : Prop :=
  ∀ F H o p B ds vs o' d Q, Own K cl F H o (.ref p) (p :: B) → (p :: B).Nodup → Sb F H → Reps K cl F ds vs → f o ds = some (o', d) →
    (∀ ho v, Own K cl F (upd H p ho) o' (.ref p) (p :: B) → Rep K cl F d v → Q v (upd H p ho)) → R (.ref p) vs H Q

@[simp] def mAppend : OD → List D → Option (OD × D)
  | .lst os, [d] => if decide (os.length < 16777216) = true then some (.lst (os ++ [.fz d]), .v .non) else none
  | _, _ => none
theorem rep_non : Rep K cl F (.v .non) .non := ⟨rfl, trivial⟩
theorem mu_append : MutOk K cl mAppend rAppend := fun F H o p B ds vs o' d Q r nd sb rr e q => by
  match o, ds, e with
  | .lst os, [d'], e =>
    unfold mAppend at e
    dsimp only at e
    split at e
    · rename_i hz
      cases e
      obtain ⟨p', us, B', e1, e2, f, h, w⟩ := r
      cases e1
      cases e2
      obtain ⟨y, rfl, ry⟩ := reps1 rr
      refine ⟨p, us, y, rfl, rfl, h, by rw [owns_length w, sizeLine_eq]; exact of_decide_eq_true hz, q _ _ ⟨p, _, B, rfl, rfl, f, upd_same, ?_⟩ rep_non⟩
      exact owns_append (owns_upd w (List.nodup_cons.mp nd).1) ry
    · cases e
/-- only frozen data within -/
@[simp] def allFz : List OD → Option (List D)
  | [] => some []
  | .fz d :: os => match allFz os with
    | some ds => some (d :: ds)
    | none => none
  | _ :: _ => none
@[simp] theorem allFz_fzs : ∀ {ds : List D}, allFz (fzs ds) = some ds
  | [] => rfl
  | d :: ds => by rw [fzs_cons]; unfold allFz; rw [allFz_fzs]
theorem allFz_owns : ∀ {os : List OD} {ds : List D} {vs : List V} {B : List Addr}, allFz os = some ds → Owns K cl F H os vs B → Reps K cl F ds vs ∧ B = []
  | [], ds, vs, B, e, ⟨ev, eB⟩ => by cases e; exact ⟨ev, eB⟩
  | .fz d :: os, ds, vs, B, e, ⟨u, us, A1, A2, ev, eB, ⟨eA, r⟩, q⟩ => by
    unfold allFz at e
    cases e1 : allFz os with
    | none => rw [e1] at e; cases e
    | some ds' =>
      rw [e1] at e
      cases e
      obtain ⟨h1, h2⟩ := allFz_owns e1 q
      exact ⟨⟨u, us, ev, r, h1⟩, by rw [eB, eA, h2]; rfl⟩
  | .gone :: _, _, _, _, e, _ => by cases e
  | .tup _ :: _, _, _, _, e, _ => by cases e
  | .lst _ :: _, _, _, _, e, _ => by cases e
  | .dic _ :: _, _, _, _, e, _ => by cases e
  | .dct _ :: _, _, _, _, e, _ => by cases e
  | .ins _ _ :: _, _, _, _, e, _ => by cases e
/-- steps on lists of frozen items -/
@[simp] def mLst (g : List D → List D → Option (List D × D)) : OD → List D → Option (OD × D)
  | .lst os, ds => match allFz os with
    | none => none
    | some xs => match g xs ds with
      | some (ys, d) => some (.lst (fzs ys), d)
      | none => none
  | _, _ => none
theorem mLst_some {g : List D → List D → Option (List D × D)} {o o' : OD} {ds : List D} {d : D} (h : mLst g o ds = some (o', d)) : ∃ os xs ys, o = .lst os ∧ allFz os = some xs ∧ g xs ds = some (ys, d) ∧ o' = .lst (fzs ys) := by
  match o, h with
  | .lst os, h =>
    unfold mLst at h
    dsimp only at h
    cases e1 : allFz os with
    | none => rw [e1] at h; cases h
    | some xs =>
      rw [e1] at h
      dsimp only at h
      cases e2 : g xs ds with
      | none => rw [e2] at h; cases h
      | some z =>
        obtain ⟨ys, d'⟩ := z
        rw [e2] at h
        cases h
        exact ⟨os, xs, ys, rfl, e1, e2, rfl⟩
theorem mu_lst {g : List D → List D → Option (List D × D)} {R : V → List V → Hp → VK → Prop}
    (h : ∀ F H p xs us ds vs ys d Q, H p = some (.lst us) → Reps K cl F xs us → Reps K cl F ds vs → Sb F H → g xs ds = some (ys, d) → (∀ us' v, Reps K cl F ys us' → Rep K cl F d v → Q v (upd H p (.lst us'))) → R (.ref p) vs H Q) : MutOk K cl (mLst g) R := fun F H o p B ds vs o' d Q r nd sb rr e q => by
  obtain ⟨os, xs, ys, rfl, e1, e2, rfl⟩ := mLst_some e
  obtain ⟨p', us, B', ep, eB, f, hh, w⟩ := r
  cases ep
  cases eB
  obtain ⟨w1, rfl⟩ := allFz_owns e1 w
  exact h F H p xs us ds vs ys d Q hh w1 rr sb e2 fun us' v r1 r2 => q _ _ ⟨p, us', [], rfl, rfl, f, upd_same, owns_fz r1⟩ r2
@[simp] def gInsert : List D → List D → Option (List D × D)
  | xs, [.v (.int i), d] => if (decide (xs.length < 16777216) && decide (0 ≤ i) && inR i) = true then some (xs.take i.toNat ++ [d] ++ xs.drop i.toNat, .v .non) else none
  | _, _ => none
theorem mu_insert : MutOk K cl (mLst gInsert) (fun x vs H Q => ∃ (l : Addr) (xs : List V) (i : Int) (y : V), x = .ref l ∧ vs = [.int i, y] ∧ H l = some (.lst xs) ∧ xs.length < sizeLine ∧ 0 ≤ i ∧ i < 2 ^ 63 ∧
    Q .non (upd H l (.lst (xs.take i.toNat ++ [y] ++ xs.drop i.toNat)))) := mu_lst fun F H p xs us ds vs ys d Q hh w rr sb e q => by
  match ds, e with
  | [.v (.int i), d'], e =>
    unfold gInsert at e
    dsimp only at e
    split at e
    · rename_i hz
      cases e
      obtain ⟨h1, h3⟩ := Bool.and_eq_true_iff.mp hz
      obtain ⟨h1, h2⟩ := Bool.and_eq_true_iff.mp h1
      obtain ⟨x, y, rfl, rx, ry⟩ := reps2 rr
      exact ⟨p, us, i, y, rfl, by rw [rx.1], hh, by rw [reps_length w, sizeLine_eq]; exact of_decide_eq_true h1, of_decide_eq_true h2, Int.lt_trans (inR_iff.mp h3).2 (by decide),
        q _ _ (reps_append (reps_append (reps_take _ w) ⟨y, [], rfl, ry, rfl⟩) (reps_drop _ w)) rep_non⟩
    · cases e
theorem reps_set : ∀ {xs : List D} {us : List V} {j : Nat} {d : D} {v : V}, Reps K cl F xs us → Rep K cl F d v → Reps K cl F (xs.set j d) (us.set j v)
  | [], us, _, _, _, h, _ => by rw [show us = [] from h]; rfl
  | x :: xs, _, 0, d, v, ⟨u, us, e, _, q⟩, r => by rw [e]; exact ⟨v, us, rfl, r, q⟩
  | x :: xs, _, j + 1, d, v, ⟨u, us, e, h, q⟩, r => by rw [e]; exact ⟨u, us.set j v, rfl, h, reps_set q r⟩
theorem reps_erase : ∀ {xs : List D} {us : List V} {j : Nat}, Reps K cl F xs us → Reps K cl F (xs.eraseIdx j) (us.eraseIdx j)
  | [], us, _, h => by rw [show us = [] from h]; rfl
  | x :: xs, _, 0, ⟨u, us, e, _, q⟩ => by rw [e]; exact q
  | x :: xs, _, j + 1, ⟨u, us, e, h, q⟩ => by rw [e]; exact ⟨u, us.eraseIdx j, rfl, h, reps_erase q⟩
/-- xs[i] = d -/
@[simp] def gSetIx : List D → List D → Option (List D × D)
  | xs, [.v (.int i), d] => match ixN xs.length i with
    | some j => some (xs.set j d, .v .non)
    | none => none
  | _, _ => none
@[simp] def gPopAt : List D → List D → Option (List D × D)
  | xs, [.v (.int i)] => if (decide (0 ≤ i) && inR i) = true then (match xs[i.toNat]? with
    | some d => some (xs.eraseIdx i.toNat, d)
    | none => none) else none
  | xs, [] => match xs[xs.length - 1]? with
    | some d => some (xs.dropLast, d)
    | none => none
  | _, _ => none
@[simp] def gExtend : List D → List D → Option (List D × D)
  | xs, [.lst ys] => if decide (xs.length + ys.length ≤ 16777216) = true then some (xs ++ ys, .v .non) else none
  | _, _ => none
end

section
variable {X : Cx} {cl : Nat → Addr} {W : WX} {pn : List Nat} {e : Expr} {es : List Expr} {ts : Rho → Res (List Opd)} {ta tb : Rho → Res Opd} {pos p apos tpos : Pos}
@[simp] def allD : List Opd → Option (List D)
  | [] => some []
  | .d d :: qs => match allD qs with
    | some ds => some (d :: ds)
    | none => none
  | .b _ :: _ => none
theorem allD_reps {K : PySem.W.Frag} {F : Hp} {σ : L2.St} : ∀ {qs : List Opd} {ds : List D} {vs : List V}, allD qs = some ds → POks K cl F σ qs vs → Reps K cl F ds vs
  | [], ds, vs, e, h => by cases e; exact h
  | .d d :: qs, ds, vs, e, ⟨u, us, ev, p, h⟩ => by
    unfold allD at e
    cases e1 : allD qs with
    | none => rw [e1] at e; cases e
    | some ds' => rw [e1] at e; cases e; exact ⟨u, us, ev, p, allD_reps e1 h⟩
/-- a method that changes the own object of slot i; ok: what its object must be ahead of the arguments -/
@[simp] def evMut (i : Nat) (f : OD → List D → Option (OD × D)) (ts : Rho → Res (List Opd)) : Rho → Res OV := fun ρ => match gt ρ i with
  | .lst _ => (ts ρ).bind fun qs ρ1 => (match allD qs with
    | none => .bad
    | some ds => match f (gt ρ1 i) ds with
      | some (o', d) => .ok (.o (.fz d)) (ρ1.set i o')
      | none => .bad)
  | _ => .bad
theorem own_ref {K : PySem.W.Frag} {F H : Hp} {o : OD} {v : V} {B : List Addr} (r : Own K cl F H o v B) (h : ∃ os, o = .lst os) : ∃ p B', v = .ref p ∧ B = p :: B' := by
  obtain ⟨os, rfl⟩ := h
  obtain ⟨p, vs, B', e1, e2, _⟩ := r
  exact ⟨p, B', e1, e2⟩
/-- f only works on lists -/
def OnLst (f : OD → List D → Option (OD × D)) : Prop := ∀ o ds z, f o ds = some z → ∃ os, o = .lst os
theorem onL_append : OnLst mAppend := fun o ds z h => by
  unfold mAppend at h
  split at h
  · exact ⟨_, rfl⟩
  · cases h
theorem onL_lst {g : List D → List D → Option (List D × D)} : OnLst (mLst g) := fun o ds z h => by
  obtain ⟨o', d⟩ := z
  obtain ⟨os, _, _, e, _⟩ := mLst_some h
  exact ⟨os, e⟩
theorem ee_mut {p' : Expr} {i : Nat} {f : OD → List D → Option (OD × D)} {R : V → List V → Hp → VK → Prop} (hr : ∀ {to : TE} {ta : TA}, PE X e to → PA X es ta → PE X p' (tBM X.K "list" R to ta)) (he : PE X e (tVar i)) (mu : MutOk X.K cl f R) (hl : OnLst f) (ha : EA X cl W es ts) : EE X cl W p' (evMut i f ts) := by
  refine PE.imp (hr he ha) fun σ H Q ⟨F, ρ, A, s, q⟩ => ?_
  unfold evMut at q
  cases e0 : gt ρ i with
  | lst os =>
    rw [e0] at q
    obtain ⟨v, ev, r⟩ := (s.sl i).own (by rw [e0]; exact fun z => by cases z)
    rw [e0] at r
    obtain ⟨p, vs, B, e1, e2, f0, hh, w⟩ := r
    subst e1
    refine ⟨_, ev, .inl ⟨rfl, vs, .inl (.inl hh)⟩, F, ρ, A, s, ?_⟩
    dsimp only at q
    cases e3 : ts ρ with
    | bad => rw [e3] at q; exact q
    | err x ρ' => rw [e3] at q; exact q
    | ok qs ρ1 =>
      rw [e3] at q
      intro us F1 H1 A1 s1 g1 p1
      dsimp only [Res.bind] at q
      cases e4 : allD qs with
      | none => rw [e4] at q; exact q.elim
      | some ds =>
        rw [e4] at q
        dsimp only at q
        cases e5 : f (gt ρ1 i) ds with
        | none => rw [e5] at q; exact q.elim
        | some z =>
          obtain ⟨o', d⟩ := z
          rw [e5] at q
          obtain ⟨os1, e6⟩ := hl _ _ _ e5
          obtain ⟨v1, ev1, r1⟩ := (s1.sl i).own (by rw [e6]; exact fun z => by cases z)
          rw [ev] at ev1
          cases ev1
          have r1' := r1
          rw [e6] at r1'
          obtain ⟨p', vs1, B1, e7, e8, _⟩ := r1'
          cases e7
          refine mu F1 H1 (gt ρ1 i) p B1 ds us o' d Q (by rw [← e8]; exact r1) (by rw [← e8]; exact s1.nd i) s1.sub (allD_reps e4 p1) e5 fun ho v r2 r3 => ?_
          obtain ⟨s2, g2⟩ := s1.mut ev e8 r2
          exact q v F1 _ A1 [] s2 (gr1 (g1.trans g2)) ⟨rfl, r3⟩ List.nodup_nil fun b z => by cases z
  | gone => rw [e0] at q; exact q.elim
  | fz _ => rw [e0] at q; exact q.elim
  | tup _ => rw [e0] at q; exact q.elim
  | dic _ => rw [e0] at q; exact q.elim
  | dct _ => rw [e0] at q; exact q.elim
  | ins _ _ => rw [e0] at q; exact q.elim
theorem ee_append {i : Nat} {a : Expr} (he : PE X e (tVar i)) (ha : EA X cl W [a] ts)
    (hbase : attributeBase e "append" X.env (eval e X.env) = eval e X.env := by rfl) (hline : (apos.endLine == p.line) = true := by rfl) (hs : starEach [a] X.env = (false, eval a X.env) :: starEach [] X.env := by rfl) :
    EE X cl W (.Call (.Attribute e "append" apos) [a] [] p) (evMut i mAppend ts) :=
  ee_mut (fun h1 h2 => pe_bm PySem.F.plainAttrs_list PySem.F.slot_list_append PySem.F.type_list_append mt_append h1 h2 hbase (by rw [hs]; rfl) hline hs rfl) he mu_append onL_append ha
theorem ee_insert {i : Nat} {a b : Expr} (he : PE X e (tVar i)) (ha : EA X cl W [a, b] ts)
    (hbase : attributeBase e "insert" X.env (eval e X.env) = eval e X.env := by rfl) (hline : (apos.endLine == p.line) = true := by rfl) (hs : starEach [a, b] X.env = (false, eval a X.env) :: starEach [b] X.env := by rfl) (hs2 : starEach [b] X.env = (false, eval b X.env) :: starEach [] X.env := by rfl) :
    EE X cl W (.Call (.Attribute e "insert" apos) [a, b] [] p) (evMut i (mLst gInsert) ts) :=
  ee_mut (fun h1 h2 => pe_bm PySem.F.plainAttrs_list PySem.F.slot_list_insert PySem.F.type_list_insert mt_insert h1 h2 hbase (by rw [hs, hs2]; rfl) hline hs (by rw [hs2]; rfl)) he mu_insert onL_lst ha
/-- x[i] = e, x an own list in slot k -/
@[simp] def sSetIx (k : Nat) (te ti : Rho → Res Opd) : Rho → Res Fl := fun ρ => match te ρ with
  | .ok (.d d) ρ1 => (match gt ρ1 k with
    | .lst _ => (match ti ρ1 with
      | .ok (.d j) ρ2 => (match mLst gSetIx (gt ρ2 k) [j, d] with
        | some (o', _) => .ok .next (ρ2.set k o')
        | none => .bad)
      | .ok (.b _) _ => .bad
      | .err x ρ2 => .err x ρ2
      | .bad => .bad)
    | _ => .bad)
  | .ok (.b _) _ => .bad
  | .err x ρ1 => .err x ρ1
  | .bad => .bad
theorem mu_setIx {K : PySem.W.Frag} : MutOk K cl (mLst gSetIx) (fun o vs H Q => ∃ i v, vs = [i, v] ∧ rSetL o i v H fun H' => Q .non H') := mu_lst fun F H p xs us ds vs ys d Q hh w rr sb e q => by
  match ds, e with
  | [.v (.int i), d'], e =>
    unfold gSetIx at e
    dsimp only at e
    cases e1 : ixN xs.length i with
    | none => rw [e1] at e; cases e
    | some j =>
      rw [e1] at e
      cases e
      obtain ⟨x, y, rfl, rx, ry⟩ := reps2 rr
      exact ⟨x, y, rfl, p, us, i, j, rfl, rx.1, hh, by rw [reps_length w]; exact e1, q _ _ (reps_set w ry) rep_non⟩
theorem es_setIx {k : Nat} {o i v : Expr} (hg : ∀ {to ti : TE}, PE X o to → PE X i ti → PG X (.Subscript o i tpos) (gSub to ti rSetL)) (ho : PE X o (tVar k)) (hi : EP' X cl W i tb) (hv : EP' X cl W v ta) (hs : swapsWithSole [.Subscript o i tpos] v pos.line X.env = pure false := by rfl) (hw : swappedStores [.Subscript o i tpos] v X.env = pure none := by rfl)
    (h1 : (assignEach [.Subscript o i tpos] X.env).map (·.2) = [assign (.Subscript o i tpos) X.env] := by rfl) : ES X cl pn W (.Assign [.Subscript o i tpos] v pos) (sSetIx k ta tb) := by
  refine PS.imp (ps_asg hv (hg ho hi) hs hw h1) fun D σ H ⟨F, ρ, A, s, q⟩ => ⟨F, ρ, A, s, ?_⟩
  unfold sSetIx at q
  cases e1 : ta ρ with
  | bad => rw [e1] at q; exact q
  | err x ρ' => rw [e1] at q; exact fun F' H' A' c a s' g' => q σ F' H' A' c a s' g' fun _ _ => rfl
  | ok od ρ1 =>
    rw [e1] at q
    intro u F1 H1 A1 s1 g1 p1
    cases od with
    | b _ => exact q.elim
    | d d =>
      dsimp only at q
      cases e0 : gt ρ1 k with
      | lst os =>
        rw [e0] at q
        obtain ⟨v0, ev, r⟩ := (s1.sl k).own (by rw [e0]; exact fun z => by cases z)
        rw [e0] at r
        obtain ⟨p, vs, B, e2, e3, f0, hh, w⟩ := r
        subst e2
        refine ⟨_, ev, F1, ρ1, A1, s1, ?_⟩
        dsimp only at q
        cases e4 : tb ρ1 with
        | bad => rw [e4] at q; exact q
        | err x ρ' => rw [e4] at q; exact fun F' H' A' c a s' g' => q σ F' H' A' c a s' (g1.transE g') fun _ _ => rfl
        | ok oj ρ2 =>
          rw [e4] at q
          intro y F2 H2 A2 s2 g2 p2
          cases oj with
          | b _ => exact q.elim
          | d j =>
            dsimp only at q
            cases e5 : mLst gSetIx (gt ρ2 k) [j, d] with
            | none => rw [e5] at q; exact q.elim
            | some z =>
              obtain ⟨o', d'⟩ := z
              rw [e5] at q
              obtain ⟨os1, e6⟩ := onL_lst _ _ _ e5
              obtain ⟨v1, ev1, r1⟩ := (s2.sl k).own (by rw [e6]; exact fun z => by cases z)
              rw [ev] at ev1
              cases ev1
              have r1' := r1
              rw [e6] at r1'
              obtain ⟨p', vs1, B1, e7, e8, _⟩ := r1'
              cases e7
              obtain ⟨i', v', e9, h⟩ := mu_setIx F2 H2 (gt ρ2 k) p B1 [j, d] [y, u] o' d' (fun _ H' => D.nx σ H') (by rw [← e8]; exact r1) (by rw [← e8]; exact s2.nd k) s2.sub ⟨y, [u], rfl, p2, u, [], rfl, rep_mono g2.ff _ _ p1, rfl⟩ e5 fun ho v r2 r3 => by
                obtain ⟨s3, g3⟩ := s2.mut ev e8 r2
                exact q σ F2 _ A2 s3 ((g1.trans g2).trans g3) fun _ _ => rfl
              cases e9
              exact h
      | gone => rw [e0] at q; exact q.elim
      | fz _ => rw [e0] at q; exact q.elim
      | tup _ => rw [e0] at q; exact q.elim
      | dic _ => rw [e0] at q; exact q.elim
      | dct _ => rw [e0] at q; exact q.elim
      | ins _ _ => rw [e0] at q; exact q.elim
end
end
end DL
/-! DL12: defs and their calls. -/
namespace DL
open PySem L2

abbrev FS := Rho → Res OD
abbrev wE (E : XK) : WX := fun c a _ H => E c a H
@[simp] def FS.ov (S : FS) : Rho → Res OV := fun ρ => match S ρ with
  | .ok o ρ' => .ok (.o o) ρ'
  | .err x ρ' => .err x ρ'
  | .bad => .bad
/-- a def's promise by data -/
def spD (K : PySem.W.Frag) (cl : Nat → Addr) (S : FS) : Sp := fun vs H Q E => LE K cl (wE E) S.ov (vs.map some) H Q

/-- the arguments behind the call: what is not the callee's stays -/
@[simp] def outs : Rho → Rho → Option Rho
  | [], _ => some []
  | .fz d :: as, ρ => match outs as ρ.tail with
    | some os => some (.fz d :: os)
    | none => none
  | .gone :: _, _ => none
  | _ :: as, ρ => match ρ.head? with
    | some (.fz _) => none
    | some .gone => none
    | none => none
    | some o => match outs as ρ.tail with
      | some os => some (o :: os)
      | none => none
/-- the places of what is changed -/
@[simp] def ownIx : Nat → Rho → List Nat
  | _, [] => []
  | i, .fz _ :: as => ownIx (i + 1) as
  | i, _ :: as => i :: ownIx (i + 1) as
def fnS (pn : List Nat) (n m : Nat) (body : Rho → Res Fl) : FS := fun args =>
  if (args.length == n && (ownIx 0 args).all fun i => pn.contains i) = true then (match body (args ++ List.replicate (m - n) .gone) with
    | .ok .next ρ => (match outs args ρ with
      | some os => .ok (.fz (.v .non)) os
      | none => .bad)
    | .ok (.ret (.o o)) ρ => (match outs args ρ with
      | some os => .ok o os
      | none => .bad)
    | .ok (.ret (.b i)) ρ => (match gt ρ i with
      | .gone => .bad
      | o => (match outs args (ρ.set i .gone) with
        | some os => .ok o os
        | none => .bad))
    | .err x ρ => (match outs args ρ with
      | some os => .err x os
      | none => .bad)
    | _ => .bad) else .bad

section
variable {K : PySem.W.Frag} {cl : Nat → Addr} {F F' F1 H H' H1 : Hp} {σ σ' : L2.St} {ρ ρ' : Rho} {A A' : Nat → List Addr}
@[simp] def isFz : OD → Bool
  | .fz _ => true
  | _ => false
theorem outs_at : ∀ {as ρ os : Rho}, outs as ρ = some os → os.length = as.length ∧ ∀ i, i < as.length → (∃ d, gt as i = .fz d ∧ gt os i = .fz d) ∨ (isFz (gt as i) = false ∧ gt as i ≠ .gone ∧ gt os i = gt ρ i ∧ gt ρ i ≠ .gone ∧ isFz (gt ρ i) = false)
  | [], ρ, os, h => by cases h; exact ⟨rfl, fun i hi => by cases hi⟩
  | a :: as, ρ, os, h => by
    have tailgt : ∀ i, gt ρ.tail i = gt ρ (i + 1) := fun i => by
      cases ρ with
      | nil => rfl
      | cons r ρ => rfl
    have step : ∀ {o : OD} {os' : Rho}, outs as ρ.tail = some os' → os = o :: os' → ((∃ d, a = .fz d ∧ o = .fz d) ∨ (isFz a = false ∧ a ≠ .gone ∧ o = gt ρ 0 ∧ gt ρ 0 ≠ .gone ∧ isFz (gt ρ 0) = false)) →
        os.length = (a :: as).length ∧ ∀ i, i < (a :: as).length → (∃ d, gt (a :: as) i = .fz d ∧ gt os i = .fz d) ∨ (isFz (gt (a :: as) i) = false ∧ gt (a :: as) i ≠ .gone ∧ gt os i = gt ρ i ∧ gt ρ i ≠ .gone ∧ isFz (gt ρ i) = false) := fun {o os'} e1 e2 h0 => by
      obtain ⟨l, ih⟩ := outs_at e1
      subst e2
      refine ⟨by rw [List.length_cons, List.length_cons, l], fun i hi => ?_⟩
      cases i with
      | zero => exact h0
      | succ i =>
        have := ih i (by rw [List.length_cons] at hi; omega)
        rw [tailgt] at this
        exact this
    have ne : ∀ {o : OD}, ρ.head? = some o → gt ρ 0 = o := fun e => by
      cases ρ with
      | nil => cases e
      | cons r ρ => cases e; rfl
    cases a with
    | gone => cases h
    | fz d =>
      unfold outs at h
      cases e1 : outs as ρ.tail with
      | none => rw [e1] at h; cases h
      | some os' => rw [e1] at h; cases h; exact step e1 rfl (.inl ⟨d, rfl, rfl⟩)
    | tup d =>
      unfold outs at h
      cases e0 : ρ.head? with
      | none => rw [e0] at h; cases h
      | some o =>
        rw [e0] at h
        cases o with
        | gone => cases h
        | fz _ => cases h
        | _ =>
          dsimp only at h
          cases e1 : outs as ρ.tail with
          | none => rw [e1] at h; cases h
          | some os' => rw [e1] at h; cases h; exact step e1 rfl (.inr ⟨rfl, (fun z => by cases z), (ne e0).symm, by rw [ne e0]; exact fun z => (by cases z), by rw [ne e0]; rfl⟩)
    | lst d =>
      unfold outs at h
      cases e0 : ρ.head? with
      | none => rw [e0] at h; cases h
      | some o =>
        rw [e0] at h
        cases o with
        | gone => cases h
        | fz _ => cases h
        | _ =>
          dsimp only at h
          cases e1 : outs as ρ.tail with
          | none => rw [e1] at h; cases h
          | some os' => rw [e1] at h; cases h; exact step e1 rfl (.inr ⟨rfl, (fun z => by cases z), (ne e0).symm, by rw [ne e0]; exact fun z => (by cases z), by rw [ne e0]; rfl⟩)
    | dic d =>
      unfold outs at h
      cases e0 : ρ.head? with
      | none => rw [e0] at h; cases h
      | some o =>
        rw [e0] at h
        cases o with
        | gone => cases h
        | fz _ => cases h
        | _ =>
          dsimp only at h
          cases e1 : outs as ρ.tail with
          | none => rw [e1] at h; cases h
          | some os' => rw [e1] at h; cases h; exact step e1 rfl (.inr ⟨rfl, (fun z => by cases z), (ne e0).symm, by rw [ne e0]; exact fun z => (by cases z), by rw [ne e0]; rfl⟩)
    | dct d =>
      unfold outs at h
      cases e0 : ρ.head? with
      | none => rw [e0] at h; cases h
      | some o =>
        rw [e0] at h
        cases o with
        | gone => cases h
        | fz _ => cases h
        | _ =>
          dsimp only at h
          cases e1 : outs as ρ.tail with
          | none => rw [e1] at h; cases h
          | some os' => rw [e1] at h; cases h; exact step e1 rfl (.inr ⟨rfl, (fun z => by cases z), (ne e0).symm, by rw [ne e0]; exact fun z => (by cases z), by rw [ne e0]; rfl⟩)
    | ins c d =>
      unfold outs at h
      cases e0 : ρ.head? with
      | none => rw [e0] at h; cases h
      | some o =>
        rw [e0] at h
        cases o with
        | gone => cases h
        | fz _ => cases h
        | _ =>
          dsimp only at h
          cases e1 : outs as ρ.tail with
          | none => rw [e1] at h; cases h
          | some os' => rw [e1] at h; cases h; exact step e1 rfl (.inr ⟨rfl, (fun z => by cases z), (ne e0).symm, by rw [ne e0]; exact fun z => (by cases z), by rw [ne e0]; rfl⟩)
theorem ownIx_mem : ∀ {as : Rho} {k i : Nat}, i < as.length → isFz (gt as i) = false → (k + i) ∈ ownIx k as
  | a :: as, k, 0, _, h => by
    cases a with
    | fz _ => cases h
    | gone => exact List.mem_cons_self
    | tup _ => exact List.mem_cons_self
    | lst _ => exact List.mem_cons_self
    | dic _ => exact List.mem_cons_self
    | dct _ => exact List.mem_cons_self
    | ins _ _ => exact List.mem_cons_self
  | a :: as, k, i + 1, hi, h => by
    have ih := ownIx_mem (as := as) (k := k + 1) (i := i) (by rw [List.length_cons] at hi; omega) h
    have e : k + (i + 1) = k + 1 + i := by omega
    rw [e]
    cases a with
    | fz _ => exact ih
    | gone => exact List.mem_cons_of_mem _ ih
    | tup _ => exact List.mem_cons_of_mem _ ih
    | lst _ => exact List.mem_cons_of_mem _ ih
    | dic _ => exact List.mem_cons_of_mem _ ih
    | dct _ => exact List.mem_cons_of_mem _ ih
    | ins _ _ => exact List.mem_cons_of_mem _ ih
/-- the state at a body's start -/
theorem gt_app {as : Rho} {k i : Nat} : gt (as ++ List.replicate k .gone) i = gt as i := by
  show (as ++ List.replicate k OD.gone).getD i .gone = as.getD i .gone
  rw [List.getD_eq_getElem?_getD, List.getD_eq_getElem?_getD, List.getElem?_append]
  split
  · rfl
  · rename_i h
    rw [List.getElem?_eq_none (l := as) (by omega), List.getElem?_replicate]
    split <;> rfl
theorem sto_start {vs : List V} {as : Rho} {k : Nat} (s : Sto K cl F H (vs.map some) as A) : Sto K cl F H (vs.map some ++ List.replicate k none) (as ++ List.replicate k .gone) A := by
  refine ⟨s.sub, by simp [s.len], fun i => ?_, s.dis, s.nd⟩
  rw [gt_app]
  by_cases n : gt as i = .gone
  · rw [n]
    have := s.sl i
    rw [n] at this
    exact this
  · have hi := gt_lt n
    rw [List.getElem?_append_left (by rw [← s.len]; exact hi)]
    exact s.sl i
/-- behind the body: the arguments again -/
theorem sto_outs {vs : List V} {as os : Rho} (s : Sto K cl F H (vs.map some) as A) (s' : Sto K cl F' H' σ' ρ' A') (g : Le F F') (e : outs as ρ' = some os) (pin : ∀ i, i < as.length → isFz (gt as i) = false → σ'[i]? = (vs.map some)[i]?) :
    Sto K cl F' H' (vs.map some) os (fun i => if i < as.length ∧ isFz (gt as i) = false then A' i else []) ∧ (∀ b, ownd (fun i => if i < as.length ∧ isFz (gt as i) = false then A' i else []) b → ownd A' b) := by
  obtain ⟨l, h⟩ := outs_at e
  refine ⟨⟨s'.sub, by rw [l]; exact s.len, fun i => ?_, fun i j n b hi hj => ?_, fun i => ?_⟩, fun b ⟨i, hi⟩ => ?_⟩
  · by_cases hi : i < as.length
    · rcases h i hi with ⟨d, h1, h2⟩ | ⟨h1, h2, h3, h4, h5⟩
      · rw [h2, h1, if_neg (fun z => by cases z.2)]
        have := s.sl i
        rw [h1] at this
        obtain ⟨v, ev, _, r⟩ := this
        exact ⟨v, ev, rfl, rep_mono g _ _ r⟩
      · rw [if_pos ⟨hi, h1⟩, h3, ← pin i hi h1]
        exact s'.sl i
    · rw [if_neg (fun z => hi z.1)]
      have : gt os i = .gone := by
        show os.getD i .gone = .gone
        rw [List.getD_eq_getElem?_getD, List.getElem?_eq_none (by omega)]
        rfl
      rw [this]
      rfl
  · try dsimp only at hi hj
    split at hi
    · split at hj
      · exact s'.dis i j n b hi hj
      · cases hj
    · cases hi
  · try dsimp only
    split
    · exact s'.nd i
    · exact List.nodup_nil
  · try dsimp only at hi
    split at hi
    · exact ⟨i, hi⟩
    · cases hi
end

section
variable {P : Program} {w : World} {K : PySem.W.Frag} {mg : Str → Option Value} {base : Heap} {cl : Nat → Addr}
theorem spD_len {pn : List Nat} {n m : Nat} {body : Rho → Res Fl} (vs : List V) (H : Hp) (Q : VK) (E : XK) (h : spD K cl (fnS pn n m body) vs H Q E) : vs.length = n := by
  obtain ⟨F, ρ, A, s, q⟩ := h
  by_cases e : ρ.length = n
  · have := s.len
    rw [List.length_map] at this
    omega
  · exfalso
    unfold FS.ov fnS at q
    rw [if_neg (fun z => e (beq_iff_eq.mp (Bool.and_eq_true_iff.mp z).1))] at q
    exact q
theorem fn_ok {x qual : Str} {st : Stmt} {f : Addr} {fd : FuncData} {N ps : List Str} {k n m : Nat} {pn : List Nat} {body : Rho → Res Fl} (Fn : Fun K x qual st f fd) (S : FnScope N ps (defScope st)) (hn : ps.length = n) (hm : N.length = m)
    (hb : ∀ (cdv : Value) (A : Around) (outer : List Env) (s : Shared) (H : Hp) (E : XK), Room k (A.deeper (PyProof.Rows.envOfC qual (defScope st) s.heap.objs.size f cdv)) → ESs (cxOf (L2.CX P w) P w K mg base N qual (defScope st) f cdv A outer s H E) cl pn (wE E) (defBody st) body) :
    FnOk P w K mg base (L2.CX P w) (k + 1) f fd ps (spD K cl (fnS pn n m body)) := by
  refine Fn.okX S (fun vs H Q E h => (spD_len vs H Q E h).trans hn.symm) fun cdv Ar outer s H vs Q E hr h => ?_
  have hl := spD_len vs H Q E h
  refine ⟨_, hb cdv Ar outer s H E hr, ?_⟩
  obtain ⟨F, as, A, s0, q⟩ := h
  unfold FS.ov fnS at q
  by_cases hc : (as.length == n && (ownIx 0 as).all fun i => pn.contains i) = true
  · rw [if_pos hc] at q
    obtain ⟨hc1, hc2⟩ := Bool.and_eq_true_iff.mp hc
    have hal : as.length = n := beq_iff_eq.mp hc1
    have es : L2.start N vs = vs.map some ++ List.replicate (m - n) none := by
      unfold L2.start
      rw [hm, hl]
    rw [es]
    refine ⟨F, as ++ List.replicate (m - n) OD.gone, A, sto_start s0, ?_⟩
    have pin : ∀ {σ' : L2.St}, (∀ i ∈ pn, σ'[i]? = (vs.map some ++ List.replicate (m - n) none)[i]?) → ∀ i, i < as.length → isFz (gt as i) = false → σ'[i]? = (vs.map some)[i]? := fun {σ'} p i hi hf => by
      have : (0 + i) ∈ ownIx 0 as := ownIx_mem hi hf
      rw [Nat.zero_add] at this
      have hpn : i ∈ pn := by simpa using List.all_eq_true.mp hc2 i this
      rw [p i hpn, List.getElem?_append_left (by rw [List.length_map, hl]; omega)]
    cases e : body (as ++ List.replicate (m - n) .gone) with
    | bad => rw [e] at q; exact q
    | err x ρ' =>
      rw [e] at q
      intro σ' F' H' A' c a s' g' p' ex
      dsimp only at q
      cases e2 : outs as ρ' with
      | none => rw [e2] at q; exact q.elim
      | some os =>
        rw [e2] at q
        obtain ⟨s2, w2⟩ := sto_outs s0 s' g'.ff e2 (pin p')
        exact q F' H' _ c a s2 (g'.sub w2) ex
    | ok fl ρ' =>
      rw [e] at q
      cases fl with
      | next =>
        intro σ' F' H' A' s' g' p'
        dsimp only at q
        cases e2 : outs as ρ' with
        | none => rw [e2] at q; exact q.elim
        | some os =>
          rw [e2] at q
          obtain ⟨s2, w2⟩ := sto_outs s0 s' g'.ff e2 (pin p')
          exact q .non F' H' _ [] s2 (gr1 (g'.sub w2)) ⟨rfl, rfl, trivial⟩ List.nodup_nil fun b z => by cases z
      | brk => exact q.elim
      | cont => exact q.elim
      | ret ov =>
        intro v σ' F' H' A' B s' g' p' r nd dj
        cases ov with
        | o o =>
          dsimp only at q
          cases e2 : outs as ρ' with
          | none => rw [e2] at q; exact q.elim
          | some os =>
            rw [e2] at q
            obtain ⟨s2, w2⟩ := sto_outs s0 s' g'.ff e2 (pin p')
            exact q v F' H' _ B s2 (g'.sub fun b z => z.elim (fun z => .inl (w2 b z)) .inr) r nd fun b hb z => dj b hb (w2 b z)
        | b i =>
          obtain ⟨rfl, hv⟩ := r
          dsimp only at q
          have n1 : gt ρ' i ≠ .gone := fun z => by
            rw [z] at q
            exact q
          have q' : match outs as (ρ'.set i .gone) with
            | some os => ∀ v F' H' A' B, Sto K cl F' H' (vs.map some) os A' → Gr (ownd A) (fun b => ownd A' b ∨ b ∈ B) F H F' H' → Own K cl F' H' (gt ρ' i) v B → B.Nodup → (∀ b ∈ B, ¬ ownd A' b) → Q v H'
            | none => False := by
            cases e2 : outs as (ρ'.set i .gone) with
            | none =>
              rw [e2] at q
              cases z : gt ρ' i with
              | gone => exact n1 z
              | _ => rw [z] at q; exact q
            | some os =>
              rw [e2] at q
              cases z : gt ρ' i with
              | gone => exact absurd z n1
              | _ => rw [z] at q; exact q
          cases e2 : outs as (ρ'.set i .gone) with
          | none => rw [e2] at q'; exact q'.elim
          | some os =>
            rw [e2] at q'
            obtain ⟨v', ev, r⟩ := (s'.sl i).own n1
            rw [hv] at ev
            cases ev
            have s1 := s'.drop (i := i) (x := some v)
            rw [sigma_set_self hv] at s1
            obtain ⟨s2, w2⟩ := sto_outs s0 s1 g'.ff e2 (pin p')
            have w3 : ∀ b, ownd (fun j => if j = i then [] else A' j) b → ownd A' b := fun b ⟨j, hj⟩ => by
              dsimp only at hj
              split at hj
              · cases hj
              · exact ⟨j, hj⟩
            refine q' v F' H' _ (A' i) s2 ((gr0 g').sub fun b z => z.elim (fun z => w3 b (w2 b z)) fun z => ⟨i, z⟩) r (s'.nd i) fun b hb z => ?_
            obtain ⟨j, hj⟩ := w2 b z
            dsimp only at hj
            split at hj
            · cases hj
            · rename_i hji
              exact s'.dis j i hji b hj hb
  · rw [if_neg hc] at q
    exact q.elim
end
end DL
/-! DL13: a call of a def by its data. -/
namespace DL
open PySem L2

/-- the callee's arguments; true: a parameter that is changed -/
@[simp] def argO (ρ : Rho) : Opd → Bool → Option OD
  | .d d, false => some (.fz d)
  | .b i, false => match gt ρ i with
    | .gone => none
    | o => some (.fz o.toD)
  | .b i, true => match gt ρ i with
    | .gone => none
    | .fz _ => none
    | o => some o
  | .d _, true => none
@[simp] def argsO (ρ : Rho) : List Opd → List Bool → Option Rho
  | [], [] => some []
  | q :: qs, m :: ms => match argO ρ q m with
    | none => none
    | some o => match argsO ρ qs ms with
      | none => none
      | some os => some (o :: os)
  | _, _ => none
@[simp] def bIx : List Opd → List Nat
  | [] => []
  | .d _ :: qs => bIx qs
  | .b i :: qs => i :: bIx qs
/-- at which place slot i is handed over -/
@[simp] def atPl (i : Nat) : List Opd → List Bool → Nat → Option Nat
  | .b j :: qs, true :: ms, k => if j = i then some k else atPl i qs ms (k + 1)
  | _ :: qs, _ :: ms, k => atPl i qs ms (k + 1)
  | _, _, _ => none
@[simp] def wbk (qs : List Opd) (ms : List Bool) (os : Rho) : Nat → Rho → Rho
  | _, [] => []
  | i, o :: ρ => (match atPl i qs ms 0 with
    | some k => gt os k
    | none => o) :: wbk qs ms os (i + 1) ρ
@[simp] def isBr (i : Nat) : List Opd → List Bool → Bool
  | .b j :: qs, false :: ms => j == i || isBr i qs ms
  | _ :: qs, _ :: ms => isBr i qs ms
  | _, _ => false
/-- where an exception flies: what was borrowed is frozen -/
@[simp] def wbkE (qs : List Opd) (ms : List Bool) (os : Rho) : Nat → Rho → Rho
  | _, [] => []
  | i, o :: ρ => (match atPl i qs ms 0 with
    | some k => gt os k
    | none => if isBr i qs ms = true then .fz o.toD else o) :: wbkE qs ms os (i + 1) ρ
@[simp] def noBrw : List Opd → List Bool → Bool
  | .b _ :: _, false :: _ => false
  | _ :: qs, _ :: ms => noBrw qs ms
  | _, _ => true
@[simp] def nodupB : List Nat → Bool
  | [] => true
  | i :: is => !is.contains i && nodupB is
/-- what is handed over is plain behind the call -/
@[simp] def oimmM : Rho → List Bool → Bool
  | o :: os, true :: ms => o.imm && oimmM os ms
  | _ :: os, false :: ms => oimmM os ms
  | _, _ => true
theorem oimmM_at : ∀ {os : Rho} {ms : List Bool} {k : Nat}, oimmM os ms = true → ms[k]? = some true → (gt os k).imm = true
  | [], _, _, _, _ => rfl
  | _ :: _, [], _, _, h => by simp at h
  | o :: os, true :: ms, 0, h, _ => (Bool.and_eq_true_iff.mp h).1
  | o :: os, false :: ms, 0, _, h => by simp at h
  | o :: os, true :: ms, k + 1, h, e => oimmM_at (os := os) (k := k) (Bool.and_eq_true_iff.mp h).2 (by simpa using e)
  | o :: os, false :: ms, k + 1, h, e => oimmM_at (os := os) (k := k) h (by simpa using e)
@[simp] def callR (S : FS) (ms : List Bool) (qs : List Opd) (ρ : Rho) : Res OV :=
  if nodupB (bIx qs) = true then (match argsO ρ qs ms with
    | none => .bad
    | some as => match S as with
      | .ok o os => if (noBrw qs ms || (o.imm && oimmM os ms)) = true then .ok (.o o) (wbk qs ms os 0 ρ) else .bad
      | .err x os => .err x (wbkE qs ms os 0 ρ)
      | .bad => .bad) else .bad
@[simp] def evCall (S : FS) (ms : List Bool) (ts : Rho → Res (List Opd)) : Rho → Res OV := fun ρ => (ts ρ).bind fun qs ρ1 => callR S ms qs ρ1

section
variable {K : PySem.W.Frag} {cl : Nat → Addr} {F F' F1 H H' H1 : Hp} {σ σ' : L2.St} {ρ ρ' : Rho} {A A' : Nat → List Addr}
theorem nodupB_ok : ∀ {is : List Nat}, nodupB is = true → is.Nodup
  | [], _ => List.nodup_nil
  | i :: is, h => by
    obtain ⟨h1, h2⟩ := Bool.and_eq_true_iff.mp h
    refine List.nodup_cons.mpr ⟨fun z => ?_, nodupB_ok h2⟩
    simp at h1
    exact h1 z
theorem bIx_mem : ∀ {qs : List Opd} {j i : Nat}, qs[j]? = some (.b i) → i ∈ bIx qs
  | .d _ :: qs, 0, i, h => by simp at h
  | .b _ :: qs, 0, i, h => by simp at h; rw [h]; exact List.mem_cons_self
  | .d _ :: qs, j + 1, i, h => bIx_mem (qs := qs) (j := j) (by simpa using h)
  | .b _ :: qs, j + 1, i, h => List.mem_cons_of_mem _ (bIx_mem (qs := qs) (j := j) (by simpa using h))
theorem bIx_inj : ∀ {qs : List Opd} {j k i : Nat}, (bIx qs).Nodup → qs[j]? = some (.b i) → qs[k]? = some (.b i) → j = k
  | [], j, k, i, _, h, _ => by simp at h
  | q :: qs, 0, 0, i, _, _, _ => rfl
  | q :: qs, 0, k + 1, i, nd, h1, h2 => by
    simp at h1 h2
    subst h1
    exact absurd (bIx_mem h2) (List.nodup_cons.mp nd).1
  | q :: qs, j + 1, 0, i, nd, h1, h2 => by
    simp at h1 h2
    subst h2
    exact absurd (bIx_mem h1) (List.nodup_cons.mp nd).1
  | q :: qs, j + 1, k + 1, i, nd, h1, h2 => by
    have : (bIx qs).Nodup := by
      cases q with
      | d _ => exact nd
      | b _ => exact (List.nodup_cons.mp nd).2
    exact congrArg (· + 1) (bIx_inj (qs := qs) (j := j) (k := k) (i := i) this (by simpa using h1) (by simpa using h2))
theorem atPl_some : ∀ {qs : List Opd} {ms : List Bool} {i k p : Nat}, atPl i qs ms k = some p → ∃ j, p = k + j ∧ qs[j]? = some (.b i) ∧ ms[j]? = some true
  | .b j :: qs, true :: ms, i, k, p, h => by
    unfold atPl at h
    split at h
    · rename_i e
      cases h
      exact ⟨0, rfl, by rw [e]; rfl, rfl⟩
    · obtain ⟨j', e, h1, h2⟩ := atPl_some h
      exact ⟨j' + 1, by omega, by simpa using h1, by simpa using h2⟩
  | .b j :: qs, false :: ms, i, k, p, h => by
    obtain ⟨j', e, h1, h2⟩ := atPl_some (qs := qs) (ms := ms) (k := k + 1) h
    exact ⟨j' + 1, by omega, by simpa using h1, by simpa using h2⟩
  | .d j :: qs, m :: ms, i, k, p, h => by
    obtain ⟨j', e, h1, h2⟩ := atPl_some (qs := qs) (ms := ms) (i := i) (k := k + 1) (by cases m <;> exact h)
    exact ⟨j' + 1, by omega, by simpa using h1, by simpa using h2⟩
theorem atPl_none : ∀ {qs : List Opd} {ms : List Bool} {i k j : Nat}, atPl i qs ms k = none → qs[j]? = some (.b i) → ms[j]? = some true → False
  | [], _, _, _, _, _, h, _ => by simp at h
  | _ :: _, [], _, _, _, _, _, h => by simp at h
  | .b j' :: qs, true :: ms, i, k, 0, h, h1, h2 => by
    unfold atPl at h
    simp at h1
    rw [if_pos h1] at h
    cases h
  | .b j' :: qs, true :: ms, i, k, j + 1, h, h1, h2 => by
    unfold atPl at h
    split at h
    · cases h
    · exact atPl_none (j := j) h (by simpa using h1) (by simpa using h2)
  | .b j' :: qs, false :: ms, i, k, 0, h, h1, h2 => by simp at h2
  | .b j' :: qs, false :: ms, i, k, j + 1, h, h1, h2 => atPl_none (qs := qs) (ms := ms) (k := k + 1) (j := j) h (by simpa using h1) (by simpa using h2)
  | .d _ :: qs, m :: ms, i, k, 0, h, h1, h2 => by simp at h1
  | .d _ :: qs, m :: ms, i, k, j + 1, h, h1, h2 => atPl_none (qs := qs) (ms := ms) (i := i) (k := k + 1) (j := j) (by cases m <;> exact h) (by simpa using h1) (by simpa using h2)
theorem wbk_len {qs : List Opd} {ms : List Bool} {os : Rho} : ∀ {ρ : Rho} {i : Nat}, (wbk qs ms os i ρ).length = ρ.length
  | [], _ => rfl
  | _ :: ρ, i => by show (wbk qs ms os (i + 1) ρ).length + 1 = _; rw [wbk_len]; rfl
theorem wbk_gt {qs : List Opd} {ms : List Bool} {os : Rho} : ∀ {ρ : Rho} {i j : Nat}, j < ρ.length → gt (wbk qs ms os i ρ) j = match atPl (i + j) qs ms 0 with
    | some k => gt os k
    | none => gt ρ j
  | o :: ρ, i, 0, _ => rfl
  | o :: ρ, i, j + 1, h => by
    have := wbk_gt (qs := qs) (ms := ms) (os := os) (ρ := ρ) (i := i + 1) (j := j) (by rw [List.length_cons] at h; omega)
    have e : i + (j + 1) = i + 1 + j := by omega
    rw [e]
    exact this
theorem argsO_at : ∀ {qs : List Opd} {ms : List Bool} {as : Rho}, argsO ρ qs ms = some as → as.length = qs.length ∧ ms.length = qs.length ∧ ∀ (j : Nat) (q : Opd) (m : Bool), qs[j]? = some q → ms[j]? = some m → argO ρ q m = some (gt as j)
  | [], [], as, h => by cases h; exact ⟨rfl, rfl, fun j q m h => by simp at h⟩
  | [], _ :: _, as, h => by cases h
  | _ :: _, [], as, h => by cases h
  | q :: qs, m :: ms, as, h => by
    unfold argsO at h
    cases e1 : argO ρ q m with
    | none => rw [e1] at h; cases h
    | some o =>
      rw [e1] at h
      dsimp only at h
      cases e2 : argsO ρ qs ms with
      | none => rw [e2] at h; cases h
      | some os =>
        rw [e2] at h
        cases h
        obtain ⟨l1, l2, ih⟩ := argsO_at e2
        refine ⟨by rw [List.length_cons, List.length_cons, l1], by rw [List.length_cons, List.length_cons, l2], fun j q' m' h1 h2 => ?_⟩
        cases j with
        | zero =>
          simp at h1 h2
          subst h1 h2
          exact e1
        | succ j => exact ih j q' m' (by simpa using h1) (by simpa using h2)
theorem poks_at : ∀ {qs : List Opd} {vs : List V}, POks K cl F σ qs vs → vs.length = qs.length ∧ ∀ (j : Nat) (q : Opd), qs[j]? = some q → ∃ v, vs[j]? = some v ∧ POk K cl F σ q v
  | [], vs, h => by rw [show vs = [] from h]; exact ⟨rfl, fun j q h => by simp at h⟩
  | q :: qs, vs, ⟨u, us, e, p, h⟩ => by
    obtain ⟨l, ih⟩ := poks_at h
    subst e
    refine ⟨by rw [List.length_cons, List.length_cons, l], fun j q' h1 => ?_⟩
    cases j with
    | zero => simp at h1; subst h1; exact ⟨u, rfl, p⟩
    | succ j =>
      obtain ⟨v, h2, h3⟩ := ih j q' (by simpa using h1)
      exact ⟨v, by simpa using h2, h3⟩
/-- the callee's own objects, the borrowed ones -/
def calA (A : Nat → List Addr) (qs : List Opd) (ms : List Bool) : Nat → List Addr := fun j => match qs[j]?, ms[j]? with
  | some (.b i), some true => A i
  | _, _ => []
def brwL (A : Nat → List Addr) : List Opd → List Bool → List Addr
  | .b i :: qs, false :: ms => A i ++ brwL A qs ms
  | _ :: qs, _ :: ms => brwL A qs ms
  | _, _ => []
theorem brwL_mem : ∀ {qs : List Opd} {ms : List Bool} {b : Addr}, b ∈ brwL A qs ms → ∃ (j i : Nat), qs[j]? = some (Opd.b i) ∧ ms[j]? = some false ∧ b ∈ A i
  | .b i :: qs, false :: ms, b, h => by
    rcases List.mem_append.mp h with z | z
    · exact ⟨0, i, rfl, rfl, z⟩
    · obtain ⟨j, i', h1, h2, h3⟩ := brwL_mem (qs := qs) (ms := ms) z
      exact ⟨j + 1, i', by simpa using h1, by simpa using h2, h3⟩
  | .b i :: qs, true :: ms, b, h => by
    obtain ⟨j, i', h1, h2, h3⟩ := brwL_mem (qs := qs) (ms := ms) h
    exact ⟨j + 1, i', by simpa using h1, by simpa using h2, h3⟩
  | .d _ :: qs, m :: ms, b, h => by
    obtain ⟨j, i', h1, h2, h3⟩ := brwL_mem (qs := qs) (ms := ms) (by cases m <;> exact h)
    exact ⟨j + 1, i', by simpa using h1, by simpa using h2, h3⟩
theorem brwL_in : ∀ {qs : List Opd} {ms : List Bool} {j i : Nat} {b : Addr}, qs[j]? = some (.b i) → ms[j]? = some false → b ∈ A i → b ∈ brwL A qs ms
  | [], _, _, _, _, h, _, _ => by simp at h
  | _ :: _, [], _, _, _, _, h, _ => by simp at h
  | q :: qs, m :: ms, 0, i, b, h1, h2, h3 => by
    simp at h1 h2
    subst h1 h2
    exact List.mem_append_left _ h3
  | q :: qs, m :: ms, j + 1, i, b, h1, h2, h3 => by
    have ih := brwL_in (qs := qs) (ms := ms) (j := j) (i := i) (b := b) (by simpa using h1) (by simpa using h2) h3
    cases q with
    | d _ => cases m <;> exact ih
    | b _ =>
      cases m with
      | true => exact ih
      | false => exact List.mem_append_right _ ih
theorem brwL_nil : ∀ {qs : List Opd} {ms : List Bool}, noBrw qs ms = true → brwL A qs ms = []
  | [], _, _ => by cases ‹List Bool› <;> rfl
  | .d _ :: qs, [], _ => rfl
  | .b _ :: qs, [], _ => rfl
  | .d _ :: qs, m :: ms, h => brwL_nil (qs := qs) (ms := ms) (by cases m <;> exact h)
  | .b _ :: qs, true :: ms, h => brwL_nil (qs := qs) (ms := ms) h
  | .b _ :: qs, false :: ms, h => by cases h
theorem calA_own {qs : List Opd} {ms : List Bool} {b : Addr} (h : ownd (calA A qs ms) b) : ∃ (j i : Nat), qs[j]? = some (Opd.b i) ∧ ms[j]? = some true ∧ b ∈ A i := by
  obtain ⟨j, hj⟩ := h
  unfold calA at hj
  split at hj
  · rename_i i h1 h2
    exact ⟨j, i, h1, h2, hj⟩
  · cases hj
theorem calA_eq {qs : List Opd} {ms : List Bool} {j i : Nat} (h1 : qs[j]? = some (.b i)) (h2 : ms[j]? = some true) : calA A qs ms j = A i := by
  unfold calA
  rw [h1, h2]
theorem calA_nil {qs : List Opd} {ms : List Bool} {j : Nat} (h : ∀ i, qs[j]? = some (.b i) → ms[j]? = some true → False) : calA A qs ms j = [] := by
  unfold calA
  split
  · rename_i i h1 h2
    exact (h i h1 h2).elim
  · rfl

/-- the callee's state -/
theorem call_in {qs : List Opd} {ms : List Bool} {as : Rho} {vs : List V} (s : Sto K cl F H σ ρ A) (p : POks K cl F σ qs vs) (nd : (bIx qs).Nodup) (e : argsO ρ qs ms = some as) :
    Sto K cl (plus F H (brwL A qs ms)) H (vs.map some) as (calA A qs ms) := by
  obtain ⟨l1, l2, ha⟩ := argsO_at e
  obtain ⟨l3, hp⟩ := poks_at p
  have hL : ∀ a ∈ brwL A qs ms, F a = none ∧ Wr (H a) := fun a h => let ⟨j, i, _, _, h3⟩ := brwL_mem h; s.at_ ⟨i, h3⟩
  have le := plus_le (H := H) fun a h => (hL a h).1
  refine ⟨fun a x q => ?_, by rw [l1, List.length_map, l3], fun j => ?_, fun j k n b hj hk => ?_, fun j => ?_⟩
  · by_cases z : a ∈ brwL A qs ms
    · rw [plus_in z] at q
      exact ⟨.inl q, fun _ => q⟩
    · rw [plus_out z] at q; exact s.sub a x q
  · cases eq : qs[j]? with
    | none =>
      have hj : qs.length ≤ j := List.getElem?_eq_none_iff.mp eq
      have g0 : gt as j = .gone := by
        show as.getD j .gone = .gone
        rw [List.getD_eq_getElem?_getD, List.getElem?_eq_none (by omega)]
        rfl
      rw [g0, calA_nil fun i h => by rw [eq] at h; cases h]
      rfl
    | some q =>
      have hj : j < qs.length := (List.getElem?_eq_some_iff.mp eq).1
      have em : ms[j]? = some ms[j] := List.getElem?_eq_getElem (by omega)
      have hq := ha j q ms[j] eq em
      obtain ⟨v, hv, pv⟩ := hp j q eq
      have hv' : (vs.map some)[j]? = some (some v) := by rw [List.getElem?_map, hv]; rfl
      cases q with
      | d d =>
        rw [calA_nil fun i h => by rw [eq] at h; cases h]
        cases em2 : ms[j] with
        | true => rw [em2] at hq; cases hq
        | false =>
          rw [em2] at hq
          have := Option.some.inj hq
          rw [← this]
          exact ⟨v, hv', rfl, rep_mono le _ _ pv⟩
      | b i =>
        have n0 : gt ρ i ≠ .gone := fun z => by
          cases em2 : ms[j] <;> (rw [em2] at hq; unfold argO at hq; dsimp only at hq; rw [z] at hq; cases hq)
        obtain ⟨v', ev, r⟩ := (s.sl i).own n0
        rw [show σ[i]? = some (some v) from pv] at ev
        cases ev
        cases em2 : ms[j] with
        | true =>
          rw [em2] at hq em
          have eo : gt as j = gt ρ i := by
            unfold argO at hq
            dsimp only at hq
            cases z : gt ρ i with
            | gone => exact absurd z n0
            | fz _ => rw [z] at hq; cases hq
            | _ => rw [z] at hq; exact (Option.some.inj hq).symm
          rw [calA_eq eq em, eo]
          refine .mk hv' (own_mono le _ _ _ (fun a ha' => ⟨?_, fun _ h => h⟩) r)
          rw [plus_out fun z => ?_]
          · exact (own_at _ _ _ r a ha').1
          · obtain ⟨j', i', h1, h2, h3⟩ := brwL_mem z
            by_cases ei : i' = i
            · subst ei
              have := bIx_inj nd h1 eq
              subst this
              rw [em] at h2
              cases h2
            · exact s.dis i' i ei a h3 ha'
        | false =>
          rw [em2] at hq em
          have eo : gt as j = .fz (gt ρ i).toD := by
            unfold argO at hq
            dsimp only at hq
            cases z : gt ρ i with
            | gone => exact absurd z n0
            | _ => rw [z] at hq; exact (Option.some.inj hq).symm
          rw [calA_nil (fun i' _ h => (by rw [em] at h; cases h)), eo]
          exact ⟨v, hv', rfl, own_rep le _ _ _ (fun a ha' => brwL_in eq em ha') r⟩
  · unfold calA at hj hk
    split at hj
    · rename_i i h1 h2
      split at hk
      · rename_i i' h3 h4
        by_cases ei : i = i'
        · subst ei
          exact n (bIx_inj nd h1 h3)
        · exact s.dis i i' ei b hj hk
      · cases hk
    · cases hj
  · unfold calA
    split
    · exact s.nd _
    · exact List.nodup_nil
/-- behind the call: the caller's state -/
theorem call_out {qs : List Opd} {ms : List Bool} {as os : Rho} {vs : List V} {P' : Addr → Prop} (s : Sto K cl F H σ ρ A) (p : POks K cl F σ qs vs) (nd : (bIx qs).Nodup) (e : argsO ρ qs ms = some as)
    (s' : Sto K cl F' H' (vs.map some) os A') (g : Gr (ownd (calA A qs ms)) P' (plus F H (brwL A qs ms)) H F' H') (hP : ∀ b, ownd A' b → P' b) (im : (noBrw qs ms || oimmM os ms) = true) :
    Sto K cl (less F' (brwL A qs ms)) H' σ (wbk qs ms os 0 ρ) (fun i => match atPl i qs ms 0 with
      | some k => A' k
      | none => A i) ∧ Le F (less F' (brwL A qs ms)) ∧ (∀ b, Wr (H b) → ¬ ownd A b → less F' (brwL A qs ms) b = F b) ∧ (∀ a ∈ brwL A qs ms, Wr (F' a)) := by
  obtain ⟨l1, l2, ha⟩ := argsO_at e
  obtain ⟨l3, hp⟩ := poks_at p
  have hL : ∀ a ∈ brwL A qs ms, F a = none ∧ Wr (H a) := fun a h => let ⟨j, i, _, _, h3⟩ := brwL_mem h; s.at_ ⟨i, h3⟩
  have le := plus_le (H := H) fun a h => (hL a h).1
  have calSub : ∀ b, ownd (calA A qs ms) b → ownd A b := fun b h => let ⟨j, i, _, _, h3⟩ := calA_own h; ⟨i, h3⟩
  have calBrw : ∀ b, b ∈ brwL A qs ms → ¬ ownd (calA A qs ms) b := fun b h z => by
    obtain ⟨j, i, h1, h2, h3⟩ := brwL_mem h
    obtain ⟨j', i', h4, h5, h6⟩ := calA_own z
    by_cases ei : i = i'
    · subst ei
      have := bIx_inj nd h1 h4
      subst this
      rw [h2] at h5
      cases h5
    · exact s.dis i i' ei b h3 h6
  have hWr : ∀ a ∈ brwL A qs ms, Wr (F' a) := fun a h => by
    rw [g.new a (hL a h).2 (calBrw a h), plus_in h]
    exact (hL a h).2
  have le2 : Le F (less F' (brwL A qs ms)) := fun a x q => by
    rw [less_out fun z => by rw [(hL a z).1] at q; cases q]
    exact g.ff a x (le a x q)
  -- a slot that is not handed over: its objects stay
  have stay : ∀ i, atPl i qs ms 0 = none → ∀ b ∈ A i, less F' (brwL A qs ms) b = none ∧ ∀ y, H b = some y → H' b = some y := fun i hi b hb => by
    have n1 : ¬ ownd (calA A qs ms) b := fun z => by
      obtain ⟨j, i', h1, h2, h3⟩ := calA_own z
      by_cases ei : i = i'
      · subst ei
        exact atPl_none hi h1 h2
      · exact s.dis i i' ei b hb h3
    refine ⟨?_, fun y hy => g.keep b y hy n1⟩
    by_cases z : b ∈ brwL A qs ms
    · exact less_in z
    · rw [less_out z, g.new b (s.at_ ⟨i, hb⟩).2 n1, plus_out z]
      exact (s.at_ ⟨i, hb⟩).1
  have fresh : ∀ k b, b ∈ A' k → (∃ (j i : Nat), qs[j]? = some (Opd.b i) ∧ ms[j]? = some true ∧ b ∈ A i) ∨ H b = none := fun k b hb =>
    (g.ow b (hP b ⟨k, hb⟩)).elim (fun z => .inl (calA_own z)) .inr
  refine ⟨⟨fun a x q => ?_, by rw [wbk_len]; exact s.len, fun i => ?_, fun i j n b hi hj => ?_, fun i => ?_⟩, le2, fun b w n => ?_, hWr⟩
  · by_cases z : a ∈ brwL A qs ms
    · rw [less_in z] at q; cases q
    · rw [less_out z] at q; exact s'.sub a x q
  · by_cases hi : i < ρ.length
    · rw [wbk_gt hi, Nat.zero_add]
      cases ep : atPl i qs ms 0 with
      | some k =>
        obtain ⟨j, e1, h1, h2⟩ := atPl_some ep
        rw [Nat.zero_add] at e1
        subst e1
        dsimp only
        obtain ⟨v, hv, pv⟩ := hp k _ h1
        have sk := s'.sl k
        rw [List.getElem?_map, hv] at sk
        rw [show σ[i]? = some (some v) from pv]
        by_cases ng : gt os k = .gone
        · rw [ng] at sk ⊢
          exact sk
        · obtain ⟨v', ev, r⟩ := sk.own ng
          cases ev
          refine .mk rfl ?_
          rcases Bool.or_eq_true_iff.mp im with z | z
          · rw [brwL_nil (A := A) z]
            have : less F' [] = F' := by funext b; exact less_out (by simp)
            rw [this]
            exact r
          · refine oimm_less hWr _ _ _ ?_ r
            exact oimmM_at z h2
      | none => exact (s.sl i).mono le2 (stay i ep)
    · have g0 : gt (wbk qs ms os 0 ρ) i = .gone := by
        show (wbk qs ms os 0 ρ).getD i .gone = .gone
        rw [List.getD_eq_getElem?_getD, List.getElem?_eq_none (by rw [wbk_len]; omega)]
        rfl
      rw [g0]
      cases ep : atPl i qs ms 0 with
      | some k =>
        exfalso
        obtain ⟨j, e1, h1, h2⟩ := atPl_some ep
        obtain ⟨v, hv, pv⟩ := hp j _ h1
        have := (List.getElem?_eq_some_iff.mp (show σ[i]? = some (some v) from pv)).1
        rw [← s.len] at this
        exact hi this
      | none =>
        have := s.sl i
        have g1 : gt ρ i = .gone := by
          show ρ.getD i .gone = .gone
          rw [List.getD_eq_getElem?_getD, List.getElem?_eq_none (by omega)]
          rfl
        rw [g1] at this
        exact this
  · try dsimp only at hi hj
    cases ei : atPl i qs ms 0 with
    | some k =>
      rw [ei] at hi
      cases ej : atPl j qs ms 0 with
      | some k' =>
        rw [ej] at hj
        refine s'.dis k k' (fun z => n ?_) b hi hj
        obtain ⟨j1, e1, h1, _⟩ := atPl_some ei
        obtain ⟨j2, e2, h2, _⟩ := atPl_some ej
        have : j1 = j2 := by omega
        subst this
        rw [h1] at h2
        cases h2
        rfl
      | none =>
        rw [ej] at hj
        rcases fresh k b hi with ⟨j', i', h1, h2, h3⟩ | z
        · by_cases ei' : i' = j
          · subst ei'
            exact atPl_none ej h1 h2
          · exact s.dis i' j ei' b h3 hj
        · have := (s.at_ ⟨j, hj⟩).2
          rw [z] at this
          exact this
    | none =>
      rw [ei] at hi
      cases ej : atPl j qs ms 0 with
      | some k' =>
        rw [ej] at hj
        rcases fresh k' b hj with ⟨j', i', h1, h2, h3⟩ | z
        · by_cases ei' : i' = i
          · subst ei'
            exact atPl_none ei h1 h2
          · exact s.dis i' i ei' b h3 hi
        · have := (s.at_ ⟨i, hi⟩).2
          rw [z] at this
          exact this
      | none =>
        rw [ej] at hj
        exact s.dis i j n b hi hj
  · try dsimp only
    split
    · exact s'.nd _
    · exact s.nd _
  · have n1 : b ∉ brwL A qs ms := fun z => by
      obtain ⟨j, i, _, _, h3⟩ := brwL_mem z
      exact n ⟨i, h3⟩
    rw [less_out n1, g.new b w (fun z => n (calSub b z)), plus_out n1]
theorem isBr_some : ∀ {qs : List Opd} {ms : List Bool} {i : Nat}, isBr i qs ms = true → ∃ j : Nat, qs[j]? = some (.b i) ∧ ms[j]? = some false
  | [], _, _, h => by unfold isBr at h; cases h
  | _ :: _, [], _, h => by unfold isBr at h; split at h <;> simp_all
  | .b j :: qs, false :: ms, i, h => by
    unfold isBr at h
    rcases Bool.or_eq_true_iff.mp h with z | z
    · exact ⟨0, by rw [beq_iff_eq.mp z]; rfl, rfl⟩
    · obtain ⟨j', h1, h2⟩ := isBr_some z
      exact ⟨j' + 1, by simpa using h1, by simpa using h2⟩
  | .b j :: qs, true :: ms, i, h => by
    obtain ⟨j', h1, h2⟩ := isBr_some (qs := qs) (ms := ms) h
    exact ⟨j' + 1, by simpa using h1, by simpa using h2⟩
  | .d j :: qs, m :: ms, i, h => by
    obtain ⟨j', h1, h2⟩ := isBr_some (qs := qs) (ms := ms) (by cases m <;> exact h)
    exact ⟨j' + 1, by simpa using h1, by simpa using h2⟩
theorem isBr_none : ∀ {qs : List Opd} {ms : List Bool} {i j : Nat}, isBr i qs ms = false → qs[j]? = some (.b i) → ms[j]? = some false → False
  | [], _, _, _, _, h, _ => by simp at h
  | _ :: _, [], _, _, _, _, h => by simp at h
  | .b j' :: qs, false :: ms, i, 0, h, h1, h2 => by
    unfold isBr at h
    simp at h1
    simp [h1] at h
  | .b j' :: qs, false :: ms, i, j + 1, h, h1, h2 => by
    unfold isBr at h
    exact isBr_none (j := j) (Bool.or_eq_false_iff.mp h).2 (by simpa using h1) (by simpa using h2)
  | .b j' :: qs, true :: ms, i, 0, h, h1, h2 => by simp at h2
  | .b j' :: qs, true :: ms, i, j + 1, h, h1, h2 => isBr_none (qs := qs) (ms := ms) (j := j) h (by simpa using h1) (by simpa using h2)
  | .d _ :: qs, m :: ms, i, 0, h, h1, h2 => by simp at h1
  | .d _ :: qs, m :: ms, i, j + 1, h, h1, h2 => isBr_none (qs := qs) (ms := ms) (i := i) (j := j) (by cases m <;> exact h) (by simpa using h1) (by simpa using h2)
theorem wbkE_len {qs : List Opd} {ms : List Bool} {os : Rho} : ∀ {ρ : Rho} {i : Nat}, (wbkE qs ms os i ρ).length = ρ.length
  | [], _ => rfl
  | _ :: ρ, i => by show (wbkE qs ms os (i + 1) ρ).length + 1 = _; rw [wbkE_len]; rfl
theorem wbkE_gt {qs : List Opd} {ms : List Bool} {os : Rho} : ∀ {ρ : Rho} {i j : Nat}, j < ρ.length → gt (wbkE qs ms os i ρ) j = match atPl (i + j) qs ms 0 with
    | some k => gt os k
    | none => if isBr (i + j) qs ms = true then .fz (gt ρ j).toD else gt ρ j
  | o :: ρ, i, 0, _ => rfl
  | o :: ρ, i, j + 1, h => by
    have := wbkE_gt (qs := qs) (ms := ms) (os := os) (ρ := ρ) (i := i + 1) (j := j) (by rw [List.length_cons] at h; omega)
    have e : i + (j + 1) = i + 1 + j := by omega
    rw [e]
    exact this
theorem call_outE {qs : List Opd} {ms : List Bool} {as os : Rho} {vs : List V} {P' : Addr → Prop} (s : Sto K cl F H σ ρ A) (p : POks K cl F σ qs vs) (nd : (bIx qs).Nodup) (e : argsO ρ qs ms = some as)
    (s' : Sto K cl F' H' (vs.map some) os A') (g : GrE (ownd (calA A qs ms)) P' (plus F H (brwL A qs ms)) H F' H') (hP : ∀ b, ownd A' b → P' b) :
    ∃ A2, Sto K cl F' H' σ (wbkE qs ms os 0 ρ) A2 ∧ GrE (ownd A) (ownd A2) F H F' H' := by
  obtain ⟨l1, l2, ha⟩ := argsO_at e
  obtain ⟨l3, hp⟩ := poks_at p
  have hL : ∀ a ∈ brwL A qs ms, F a = none ∧ Wr (H a) := fun a h => let ⟨j, i, _, _, h3⟩ := brwL_mem h; s.at_ ⟨i, h3⟩
  have le := plus_le (H := H) fun a h => (hL a h).1
  have calSub : ∀ b, ownd (calA A qs ms) b → ownd A b := fun b h => let ⟨j, i, _, _, h3⟩ := calA_own h; ⟨i, h3⟩
  have le2 : Le F F' := le.trans g.ff
  have inB : ∀ b, b ∈ brwL A qs ms → ownd A b := fun b h => let ⟨j, i, _, _, h3⟩ := brwL_mem h; ⟨i, h3⟩
  have stay : ∀ i, atPl i qs ms 0 = none → isBr i qs ms = false → ∀ b ∈ A i, F' b = none ∧ ∀ y, H b = some y → H' b = some y := fun i hi hb0 b hb => by
    have n1 : ¬ ownd (calA A qs ms) b := fun z => by
      obtain ⟨j, i', h1, h2, h3⟩ := calA_own z
      by_cases ei : i = i'
      · subst ei
        exact atPl_none hi h1 h2
      · exact s.dis i i' ei b hb h3
    have n2 : b ∉ brwL A qs ms := fun z => by
      obtain ⟨j, i', h1, h2, h3⟩ := brwL_mem z
      by_cases ei : i = i'
      · subst ei
        exact isBr_none hb0 h1 h2
      · exact s.dis i i' ei b hb h3
    have f0 : plus F H (brwL A qs ms) b = none := by rw [plus_out n2]; exact (s.at_ ⟨i, hb⟩).1
    refine ⟨(g.new b (s.at_ ⟨i, hb⟩).2 n1).trans f0, fun y hy => ?_⟩
    rcases g.keep b y hy n1 with z | ⟨z, _⟩
    · exact z
    · rw [f0] at z; cases z
  have fresh : ∀ k b, b ∈ A' k → (∃ (j i : Nat), qs[j]? = some (Opd.b i) ∧ ms[j]? = some true ∧ b ∈ A i) ∨ H b = none := fun k b hb =>
    (g.ow b (hP b ⟨k, hb⟩)).elim (fun z => .inl (calA_own z)) .inr
  refine ⟨fun i => match atPl i qs ms 0 with
      | some k => A' k
      | none => if isBr i qs ms = true then [] else A i, ⟨s'.sub, by rw [wbkE_len]; exact s.len, fun i => ?_, fun i j n b hi hj => ?_, fun i => ?_⟩, ⟨fun b o h n => ?_, le2, fun b w n => ?_, fun b ⟨i, hi⟩ => ?_⟩⟩
  · by_cases hi : i < ρ.length
    · rw [wbkE_gt hi, Nat.zero_add]
      cases ep : atPl i qs ms 0 with
      | some k =>
        obtain ⟨j, e1, h1, h2⟩ := atPl_some ep
        rw [Nat.zero_add] at e1
        subst e1
        dsimp only
        obtain ⟨v, hv, pv⟩ := hp k _ h1
        have sk := s'.sl k
        rw [List.getElem?_map, hv] at sk
        rw [show σ[i]? = some (some v) from pv]
        exact sk
      | none =>
        dsimp only
        cases eb : isBr i qs ms with
        | true =>
          rw [if_pos rfl, if_pos rfl]
          obtain ⟨j, h1, h2⟩ := isBr_some eb
          obtain ⟨v, hv, pv⟩ := hp j _ h1
          have hq := ha j _ _ h1 h2
          have n0 : gt ρ i ≠ .gone := fun z => by
            unfold argO at hq
            dsimp only at hq
            rw [z] at hq
            cases hq
          obtain ⟨v', ev, r⟩ := (s.sl i).own n0
          rw [show σ[i]? = some (some v) from pv] at ev
          cases ev
          exact ⟨v, pv, rfl, rep_mono g.ff _ _ (own_rep le _ _ _ (fun a ha' => brwL_in h1 h2 ha') r)⟩
        | false =>
          rw [if_neg (by decide), if_neg (by decide)]
          exact (s.sl i).mono le2 (stay i ep eb)
    · have g0 : gt (wbkE qs ms os 0 ρ) i = .gone := by
        show (wbkE qs ms os 0 ρ).getD i .gone = .gone
        rw [List.getD_eq_getElem?_getD, List.getElem?_eq_none (by rw [wbkE_len]; omega)]
        rfl
      rw [g0]
      have notin : ∀ {j : Nat}, qs[j]? = some (Opd.b i) → False := fun {j} h1 => by
        obtain ⟨v, hv, pv⟩ := hp j _ h1
        have := (List.getElem?_eq_some_iff.mp (show σ[i]? = some (some v) from pv)).1
        rw [← s.len] at this
        exact hi this
      cases ep : atPl i qs ms 0 with
      | some k =>
        obtain ⟨j, _, h1, _⟩ := atPl_some ep
        exact (notin h1).elim
      | none =>
        dsimp only
        cases eb : isBr i qs ms with
        | true => rw [if_pos rfl]; rfl
        | false =>
          rw [if_neg (by decide)]
          have := s.sl i
          have g1 : gt ρ i = .gone := by
            show ρ.getD i .gone = .gone
            rw [List.getD_eq_getElem?_getD, List.getElem?_eq_none (by omega)]
            rfl
          rw [g1] at this
          exact this
  · try dsimp only at hi hj
    cases ei : atPl i qs ms 0 with
    | some k =>
      rw [ei] at hi
      cases ej : atPl j qs ms 0 with
      | some k' =>
        rw [ej] at hj
        refine s'.dis k k' (fun z => n ?_) b hi hj
        obtain ⟨j1, e1, h1, _⟩ := atPl_some ei
        obtain ⟨j2, e2, h2, _⟩ := atPl_some ej
        have : j1 = j2 := by omega
        subst this
        rw [h1] at h2
        cases h2
        rfl
      | none =>
        rw [ej] at hj
        dsimp only at hj
        split at hj
        · cases hj
        · rcases fresh k b hi with ⟨j', i', h1, h2, h3⟩ | z
          · by_cases ei' : i' = j
            · subst ei'
              exact atPl_none ej h1 h2
            · exact s.dis i' j ei' b h3 hj
          · have := (s.at_ ⟨j, hj⟩).2
            rw [z] at this
            exact this
    | none =>
      rw [ei] at hi
      dsimp only at hi
      split at hi
      · cases hi
      · cases ej : atPl j qs ms 0 with
        | some k' =>
          rw [ej] at hj
          rcases fresh k' b hj with ⟨j', i', h1, h2, h3⟩ | z
          · by_cases ei' : i' = i
            · subst ei'
              exact atPl_none ei h1 h2
            · exact s.dis i' i ei' b h3 hi
          · have := (s.at_ ⟨i, hi⟩).2
            rw [z] at this
            exact this
        | none =>
          rw [ej] at hj
          dsimp only at hj
          split at hj
          · cases hj
          · exact s.dis i j n b hi hj
  · try dsimp only
    split
    · exact s'.nd _
    · split
      · exact List.nodup_nil
      · exact s.nd _
  · have n1 : b ∉ brwL A qs ms := fun z => n (inB b z)
    rcases g.keep b o h fun z => n (calSub b z) with z | ⟨z, i, x⟩
    · exact .inl z
    · rw [plus_out n1] at z
      exact .inr ⟨z, i, x⟩
  · rw [g.new b w (fun z => n (calSub b z)), plus_out fun z => n (inB b z)]
  · try dsimp only at hi
    split at hi
    · exact (g.ow b (hP b ⟨_, hi⟩)).elim (fun z => .inl (calSub b z)) .inr
    · split at hi
      · cases hi
      · exact .inl ⟨i, hi⟩
end
end DL
/-! DL14: f(e, ..). -/
namespace DL
open PySem L2
section
variable {X : Cx} {cl : Nat → Addr} {E : XK} {e : Expr} {es : List Expr} {ts : Rho → Res (List Opd)} {pos p : Pos}
/-- a promise by data is kept at a call -/
theorem call_sp {S : FS} {ms : List Bool} {qs : List Opd} {K : PySem.W.Frag} {F F1 H H1 : Hp} {σ : L2.St} {ρ1 : Rho} {A A1 : Nat → List Addr} {vs : List V} {Q : VK}
    (s1 : Sto K cl F1 H1 σ ρ1 A1) (g1 : Gr (ownd A) (ownd A1) F H F1 H1) (p1 : POks K cl F1 σ qs vs)
    (q : match callR S ms qs ρ1 with
      | .ok ov ρ' => ∀ v F' H' A' B, Sto K cl F' H' σ ρ' A' → Gr (ownd A) (fun b => ownd A' b ∨ b ∈ B) F H F' H' → VOk K cl F' H' σ ov v B → B.Nodup → (∀ b ∈ B, ¬ ownd A' b) → Q v H'
      | .err x ρ' => ErrQ K cl (wE E) (ownd A) F H σ x ρ'
      | .bad => False) : spD K cl S vs H1 Q E := by
  unfold callR at q
  by_cases hn : nodupB (bIx qs) = true
  · rw [if_pos hn] at q
    have nd := nodupB_ok hn
    cases ea : argsO ρ1 qs ms with
    | none => rw [ea] at q; exact q.elim
    | some as =>
      rw [ea] at q
      dsimp only at q
      refine ⟨_, as, _, call_in s1 p1 nd ea, ?_⟩
      unfold FS.ov
      have calSub : ∀ b, ownd (calA A1 qs ms) b → ownd A1 b := fun b h => let ⟨j, i, _, _, h3⟩ := calA_own h; ⟨i, h3⟩
      -- the objects behind the call
      have owOut : ∀ {A' : Nat → List Addr} (b : Addr), ownd (fun i => match atPl i qs ms 0 with
          | some k => A' k
          | none => A1 i) b → ownd A' b ∨ ownd A1 b := fun {A'} b ⟨i, hi⟩ => by
        dsimp only at hi
        split at hi
        · exact .inl ⟨_, hi⟩
        · exact .inr ⟨i, hi⟩
      cases es : S as with
      | bad => rw [es] at q; exact q
      | err x os =>
        rw [es] at q
        dsimp only at q
        intro F' H' A' c a s' g' ex
        obtain ⟨A2, s2, g2⟩ := call_outE s1 p1 nd ea s' g' fun b h => h
        exact q F' H' A2 c a s2 (g1.transE g2) ex
      | ok o os =>
        rw [es] at q
        dsimp only at q
        intro v F' H' A' B s' g' r ndB dj
        by_cases im : (noBrw qs ms || (o.imm && oimmM os ms)) = true
        · rw [if_pos im] at q
          have im1 : (noBrw qs ms || oimmM os ms) = true := by
            rcases Bool.or_eq_true_iff.mp im with z | z
            · rw [z]; rfl
            · rw [(Bool.and_eq_true_iff.mp z).2, Bool.or_true]
          obtain ⟨s2, le2, nw, hW⟩ := call_out s1 p1 nd ea s' g' (fun b h => .inl h) im1
          have r2 : Own K cl (less F' (brwL A1 qs ms)) H' o v B := by
            rcases Bool.or_eq_true_iff.mp im with z | z
            · rw [brwL_nil (A := A1) z]
              have : less F' [] = F' := by funext b; exact less_out (by simp)
              rw [this]
              exact r
            · exact oimm_less hW o v B (Bool.and_eq_true_iff.mp z).1 r
          refine q v _ H' _ B s2 (g1.trans ⟨fun b o h n => g'.keep b o h fun z => n (calSub b z), le2, nw, fun b h => ?_⟩) r2 ndB fun b hb z => ?_
          · rcases h with z | z
            · rcases owOut b z with z | z
              · exact (g'.ow b (.inl z)).elim (fun z => .inl (calSub b z)) .inr
              · exact .inl z
            · exact (g'.ow b (.inr z)).elim (fun z => .inl (calSub b z)) .inr
          · obtain ⟨i, hi⟩ := z
            dsimp only at hi
            split at hi
            · exact dj b hb ⟨_, hi⟩
            · rename_i ep
              rcases g'.ow b (.inr hb) with z | z
              · obtain ⟨j', i', h1, h2, h3⟩ := calA_own z
                by_cases ei : i' = i
                · subst ei
                  exact atPl_none ep h1 h2
                · exact s1.dis i' i ei b h3 hi
              · have := (s1.at_ ⟨i, hi⟩).2
                rw [z] at this
                exact this
        · rw [if_neg im] at q
          exact q.elim
  · rw [if_neg hn] at q
    exact q.elim
theorem ee_call {S : FS} {ms : List Bool} {k : Nat} {f : Addr} {fd : FuncData} {ps : List Str} {x : Str} (Fn : FnOk X.prog X.w X.K X.mg X.base (L2.CX X.prog X.w) k f fd ps (spD X.K cl S)) (hr : Room k X.A) (hg : Gl X x) (hm : X.mg x = some (.ref f)) (hk : PySem.W.keepIn X.K (.ref f) = true) (hb : Binds X.K fd ps [])
    (hx : Passes (L2.CX X.prog X.w) X E) (ha : EA X cl (wE E) (e :: es) ts) (hdb : (x == ("__debug__" : Str)) = false := by decide) (he : starEach (e :: es) X.env = (false, eval e X.env) :: starEach es X.env := by rfl) (hpl : (backTo pos (starEach es X.env)).any (·.1) = false := by rfl) :
    EE X cl (wE E) (.Call (.Name x p) (e :: es) [] pos) (evCall S ms ts) := by
  refine PE.imp (pe_call Fn hr hg hm hk hb .nil hx ha hdb he hpl) fun σ H Q ⟨F, ρ, A, s, q⟩ => ⟨F, ρ, A, s, ?_⟩
  unfold evCall at q
  cases e1 : ts ρ with
  | bad => rw [e1] at q; exact q
  | err x ρ' => rw [e1] at q; exact q
  | ok qs ρ1 =>
    rw [e1] at q
    intro vs F1 H1 A1 s1 g1 p1
    rw [List.append_nil]
    exact call_sp s1 g1 p1 q
theorem ee_call0 {S : FS} {k : Nat} {f : Addr} {fd : FuncData} {ps : List Str} {x : Str} (Fn : FnOk X.prog X.w X.K X.mg X.base (L2.CX X.prog X.w) k f fd ps (spD X.K cl S)) (hr : Room k X.A) (hg : Gl X x) (hm : X.mg x = some (.ref f)) (hk : PySem.W.keepIn X.K (.ref f) = true) (hb : Binds X.K fd ps [])
    (hx : Passes (L2.CX X.prog X.w) X E) (hdb : (x == ("__debug__" : Str)) = false := by decide) : EE X cl (wE E) (.Call (.Name x p) [] [] pos) (evCall S [] evNil) := by
  refine PE.imp (pe_call0 Fn hr hg hm hk hb .nil hx hdb) fun σ H Q ⟨F, ρ, A, s, q⟩ => ?_
  unfold evCall at q
  exact call_sp (ms := []) (qs := []) (vs := []) s Gr.refl (show POks X.K cl F σ [] [] from rfl) q
end
end DL
/-! DL15: chains of comparisons, globals, a def's place, the law's end. -/
namespace DL
open PySem L2
section
variable {X : Cx} {cl : Nat → Addr} {W : WX} {E : XK} {e a b c : Expr} {ta tb tc : Rho → Res Opd} {pos p : Pos}
/-- a comparison: as a value and as a test -/
def CC (X : Cx) (cl : Nat → Addr) (W : WX) (e : Expr) (t : Rho → Res OV) : Prop := ∃ u : TE, PE X e u ∧ PT X e (tTest u) ∧ ∀ σ H Q, LE X.K cl W t σ H Q → u σ H Q
@[simp] def evChain (f g : List D → Option OD) (ta tb tc : Rho → Res Opd) : Rho → Res OV := fun ρ => (ta ρ).bind fun x ρ1 => (tb ρ1).bind fun y ρ2 => (fin f [x, y] ρ2).bind fun o ρ3 => match o.bool with
  | some true => (tc ρ3).bind fun z ρ4 => fin g [y, z] ρ4
  | some false => .ok (ovB false) ρ3
  | none => .bad
theorem fin_state {f : List D → Option OD} {qs : List Opd} {ρ ρ' : Rho} {o : OV} (h : fin f qs ρ = .ok o ρ') : ρ' = ρ := by
  unfold fin at h
  split at h
  · cases h
  · split at h
    · cases h
    · split at h
      · cases h; rfl
      · cases h
theorem cc_chain {op op' : CmpOp} {f g : List D → Option OD} (ho : ∃ r, OpR X (compareOp op) r ∧ PrimOk X.K cl f (R2L r)) (ho' : ∃ r, OpR X (compareOp op') r ∧ PrimOk X.K cl g (R2L r)) (ha : EP' X cl W a ta) (hb : EP' X cl W b tb) (hc : EP' X cl W c tc)
    (hm : lastMarks [op, op'] [b, c] = false := by with_unfolding_all rfl) : CC X cl W (.Compare a [op, op'] [b, c] pos) (evChain f g ta tb tc) := by
  obtain ⟨r, o1, pr⟩ := ho
  obtain ⟨r', o2, pr'⟩ := ho'
  refine ⟨_, pe_chain o1 o2 ha hb hc hm, pt_chain o1 o2 ha hb hc hm, fun σ H Q ⟨F, ρ, A, s, q⟩ => ⟨F, ρ, A, s, ?_⟩⟩
  unfold evChain at q
  cases e1 : ta ρ with
  | bad => rw [e1] at q; exact q
  | err x ρ' => rw [e1] at q; exact q
  | ok x ρ1 =>
    rw [e1] at q
    intro v F1 H1 A1 s1 g1 p1
    refine ⟨F1, ρ1, A1, s1, ?_⟩
    dsimp only [Res.bind] at q
    cases e2 : tb ρ1 with
    | bad => rw [e2] at q; exact q
    | err x ρ' => rw [e2] at q; exact ErrQ.pre q g1
    | ok y ρ2 =>
      rw [e2] at q
      intro u F2 H2 A2 s2 g2 p2
      dsimp only at q
      cases e3 : fin f [x, y] ρ2 with
      | bad => rw [e3] at q; exact q.elim
      | err x' ρ' =>
        exfalso
        unfold fin at e3
        split at e3
        · cases e3
        · split at e3
          · cases e3
          · split at e3 <;> cases e3
      | ok o ρ3 =>
        rw [e3] at q
        dsimp only at q
        cases e4 : o.bool with
        | none => rw [e4] at q; exact q.elim
        | some k =>
          rw [e4] at q
          cases OV.bool_some e4
          obtain ⟨x', y', ex, hr⟩ := fin_ok (vs := [v, u]) (Q := fun z H3 => ∃ k, z = .bl k ∧ (if k = true then LP X.K cl W tc σ H3 fun w' H4 => r' u w' H4 Q else Q (.bl false) H3)) pr s2 (qs := [x, y]) ⟨v, _, rfl, p1.mono g2.ff, u, _, rfl, p2, rfl⟩ e3 fun z F3 H3 A3 B s3 g3 r3 nd dj => by
            obtain ⟨rfl, rfl⟩ := own_bl (H := H3) r3
            refine ⟨k, rfl, ?_⟩
            have gg := (g1.trans g2).trans (gr0 g3)
            cases k with
            | false =>
              rw [if_neg (by decide)]
              exact q _ F3 H3 A3 [] s3 (gr1 gg) (own_mk (H := H3)) nd dj
            | true =>
              rw [if_pos rfl]
              refine ⟨F3, ρ3, A3, s3, ?_⟩
              dsimp only at q
              cases e5 : tc ρ3 with
              | bad => rw [e5] at q; exact q
              | err x' ρ' => rw [e5] at q; exact ErrQ.pre q gg
              | ok z' ρ4 =>
                rw [e5] at q
                intro w4 F4 H4 A4 s4 g4 p4
                obtain ⟨_, _, e6, h⟩ := fin_end pr' s4 (gg.trans g4) (qs := [y, z']) (vs := [u, w4]) ⟨u, _, rfl, (p2.mono (g3.ff.trans g4.ff)), w4, _, rfl, p4, rfl⟩ q
                cases e6
                exact h
          cases ex
          exact hr
/-! ### comparisons as tests -/
theorem PT.or {e : Expr} {t t' : TT} (h : PT X e t) (h' : PT X e t') : PT X e (fun σ H Q => t σ H Q ∨ t' σ H Q) := ⟨fun pins s σ H Q I q => q.elim (h.run pins s σ H Q I) (h'.run pins s σ H Q I)⟩
theorem ee_cc {t : Rho → Res OV} (h : CC X cl W e t) : EE X cl W e t := let ⟨_, h1, _, h3⟩ := h; PE.imp h1 h3
theorem et_cc {t : Rho → Res OV} (h : CC X cl W e t) : ET X cl W e (evT (evP t)) := by
  obtain ⟨u, _, h2, h3⟩ := h
  refine PT.imp h2 fun σ H Q ⟨F, ρ, A, s, q⟩ => h3 σ H _ ⟨F, ρ, A, s, ?_⟩
  unfold evT evP at q
  cases e1 : t ρ with
  | bad => rw [e1] at q; exact q
  | err x ρ' => rw [e1] at q; exact q
  | ok o ρ1 =>
    rw [e1] at q
    dsimp only [Res.bind] at q
    intro v F1 H1 A1 B s1 g1 r1 nd dj
    cases e2 : o.opd.bool with
    | none => rw [e2] at q; exact q.elim
    | some b =>
      rw [e2] at q
      cases o with
      | b i => cases e2
      | o o' =>
        have e3 := Opd.bool_some e2
        obtain ⟨s2, r2, le, out⟩ := freeze s1 r1 dj
        have e4 : o'.toD = .v (.bl b) := by
          injection e3
        rw [e4] at r2
        exact ⟨b, r2.1, q _ H1 A1 s2 (g1.frozen le)⟩
theorem rd_2 {ta tb : Rho → Res Opd} {f : List D → Option OD} {r : R2} (pr : PrimOk X.K cl f (R2L r)) : ∀ σ H Q, LE X.K cl W (ev2 f ta tb) σ H Q → tOp r (LP X.K cl W ta) (LP X.K cl W tb) σ H Q := fun σ H Q ⟨F, ρ, A, s, q⟩ => ⟨F, ρ, A, s, by
  unfold ev2 at q
  cases e1 : ta ρ with
  | bad => rw [e1] at q; exact q
  | err x ρ' => rw [e1] at q; exact q
  | ok x ρ1 =>
    rw [e1] at q
    intro v F1 H1 A1 s1 g1 p1
    refine ⟨F1, ρ1, A1, s1, ?_⟩
    dsimp only [Res.bind] at q
    cases e2 : tb ρ1 with
    | bad => rw [e2] at q; exact q
    | err x ρ' => rw [e2] at q; exact ErrQ.pre q g1
    | ok y ρ2 =>
      rw [e2] at q
      intro u F2 H2 A2 s2 g2 p2
      obtain ⟨_, _, e, h⟩ := fin_end pr s2 (g1.trans g2) (qs := [x, y]) (vs := [v, u]) ⟨v, _, rfl, p1.mono g2.ff, u, _, rfl, p2, rfl⟩ q
      cases e
      exact h⟩
theorem cc_cmp {op : CmpOp} {f : List D → Option OD} (h : ∃ r, OpR X (compareOp op) r ∧ PrimOk X.K cl f (R2L r)) (ha : EP' X cl W a ta) (hb : EP' X cl W b tb) (hm : behindInMarks op b = false := by rfl) : CC X cl W (.Compare a [op] [b] pos) (ev2 f ta tb) :=
  let ⟨_, h1, h2⟩ := h; ⟨_, pe_cmpR h1 ha hb hm, pt_cmpR h1 ha hb hm, rd_2 h2⟩
theorem cc_alt {f g : List D → Option OD} (h : CC X cl W e (ev2 f ta tb)) (h' : CC X cl W e (ev2 g ta tb)) : CC X cl W e (ev2 (alt f g) ta tb) := by
  obtain ⟨u, h1, h2, h3⟩ := h
  obtain ⟨u', h1', h2', h3'⟩ := h'
  refine ⟨fun σ H Q => u σ H Q ∨ u' σ H Q, PE.or h1 h1', PT.or h2 h2', fun σ H Q ⟨F, ρ, A, s, q⟩ => ?_⟩
  have : ev2 (alt f g) ta tb ρ = ev2 f ta tb ρ ∨ ev2 (alt f g) ta tb ρ = ev2 g ta tb ρ := by
    unfold ev2
    cases ta ρ with
    | bad => exact .inl rfl
    | err _ _ => exact .inl rfl
    | ok x ρ1 =>
      show (tb ρ1).bind _ = (tb ρ1).bind _ ∨ (tb ρ1).bind _ = (tb ρ1).bind _
      cases tb ρ1 with
      | bad => exact .inl rfl
      | err _ _ => exact .inl rfl
      | ok y ρ2 => exact fin_alt
  rcases this with z | z
  · rw [z] at q; exact .inl (h3 σ H Q ⟨F, ρ, A, s, q⟩)
  · rw [z] at q; exact .inr (h3' σ H Q ⟨F, ρ, A, s, q⟩)
theorem cc_in (hu : X.A.units + 1 < cLine) (ha : EP' X cl W a ta) (hb : EP' X cl W b tb) (hm : behindInMarks .In b = false := by rfl) : CC X cl W (.Compare a [.In] [b] pos) (ev2 (fIn false) ta tb) :=
  cc_alt (cc_cmp ⟨_, op_in_str.or op_in_seq, PrimOk.alt2 (pr_ss0 fun _ _ => trivial) pr_in⟩ ha hb hm) ⟨_, pe_cmp (pc_din hu ha hb) hm, pt_cmp (pc_din hu ha hb) hm, fun σ H Q h => rd_2 pr_din σ H Q h⟩
theorem cc_notin (hu : X.A.units + 1 < cLine) (ha : EP' X cl W a ta) (hb : EP' X cl W b tb) (hm : behindInMarks .NotIn b = false := by rfl) : CC X cl W (.Compare a [.NotIn] [b] pos) (ev2 (fIn true) ta tb) :=
  cc_alt (cc_cmp ⟨_, op_notIn_str.or op_notIn_seq, PrimOk.alt2 (pr_ss0 fun _ _ => trivial) pr_in⟩ ha hb hm) ⟨_, pe_cmp (pc_dnotin hu ha hb) hm, pt_cmp (pc_dnotin hu ha hb) hm, fun σ H Q h => rd_2 pr_din σ H Q h⟩
/-! ### globals -/
theorem pe_gint {x : Str} {i : Int} (hg : Gl X x) (h : ∃ t, X.mg x = some (.int i t)) (hd : (x == ("__debug__" : Str)) = false := by decide) : PE X (.Name x pos) (tC (.int i)) := let ⟨t, h⟩ := h; pe_glob hg h ⟨t, rfl⟩ hd
theorem pe_gstr {x : Str} {i : Str} (hg : Gl X x) (h : ∃ t, X.mg x = some (.str i t)) (hd : (x == ("__debug__" : Str)) = false := by decide) : PE X (.Name x pos) (tC (.str i)) := let ⟨t, h⟩ := h; pe_glob hg h ⟨t, rfl⟩ hd
theorem ee_gint {x : Str} {i : Int} (hg : Gl X x) (h : ∃ t, X.mg x = some (.int i t)) (hd : (x == ("__debug__" : Str)) = false := by decide) : EE X cl W (.Name x pos) (evC (.v (.int i))) := ee_c trivial (pe_gint hg h hd)
theorem ee_gstr {x : Str} {i : Str} (hg : Gl X x) (h : ∃ t, X.mg x = some (.str i t)) (hd : (x == ("__debug__" : Str)) = false := by decide) : EE X cl W (.Name x pos) (evC (.v (.str i))) := ee_c trivial (pe_gstr hg h hd)
/-- a built-in class as a value -/
theorem ee_ty {x : Str} {T : String} (hg : Gl X x) (hm : X.mg x = none) (hv : bootBuiltins x = some (.type T)) (hn : x ≠ "__name__" := by decide) (hd : (x == ("__debug__" : Str)) = false := by decide) : EE X cl W (.Name x pos) (evC (.v (.ty T))) := ee_c trivial (pe_bltn (v := .ty T) hg hm hv rfl hn hd)
end

section
variable {P : Program} {w : World} {K : PySem.W.Frag} {mg : Str → Option Value} {base : Heap} {N : List Str} {qual : Str} {sc : Scope} {f : Addr} {cdv : Value} {A : Around} {outer : List Env} {s : Shared} {H : Hp} {E : XK}
theorem tkd : Takes (cxOf (L2.CX P w) P w K mg base N qual sc f cdv A outer s H E) (wE E) := takes_of rfl rfl rfl rfl
theorem px : Passes (L2.CX P w) (cxOf (L2.CX P w) P w K mg base N qual sc f cdv A outer s H E) E := passes_call tkd fun _ _ _ _ h => h
theorem pown : PassesOwn (model P w) (cxOf (L2.CX P w) P w K mg base N qual sc f cdv A outer s H E).A (cxOf (L2.CX P w) P w K mg base N qual sc f cdv A outer s H E).env (cxOf (L2.CX P w) P w K mg base N qual sc f cdv A outer s H E).xe := passes_of rfl
/-- where a def stands -/
structure DefAt (K : PySem.W.Frag) (mg : Str → Option Value) (x : Str) (st : Stmt) (ps : List Str) (f : Addr) (fd : FuncData) : Prop where
  fn : Fun K x x st f fd
  g : mg x = some (.ref f)
  bd : Binds K fd ps []
  kp : PySem.W.keepIn K (.ref f) = true
  ba : ∀ us : List Value, us.length = ps.length → bindArgs fd ⟨us, []⟩ = pure (ps.zip us)
theorem def_mk {h : Heap} {x : Str} {st : Stmt} {ps : List Str} (X : K.In h) (G : h.Ns mainGlobals mg) {f : Addr} {od an : Option Addr} {sl : Array (Option Value)} {oc kV dc pm cd ct : Value}
    (a : PySem.W.nsIn K mainGlobals x = some (some (.ref f))) (l : K.lookup f = some ⟨oc, od, .func (PySem.W.fnOf x x (defArgs st) (defBody st) (defScope st) .none kV dc pm an cd ct), sl⟩)
    (c : PySem.W.codeIn K cd x = true) (k : PySem.W.keepIn K (.ref f) = true)
    (hb : ∀ (kV doc pm : Value) (an : Option Addr) (cdv ct : Value) (us : List Value), us.length = ps.length → bindArgs (PySem.W.fnOf x x (defArgs st) (defBody st) (defScope st) .none kV doc pm an cdv ct) ⟨us, []⟩ = pure (ps.zip us)) :
    ∃ f fd, DefAt K mg x st ps f fd :=
  have F1 := fun_mk (st := st) l c k
  ⟨f, _, F1, PySem.W.mg_of X G a, F1.binds (ps := ps) hb, k, fun us e => hb _ _ _ _ _ _ us e⟩
end
theorem no_cx {P : Program} {w : World} (H : Hp) (s : Shared) (e : Value) (s' : Shared) (h : L2.CX P w [] H s (fun _ _ _ => False) e s') : False := by
  obtain ⟨_, _, _, _, _, _, _, _, _, _, _, _, z⟩ := h
  exact z
end DL
/-! DL16: arguments that are new data of their own, handed to what changes them. -/
namespace DL
open PySem L2
def LX (K : PySem.W.Frag) (cl : Nat → Addr) (W : WX) (t : Rho → Res (List Opd × Rho)) : TA := fun σ H Q => ∃ F ρ A, Sto K cl F H σ ρ A ∧ match t ρ with
  | .ok z ρ' => ∀ (vs tv : List V) (F' H' : Hp) (A' : Nat → List Addr), tv.length = z.2.length → ρ'.length = σ.length → Sto K cl F' H' (σ ++ tv.map some) (ρ' ++ z.2) A' → Gr (ownd A) (ownd A') F H F' H' → POks K cl F' (σ ++ tv.map some) z.1 vs → Q vs H'
  | .err x ρ' => ErrQ K cl W (ownd A) F H σ x ρ'
  | .bad => False
def EX (X : Cx) (cl : Nat → Addr) (W : WX) (es : List Expr) (t : Rho → Res (List Opd × Rho)) : Prop := PA X es (LX X.K cl W t)
@[simp] def evXNil : Rho → Res (List Opd × Rho) := fun ρ => .ok ([], []) ρ
@[simp] def isOwn : OV → Option OD
  | .o (.fz _) => none
  | .o .gone => none
  | .o x => some x
  | .b _ => none
@[simp] def xc (ov : OV) (ts : Rho → Res (List Opd × Rho)) (ρ1 : Rho) : Res (List Opd × Rho) := match isOwn ov with
  | some x => (ts ρ1).bind fun z ρ2 => .ok (.b (ρ2.length + z.2.length) :: z.1, z.2 ++ [x]) ρ2
  | none => (ts ρ1).bind fun z ρ2 => .ok (ov.opd :: z.1, z.2) ρ2
@[simp] def evXCons (t : Rho → Res OV) (ts : Rho → Res (List Opd × Rho)) : Rho → Res (List Opd × Rho) := fun ρ => (t ρ).bind fun ov ρ1 => xc ov ts ρ1
section
variable {X : Cx} {cl : Nat → Addr} {W : WX} {E : XK} {e : Expr} {es : List Expr} {pos p : Pos}
theorem Sto.push {K : PySem.W.Frag} {F H : Hp} {σ : L2.St} {ρ : Rho} {A : Nat → List Addr} {o : OD} {v : V} {B : List Addr} (s : Sto K cl F H σ ρ A) (r : Own K cl F H o v B) (nd : B.Nodup) (dj : ∀ b ∈ B, ¬ ownd A b) :
    Sto K cl F H (σ ++ [some v]) (ρ ++ [o]) (fun i => if i = ρ.length then B else A i) := by
  have hlen := s.len
  refine ⟨s.sub, by simp [hlen], fun i => ?_, fun i j n b hi hj => ?_, fun i => ?_⟩
  · by_cases e : i = ρ.length
    · subst e
      rw [if_pos rfl]
      have e1 : gt (ρ ++ [o]) ρ.length = o := by
        show (ρ ++ [o]).getD ρ.length .gone = o
        rw [List.getD_eq_getElem?_getD]
        simp
      rw [e1]
      refine .mk (v := v) ?_ r
      rw [hlen]
      simp
    · rw [if_neg e]
      by_cases h : i < ρ.length
      · have e1 : gt (ρ ++ [o]) i = gt ρ i := by
          show (ρ ++ [o]).getD i .gone = ρ.getD i .gone
          rw [List.getD_eq_getElem?_getD, List.getD_eq_getElem?_getD, List.getElem?_append_left h]
        rw [e1, List.getElem?_append_left (by rw [← hlen]; exact h)]
        exact s.sl i
      · have e1 : gt (ρ ++ [o]) i = .gone := by
          show (ρ ++ [o]).getD i .gone = .gone
          rw [List.getD_eq_getElem?_getD, List.getElem?_eq_none (by rw [List.length_append]; simp; omega)]
          rfl
        rw [e1]
        have := s.sl i
        have e2 : gt ρ i = .gone := by
          show ρ.getD i .gone = .gone
          rw [List.getD_eq_getElem?_getD, List.getElem?_eq_none (by omega)]
          rfl
        rw [e2] at this
        exact this
  · try dsimp only at hi hj
    by_cases e : i = ρ.length
    · rw [if_pos e] at hi
      rw [if_neg (fun z => n (e.trans z.symm))] at hj
      exact dj b hi ⟨j, hj⟩
    · rw [if_neg e] at hi
      by_cases e' : j = ρ.length
      · rw [if_pos e'] at hj
        exact dj b hj ⟨i, hi⟩
      · rw [if_neg e'] at hj
        exact s.dis i j n b hi hj
  · try dsimp only
    split
    · exact nd
    · exact s.nd i
theorem Sto.cut {K : PySem.W.Frag} {F H : Hp} {σ τ : L2.St} {ρ : Rho} {A : Nat → List Addr} (s : Sto K cl F H (σ ++ τ) ρ A) : Sto K cl F H σ (ρ.take σ.length) (fun i => if i < σ.length then A i else []) := by
  have hlen := s.len
  rw [List.length_append] at hlen
  refine ⟨s.sub, by rw [List.length_take]; omega, fun i => ?_, fun i j n b hi hj => ?_, fun i => ?_⟩
  · by_cases h : i < σ.length
    · rw [if_pos h]
      have e1 : gt (ρ.take σ.length) i = gt ρ i := by
        show (ρ.take σ.length).getD i .gone = ρ.getD i .gone
        rw [List.getD_eq_getElem?_getD, List.getD_eq_getElem?_getD, List.getElem?_take, if_pos h]
      have := s.sl i
      rw [List.getElem?_append_left h] at this
      rw [e1]
      exact this
    · rw [if_neg h]
      have e1 : gt (ρ.take σ.length) i = .gone := by
        show (ρ.take σ.length).getD i .gone = .gone
        rw [List.getD_eq_getElem?_getD, List.getElem?_take, if_neg h]
        rfl
      rw [e1]
      rfl
  · try dsimp only at hi hj
    split at hi
    · split at hj
      · exact s.dis i j n b hi hj
      · cases hj
    · cases hi
  · try dsimp only
    split
    · exact s.nd i
    · exact List.nodup_nil
theorem cut_ownd {A : Nat → List Addr} {n : Nat} {b : Addr} (h : ownd (fun i => if i < n then A i else []) b) : ownd A b := by
  obtain ⟨i, hi⟩ := h
  dsimp only at hi
  split at hi
  · exact ⟨i, hi⟩
  · cases hi
theorem ex_nil : EX X cl W [] evXNil := PA.imp pa_nil fun σ H Q ⟨F, ρ, A, s, q⟩ => q [] [] F H A rfl s.len (by simpa using s) Gr.refl rfl
theorem POk.app {K : PySem.W.Frag} {F : Hp} {σ τ : L2.St} {q : Opd} {v : V} (h : POk K cl F σ q v) : POk K cl F (σ ++ τ) q v := by
  cases q with
  | d d => exact h
  | b i =>
    have h' : σ[i]? = some (some v) := h
    show (σ ++ τ)[i]? = some (some v)
    rw [List.getElem?_append_left (List.getElem?_eq_some_iff.mp h').1]
    exact h'
theorem POks.app {K : PySem.W.Frag} {F : Hp} {σ τ : L2.St} : ∀ {qs : List Opd} {vs : List V}, POks K cl F σ qs vs → POks K cl F (σ ++ τ) qs vs
  | [], _, h => h
  | q :: qs, _, ⟨u, us, e, p, h⟩ => ⟨u, us, e, p.app, POks.app h⟩
theorem isOwn_some {ov : OV} {x : OD} (h : isOwn ov = some x) : ov = .o x := by
  cases ov with
  | b i => cases h
  | o y => cases y <;> cases h <;> rfl
theorem xc_sem {K : PySem.W.Frag} {ts : Rho → Res (List Opd × Rho)} {ov : OV} {F F1 H H1 : Hp} {σ : L2.St} {ρ1 : Rho} {A A1 : Nat → List Addr} {v : V} {B : List Addr} {Q : List V → Hp → Prop} (s1 : Sto K cl F1 H1 σ ρ1 A1) (g1 : Gr (ownd A) (fun b => ownd A1 b ∨ b ∈ B) F H F1 H1) (r1 : VOk K cl F1 H1 σ ov v B) (nd : B.Nodup) (dj : ∀ b ∈ B, ¬ ownd A1 b)
    (q : match xc ov ts ρ1 with
      | .ok z ρ' => ∀ (vs tv : List V) (F' H' : Hp) (A' : Nat → List Addr), tv.length = z.2.length → ρ'.length = σ.length → Sto K cl F' H' (σ ++ tv.map some) (ρ' ++ z.2) A' → Gr (ownd A) (ownd A') F H F' H' → POks K cl F' (σ ++ tv.map some) z.1 vs → Q vs H'
      | .err x ρ' => ErrQ K cl W (ownd A) F H σ x ρ'
      | .bad => False) : LX K cl W ts σ H1 fun us H2 => Q (v :: us) H2 := by
  unfold xc at q
  cases e2 : isOwn ov with
  | some x =>
    cases isOwn_some e2
    rw [e2] at q
    dsimp only at q
    have gA : Gr (ownd A) (ownd A1) F H F1 H1 := g1.sub fun b z => .inl z
    refine ⟨F1, ρ1, A1, s1, ?_⟩
    cases e3 : ts ρ1 with
    | bad => rw [e3] at q; exact q
    | err x ρ' => rw [e3] at q; exact ErrQ.pre q gA
    | ok z ρ2 =>
      rw [e3] at q
      intro us tv F2 H2 A2 l1 l2 s2 g2 p2
      have fr : ∀ b ∈ B, F2 b = none ∧ ∀ y, H1 b = some y → H2 b = some y := fun b hb => by
        obtain ⟨f0, w0⟩ := own_at _ _ _ r1 b hb
        exact ⟨(g2.new b w0 (dj b hb)).trans f0, fun y hy => g2.keep b y hy (dj b hb)⟩
      have r2 : Own K cl F2 H2 x v B := own_mono g2.ff _ _ _ fr r1
      have dj2 : ∀ b ∈ B, ¬ ownd A2 b := fun b hb z => by
        rcases g2.ow b z with y | y
        · exact dj b hb y
        · have := (own_at _ _ _ r1 b hb).2
          rw [y] at this
          exact this
      have s3 := s2.push r2 nd dj2
      have el : (ρ2 ++ z.2).length = ρ2.length + z.2.length := List.length_append
      rw [el] at s3
      refine q (v :: us) (tv ++ [v]) F2 H2 (fun i => if i = ρ2.length + z.2.length then B else A2 i) (by simp [l1]) l2 (by simpa using s3) ⟨fun b o h n => g2.keep b o (g1.keep b o h n) fun y => (g1.ow b (.inl y)).elim n fun y => (by rw [h] at y; cases y), g1.ff.trans g2.ff, fun b w n => ?_, fun b ⟨i, hi⟩ => ?_⟩ ⟨v, us, rfl, ?_, ?_⟩
      · obtain ⟨o, ho⟩ := wr_some w
        have k1 := g1.keep b o ho n
        exact (g2.new b (by rw [k1, ← ho]; exact w) fun y => (g1.ow b (.inl y)).elim n fun y => (by rw [ho] at y; cases y)).trans (g1.new b w n)
      · dsimp only at hi
        split at hi
        · exact g1.ow b (.inr hi)
        · exact (gA.trans g2).ow b ⟨i, hi⟩
      · show (σ ++ List.map some (tv ++ [v]))[ρ2.length + z.2.length]? = some (some v)
        rw [List.map_append, ← List.append_assoc, List.getElem?_append_right (by simp; omega)]
        have : ρ2.length + z.2.length - (σ ++ List.map some tv).length = 0 := by simp; omega
        rw [this]
        rfl
      · have := POks.app (τ := [some v]) p2
        rw [List.append_assoc] at this
        simpa using this
  | none =>
    rw [e2] at q
    dsimp only at q
    have key : ∃ F1', Sto K cl F1' H1 σ ρ1 A1 ∧ Gr (ownd A) (ownd A1) F H F1' H1 ∧ POk K cl F1' σ ov.opd v := by
      cases ov with
      | b i => exact ⟨F1, s1, g1.sub fun b z => .inl z, r1.2⟩
      | o x =>
        obtain ⟨s2, r2, le, out⟩ := freeze s1 r1 dj
        exact ⟨_, s2, g1.frozen le, r2⟩
    obtain ⟨F1', s1', gA, pv⟩ := key
    refine ⟨F1', ρ1, A1, s1', ?_⟩
    cases e3 : ts ρ1 with
    | bad => rw [e3] at q; exact q
    | err x ρ' => rw [e3] at q; exact ErrQ.pre q gA
    | ok z ρ2 =>
      rw [e3] at q
      intro us tv F2 H2 A2 l1 l2 s2 g2 p2
      exact q (v :: us) tv F2 H2 A2 l1 l2 s2 (gA.trans g2) ⟨v, us, rfl, (pv.mono g2.ff).app, p2⟩
theorem ex_cons {t : Rho → Res OV} {ts : Rho → Res (List Opd × Rho)} (h : EE X cl W e t) (hs : EX X cl W es ts) (he : starEach (e :: es) X.env = (false, eval e X.env) :: starEach es X.env := by rfl) : EX X cl W (e :: es) (evXCons t ts) := by
  refine PA.imp (pa_cons h hs he) fun σ H Q ⟨F, ρ, A, s, q⟩ => ⟨F, ρ, A, s, ?_⟩
  unfold evXCons at q
  cases e1 : t ρ with
  | bad => rw [e1] at q; exact q
  | err x ρ' => rw [e1] at q; exact q
  | ok ov ρ1 =>
    rw [e1] at q
    intro v F1 H1 A1 B s1 g1 r1 nd dj
    exact xc_sem s1 g1 r1 nd dj q
@[simp] def cutR (n : Nat) : Res OV → Res OV
  | .ok ov ρ => .ok ov (ρ.take n)
  | .err x ρ => .err x (ρ.take n)
  | .bad => .bad
@[simp] def evCallX (S : FS) (ms : List Bool) (ts : Rho → Res (List Opd × Rho)) : Rho → Res OV := fun ρ => (ts ρ).bind fun z ρ1 => cutR ρ1.length (callR S ms z.1 (ρ1 ++ z.2))
theorem callR_o {S : FS} {ms : List Bool} {qs : List Opd} {ρ ρ' : Rho} {ov : OV} (h : callR S ms qs ρ = .ok ov ρ') : ∃ o, ov = .o o := by
  unfold callR at h
  split at h
  · split at h
    · cases h
    · split at h
      · split at h
        · cases h; exact ⟨_, rfl⟩
        · cases h
      · cases h
      · cases h
  · cases h
theorem callX_sp {S : FS} {ms : List Bool} {K : PySem.W.Frag} {F F1 H H1 : Hp} {σ : L2.St} {z : List Opd × Rho} {ρ1 : Rho} {A A1 : Nat → List Addr} {vs tv : List V} {Q : VK} (l2 : ρ1.length = σ.length)
    (s1 : Sto K cl F1 H1 (σ ++ tv.map some) (ρ1 ++ z.2) A1) (g1 : Gr (ownd A) (ownd A1) F H F1 H1) (p1 : POks K cl F1 (σ ++ tv.map some) z.1 vs)
    (q : match cutR ρ1.length (callR S ms z.1 (ρ1 ++ z.2)) with
      | .ok ov ρ' => ∀ v F' H' A' B, Sto K cl F' H' σ ρ' A' → Gr (ownd A) (fun b => ownd A' b ∨ b ∈ B) F H F' H' → VOk K cl F' H' σ ov v B → B.Nodup → (∀ b ∈ B, ¬ ownd A' b) → Q v H'
      | .err x ρ' => ErrQ K cl (wE E) (ownd A) F H σ x ρ'
      | .bad => False) : spD K cl S vs H1 Q E := by
  refine call_sp (ms := ms) s1 g1 p1 ?_
  cases e : callR S ms z.1 (ρ1 ++ z.2) with
  | bad => rw [e] at q; exact q
  | err x ρ' =>
    rw [e] at q
    intro F' H' A' c a s' g' ex
    have s2 := s'.cut
    rw [l2] at q
    exact q F' H' _ c a s2 (g'.sub fun b h => cut_ownd h) ex
  | ok ov ρ' =>
    obtain ⟨o, rfl⟩ := callR_o e
    rw [e] at q
    intro v F' H' A' B s' g' r nd dj
    have s2 := s'.cut
    rw [l2] at q
    exact q v F' H' _ B s2 (g'.sub fun b h => h.elim (fun h => .inl (cut_ownd h)) .inr) r nd fun b hb h => dj b hb (cut_ownd h)
theorem ee_callX {S : FS} {ms : List Bool} {ts : Rho → Res (List Opd × Rho)} {k : Nat} {f : Addr} {fd : FuncData} {ps : List Str} {x : Str} (Fn : FnOk X.prog X.w X.K X.mg X.base (L2.CX X.prog X.w) k f fd ps (spD X.K cl S)) (hr : Room k X.A) (hg : Gl X x) (hm : X.mg x = some (.ref f)) (hk : PySem.W.keepIn X.K (.ref f) = true) (hb : Binds X.K fd ps [])
    (hx : Passes (L2.CX X.prog X.w) X E) (ha : EX X cl (wE E) (e :: es) ts) (hdb : (x == ("__debug__" : Str)) = false := by decide) (he : starEach (e :: es) X.env = (false, eval e X.env) :: starEach es X.env := by rfl) (hpl : (backTo pos (starEach es X.env)).any (·.1) = false := by rfl) :
    EE X cl (wE E) (.Call (.Name x p) (e :: es) [] pos) (evCallX S ms ts) := by
  refine PE.imp (pe_call Fn hr hg hm hk hb .nil hx ha hdb he hpl) fun σ H Q ⟨F, ρ, A, s, q⟩ => ⟨F, ρ, A, s, ?_⟩
  unfold evCallX at q
  cases e1 : ts ρ with
  | bad => rw [e1] at q; exact q
  | err x ρ' => rw [e1] at q; exact q
  | ok z ρ1 =>
    rw [e1] at q
    intro vs tv F1 H1 A1 l1 l2 s1 g1 p1
    rw [List.append_nil]
    exact callX_sp l2 s1 g1 p1 q
end
end DL
/-! DL17: list comprehensions. -/
namespace DL
open PySem L2
@[simp] def wipeR : List Nat → Rho → Rho
  | [], ρ => ρ
  | v :: vs, ρ => (wipeR vs ρ).set v .gone
@[simp] def fzO : OD → OD
  | .fz d => .fz d
  | _ => .gone
@[simp] def restR (ρ1 : Rho) : List Nat → Rho → Rho
  | [], ρ => ρ
  | v :: vs, ρ => restR ρ1 vs (ρ.set v (fzO (gt ρ1 v)))
def lcN (g : GR) (c : Rho → Res Bool) (e : Rho → Res Opd) (vs : List Nat) : List D → Rho → Res (List D)
  | [], ρ => .ok [] ρ
  | d :: ds, ρ => match g d ρ with
    | none => .bad
    | some ρ1 => match c ρ1 with
      | .ok true ρ2 => (match e ρ2 with
        | .ok (.d y) ρ3 => (match lcN g c e vs ds (wipeR vs ρ3) with
          | .ok ys ρ4 => .ok (y :: ys) ρ4
          | _ => .bad)
        | _ => .bad)
      | .ok false ρ2 => lcN g c e vs ds (wipeR vs ρ2)
      | _ => .bad
@[simp] def endLc (ρ1 : Rho) (vs : List Nat) (r : Res (List D)) : Res OV := match r with
  | .ok ys ρ2 => if decide (ys.length ≤ 16777216) = true then .ok (.o (.lst (fzs ys))) (restR ρ1 vs ρ2) else .bad
  | _ => .bad
@[simp] def evLc (t : Rho → Res (List D)) (g : GR) (c : Rho → Res Bool) (e : Rho → Res Opd) (vs : List Nat) : Rho → Res OV := fun ρ => match t ρ with
  | .ok ds ρ1 => endLc ρ1 vs (lcN g c e vs ds (wipeR vs ρ1))
  | .err x ρ1 => .err x ρ1
  | .bad => .bad

section
variable {K : PySem.W.Frag} {cl : Nat → Addr} {F F' F1 F2 H H' H1 H2 : Hp} {σ σ' : L2.St} {ρ ρ' : Rho} {A A' : Nat → List Addr}
theorem Sto.wipe (s : Sto K cl F H σ ρ A) : ∀ vs : List Nat, ∃ A', Sto K cl F H (L2.wipe σ vs) (wipeR vs ρ) A' ∧ ∀ b, ownd A' b → ownd A b
  | [] => ⟨A, s, fun _ h => h⟩
  | v :: vs => by
    obtain ⟨A', s', h⟩ := s.wipe vs
    refine ⟨_, s'.drop (i := v) (x := none), fun b ⟨j, hj⟩ => ?_⟩
    dsimp only at hj
    split at hj
    · cases hj
    · exact h b ⟨j, hj⟩
theorem set_self {τ : L2.St} {v : Nat} {x y : Option V} (h : τ[v]? = some x) : (τ.set v y).set v x = τ := by
  rw [List.set_set]
  apply List.ext_getElem?
  intro j
  by_cases e : v = j
  · subst e
    rw [List.getElem?_set_self (List.getElem?_eq_some_iff.mp h).1, h]
  · rw [List.getElem?_set_ne e]
theorem Sto.rest {ρ1 : Rho} {A1 : Nat → List Addr} (s1 : Sto K cl F1 H1 σ ρ1 A1) (le : Le F1 F) : ∀ {vs : List Nat} {ρ : Rho} {A : Nat → List Addr}, vs.Nodup → Sto K cl F H (L2.wipe σ vs) ρ A → ∃ A', Sto K cl F H σ (restR ρ1 vs ρ) A' ∧ ∀ b, ownd A' b → ownd A b
  | [], ρ, A, _, s => ⟨A, s, fun _ h => h⟩
  | v :: vs, ρ, A, nd, s => by
    obtain ⟨nv, nd⟩ := List.nodup_cons.mp nd
    have s : Sto K cl F H ((L2.wipe σ vs).set v none) ρ A := s
    have out : (L2.wipe σ vs)[v]? = σ[v]? := wipe_out nv
    have key : ∃ A2, Sto K cl F H (L2.wipe σ vs) (ρ.set v (fzO (gt ρ1 v))) A2 ∧ ∀ b, ownd A2 b → ownd A b := by
      have sub : ∀ b, ownd (fun j => if j = v then [] else A j) b → ownd A b := fun b ⟨j, hj⟩ => by
        dsimp only at hj
        split at hj
        · cases hj
        · exact ⟨j, hj⟩
      have gone : ∃ A2, Sto K cl F H (L2.wipe σ vs) (ρ.set v .gone) A2 ∧ ∀ b, ownd A2 b → ownd A b := by
        cases hx : (L2.wipe σ vs)[v]? with
        | some x =>
          have s2 := s.drop (i := v) (x := x)
          rw [set_self hx] at s2
          exact ⟨_, s2, sub⟩
        | none =>
          have s2 := s.drop (i := v) (x := none)
          rw [List.set_eq_of_length_le (l := (L2.wipe σ vs).set v none) (by rw [List.length_set]; exact List.getElem?_eq_none_iff.mp hx), List.set_eq_of_length_le (List.getElem?_eq_none_iff.mp hx)] at s2
          exact ⟨_, s2, sub⟩
      cases hg : gt ρ1 v with
      | fz d =>
        have sl := s1.sl v
        rw [hg] at sl
        obtain ⟨u, eu, _, r⟩ := sl
        have hx : (L2.wipe σ vs)[v]? = some (some u) := out.trans eu
        have hl : v < ρ.length := by
          rw [s.len, List.length_set]
          exact (List.getElem?_eq_some_iff.mp hx).1
        have s2 := s.put (i := v) (v := u) (o := .fz d) (B := []) hl ⟨rfl, rep_mono le _ _ r⟩ List.nodup_nil fun b hb => by cases hb
        rw [set_self hx] at s2
        exact ⟨_, s2, sub⟩
      | gone => exact gone
      | tup _ => exact gone
      | lst _ => exact gone
      | dic _ => exact gone
      | dct _ => exact gone
      | ins _ _ => exact gone
    obtain ⟨A2, s2, h2⟩ := key
    obtain ⟨A3, s3, h3⟩ := Sto.rest s1 le (vs := vs) nd s2
    exact ⟨A3, s3, fun b hb => h2 b (h3 b hb)⟩
theorem wipe_in : ∀ {vs : List Nat} {i : Nat}, i ∈ vs → i < σ.length → (L2.wipe σ vs)[i]? = some none
  | v :: vs, i, h, hl => by
    show ((L2.wipe σ vs).set v none)[i]? = some none
    by_cases e : v = i
    · subst e
      rw [List.getElem?_set_self (by rw [wipe_length]; exact hl)]
    · rw [List.getElem?_set_ne e]
      exact wipe_in ((List.mem_cons.mp h).elim (fun z => absurd z.symm e) id) hl
theorem wipe_eq {vs : List Nat} {τ : L2.St} (hl : σ.length = τ.length) (h : ∀ i, i ∉ vs → σ[i]? = τ[i]?) : L2.wipe σ vs = L2.wipe τ vs := by
  apply List.ext_getElem?
  intro i
  by_cases hi : i ∈ vs
  · by_cases l : i < σ.length
    · rw [wipe_in hi l, wipe_in hi (by rw [← hl]; exact l)]
    · rw [List.getElem?_eq_none (by rw [wipe_length]; omega), List.getElem?_eq_none (by rw [wipe_length]; omega)]
  · rw [wipe_out hi, wipe_out hi]
    exact h i hi
theorem wipe_wipe {vs : List Nat} : L2.wipe (L2.wipe σ vs) vs = L2.wipe σ vs := wipe_eq (wipe_length _ _) fun i hi => wipe_out hi
theorem rd_some {a : Addr} {o : HO} (h : Rd H a o) : ∃ x, H a = some x := by
  rcases h with h | ⟨x, h⟩
  · exact ⟨_, h⟩
  · exact ⟨_, h⟩
theorem Reps.snoc {ds : List D} {us : List V} {d : D} {v : V} (h : Reps K cl F ds us) (r : Rep K cl F d v) : Reps K cl F (ds ++ [d]) (us ++ [v]) := reps_append h ⟨v, [], rfl, r, rfl⟩
/-- what tLc asks behind its source, from data -/
theorem lc_sem {J : It} {ds ys : List D} {st vs : List Nat} {W : WX} {g : GR} {c : Rho → Res Bool} {e : Rho → Res Opd} {ρ1 ρ2 : Rho} {A1 : Nat → List Addr} {Q : VK} (s1 : Sto K cl F1 H1 σ ρ1 A1) (it : ItOk K cl (ownd A1) J F1 H1 ds) (he : lcN g c e vs ds (wipeR vs ρ1) = .ok ys ρ2) (hl : ys.length ≤ 16777216) (nd : vs.Nodup) (hst : ∀ i ∈ st, i ∈ vs)
    (q : ∀ v F' H' A' B, Sto K cl F' H' σ (restR ρ1 vs ρ2) A' → Gr (ownd A1) (fun b => ownd A' b ∨ b ∈ B) F1 H1 F' H' → Own K cl F' H' (.lst (fzs ys)) v B → B.Nodup → (∀ b ∈ B, ¬ ownd A' b) → Q v H') :
    ∀ D, H1 D = none → ∃ Wn : Nat → Nat → Hp → Prop, (∃ m, Wn 0 m (upd H1 D (.lst []))) ∧ ∀ i m H, Wn i m H → (J.stop i H ∧ Q (.ref D) H) ∨ (J.go i H ∧ ∃ Nx : Hp → Prop, (∀ H', Nx H' → ∃ m', m' < m ∧ Wn (i + 1) m' H') ∧ ∀ x H', J.yld i H x H' →
      LG K cl st g x (L2.wipe σ vs) H' fun σ2 H2 => L2.wipe σ2 vs = L2.wipe σ vs ∧ LT K cl W c σ2 H2 fun b H3 => if b = true then LP K cl W e σ2 H3 fun y H4 => ∃ acc, H4 D = some (.lst acc) ∧ acc.length < sizeLine ∧ Nx (upd H4 D (.lst (acc ++ [y]))) else Nx H3) := by
  intro D0 hD
  have fD : F1 D0 = none := by
    cases z : F1 D0 with
    | none => rfl
    | some o =>
      obtain ⟨x, hx⟩ := rd_some (s1.sub _ _ z).1
      rw [hD] at hx
      cases hx
  have oD : ¬ ownd A1 D0 := fun z => by
    have := (s1.at_ z).2
    rw [hD] at this
    exact this
  obtain ⟨Aw, sw, hw⟩ := s1.wipe vs
  refine ⟨fun i m H => m = ds.length - i ∧ i ≤ ds.length ∧ ∃ F ρ A acc us rest, Sto K cl F H (L2.wipe σ vs) ρ A ∧ Gr (ownd A1) (fun b => ownd A b ∨ b = D0) F1 H1 F H ∧ F D0 = none ∧ ¬ ownd A D0 ∧ H D0 = some (.lst us) ∧ Reps K cl F acc us ∧ lcN g c e vs (ds.drop i) ρ = .ok rest ρ2 ∧ acc ++ rest = ys, ⟨_, rfl, Nat.zero_le _, F1, wipeR vs ρ1, Aw, [], [], ys, ?_, ⟨fun b o h n => ?_, Le.refl _, fun _ _ _ => rfl, fun b h => ?_⟩, fD, fun z => oD (hw _ z), upd_same, rfl, he, rfl⟩, ?_⟩
  · refine sw.mono (Le.refl _) (fun a o h => ?_) fun b hb => ⟨(sw.at_ hb).1, fun y hy => ?_⟩
    · have hne : a ≠ D0 := fun z => by rw [z, fD] at h; cases h
      have := sw.sub a o h
      unfold Rd at this ⊢
      rw [upd_ne hne]
      exact this
    · rw [upd_ne (fun z => oD (hw _ (by rw [← z]; exact hb)))]
      exact hy
  · rw [upd_ne (fun z => by rw [z, hD] at h; cases h)]
    exact h
  · rcases h with z | z
    · exact .inl (hw _ z)
    · rw [z]; exact .inr hD
  rintro i m H ⟨rfl, hi, F, ρ, A, acc, us, rest, s, gg, f0, o0, h0, ra, el, ey⟩
  obtain ⟨go, stop⟩ := it i _ F H s.sub gg
  by_cases hlt : i < ds.length
  · have hd : ds[i]? = some ds[i] := List.getElem?_eq_getElem hlt
    obtain ⟨hgo, hy⟩ := go _ hd
    refine .inr ⟨hgo, _, fun H' w => ⟨ds.length - (i + 1), by omega, rfl, hlt, w⟩, fun x H2 y => ?_⟩
    obtain ⟨F2, sb2, g2, r2⟩ := hy x H2 y
    have s2 := s.new sb2 g2
    have gg2 : Gr (ownd A) (ownd A) F H F2 H2 := gr_new g2 fun _ z => z
    have f2 : F2 D0 = none := (g2.new D0 (by rw [h0]; trivial) id).trans f0
    have h2 := g2.keep D0 _ h0 id
    rw [List.drop_eq_getElem_cons hlt] at el
    unfold lcN at el
    refine ⟨F2, ρ, A, ds[i], s2, r2, ?_⟩
    cases e1 : g ds[i] ρ with
    | none => rw [e1] at el; cases el
    | some ρ3 =>
      rw [e1] at el
      dsimp only at el
      intro σ3 A3 s3 w3 l3 p3
      have ew : L2.wipe σ3 vs = L2.wipe σ vs := (wipe_eq l3 fun j hj => p3 j fun z => hj (hst j z)).trans wipe_wipe
      refine ⟨ew, F2, ρ3, A3, s3, ?_⟩
      have gg3 : Gr (ownd A) (ownd A3) F H F2 H2 := gg2.sub w3
      have o3 : ¬ ownd A3 D0 := fun z => o0 (w3 _ z)
      -- how the big relation grows
      have grow : ∀ {F4 H4 : Hp} {A4 : Nat → List Addr}, Gr (ownd A3) (ownd A4) F2 H2 F4 H4 → Gr (ownd A1) (fun b => ownd A4 b ∨ b = D0) F1 H1 F4 H4 := fun {F4 H4 A4} g4 => by
        have ga := gg3.trans g4
        refine gg.trans (P1 := fun b => ownd A b ∨ b = D0) ⟨fun b o h n => ga.keep b o h fun z => n (.inl z), ga.ff, fun b w n => ga.new b w fun z => n (.inl z), fun b h => ?_⟩
        rcases h with z | z
        · exact (ga.ow b z).elim (fun z => .inl (.inl z)) .inr
        · exact .inl (.inr z)
      have other : ∀ {F4 H4 : Hp} {A4 : Nat → List Addr}, Gr (ownd A3) (ownd A4) F2 H2 F4 H4 → F4 D0 = none ∧ ¬ ownd A4 D0 ∧ H4 D0 = some (.lst us) ∧ Reps K cl F4 acc us := fun {F4 H4 A4} g4 =>
        ⟨(g4.new D0 (by rw [h2]; trivial) o3).trans f2, fun z => (g4.ow _ z).elim o3 fun z => (by rw [h2] at z; cases z), g4.keep D0 _ h2 o3, reps_mono (g2.ff.trans g4.ff) _ _ ra⟩
      cases e2 : c ρ3 with
      | bad => rw [e2] at el; cases el
      | err x ρ' => rw [e2] at el; cases el
      | ok b ρ4 =>
        rw [e2] at el
        intro F4 H4 A4 s4 g4
        cases b with
        | false =>
          rw [if_neg (by decide)]
          dsimp only at el
          obtain ⟨A5, s5, w5⟩ := s4.wipe vs
          rw [ew] at s5
          obtain ⟨k1, k2, k3, k4⟩ := other g4
          exact ⟨F4, _, A5, acc, us, rest, s5, (grow g4).sub fun b h => h.elim (fun h => .inl (w5 b h)) .inr, k1, fun z => k2 (w5 _ z), k3, k4, el, ey⟩
        | true =>
          rw [if_pos rfl]
          dsimp only at el
          refine ⟨F4, ρ4, A4, s4, ?_⟩
          cases e3 : e ρ4 with
          | bad => rw [e3] at el; cases el
          | err x ρ' => rw [e3] at el; cases el
          | ok od ρ5 =>
            rw [e3] at el
            cases od with
            | b _ => cases el
            | d yd =>
              dsimp only at el
              intro v F5 H5 A5 s5 g5 p5
              cases e4 : lcN g c e vs (ds.drop (i + 1)) (wipeR vs ρ5) with
              | bad => rw [e4] at el; cases el
              | err x ρ' => rw [e4] at el; cases el
              | ok ys' ρ6 =>
                rw [e4] at el
                cases el
                have g45 := g4.trans g5
                obtain ⟨k1, k2, k3, k4⟩ := other g45
                refine ⟨us, k3, ?_, ?_⟩
                · rw [reps_length k4, sizeLine_eq]
                  have := congrArg List.length ey
                  rw [List.length_append, List.length_cons] at this
                  omega
                · obtain ⟨A6, s6, w6⟩ := s5.wipe vs
                  rw [ew] at s6
                  have g6 := grow g45
                  refine ⟨F5, _, A6, acc ++ [yd], us ++ [v], ys', ?_, ⟨fun b o h n => ?_, g6.ff, g6.new, fun b h => g6.ow b (h.elim (fun h => .inl (w6 b h)) .inr)⟩, k1, fun z => k2 (w6 _ z), upd_same, k4.snoc p5, e4, by rw [List.append_assoc]; exact ey⟩
                  · refine s6.mono (Le.refl _) (fun a o h => ?_) fun b hb => ⟨(s6.at_ hb).1, fun y hy => ?_⟩
                    · have hne : a ≠ D0 := fun z => by rw [z, k1] at h; cases h
                      have := s6.sub a o h
                      unfold Rd at this ⊢
                      rw [upd_ne hne]
                      exact this
                    · rw [upd_ne (fun z => k2 (w6 _ (by rw [← z]; exact hb)))]
                      exact hy
                  · rw [upd_ne (fun z => by rw [z, hD] at h; cases h)]
                    exact g6.keep b o h n
  · have e : i = ds.length := by omega
    subst e
    rw [List.drop_length] at el
    cases (show Res.ok ([] : List D) ρ = .ok rest ρ2 from el)
    rw [List.append_nil] at ey
    subst ey
    obtain ⟨A5, s5, w5⟩ := s1.rest gg.ff nd s
    exact .inl ⟨stop (Nat.le_refl _), q (.ref D0) F H A5 [D0] s5 (gg.sub fun b h => h.elim (fun h => .inl (w5 b h)) fun h => .inr (List.mem_singleton.mp h)) ⟨D0, us, [], rfl, rfl, f0, h0, owns_fz ra⟩ (by simp) fun b hb z => by
      rw [List.mem_singleton.mp hb] at z
      exact o0 (w5 _ z)⟩
end

section
variable {X : Cx} {cl : Nat → Addr} {W : WX} {pn : List Nat}
def ETs (X : Cx) (cl : Nat → Addr) (W : WX) (es : List Expr) (t : Rho → Res Bool) : Prop := PTs X es (LT X.K cl W t)
theorem PTs.imp {es : List Expr} {t t' : TT} (h : PTs X es t) (i : ∀ σ H Q, t' σ H Q → t σ H Q) : PTs X es t' := ⟨fun pins s σ H Q I q => h.run pins s σ H Q I (i σ H Q q)⟩
@[simp] def evYes : Rho → Res Bool := fun ρ => .ok true ρ
theorem ets_nil : ETs X cl W [] evYes := PTs.imp pts_nil fun σ H Q ⟨F, ρ, A, s, q⟩ => q F H A s Gr.refl
theorem ets_one {c : Expr} {t : Rho → Res Bool} (h : ET X cl W c t) : ETs X cl W [c] t := pts_one h
abbrev nox : WX := fun _ _ _ _ => False
/-- what the parts of a comprehension are: target, tests, element -/
structure LcP (X : Cx) (cl : Nat → Addr) (st : List Nat) (scope : Scope) (tg : Expr) (ifs : List Expr) (elt : Expr) (g : GR) (c : Rho → Res Bool) (e : Rho → Res Opd) : Prop where
  g : ∀ (s : Shared) (H : Hp) (C : Addr) (cs : List (Str × Addr)) (fp : List Addr), EG (X.blk s H scope (compEnvC scope cs C X.env) fp) cl st tg g
  c : ∀ (s : Shared) (H : Hp) (C : Addr) (cs : List (Str × Addr)) (fp : List Addr), ETs (X.blk s H scope (compEnvC scope cs C X.env) fp) cl nox ifs c
  e : ∀ (s : Shared) (H : Hp) (C : Addr) (cs : List (Str × Addr)) (fp : List Addr), EP' (X.blk s H scope (compEnvC scope cs C X.env) fp) cl nox elt e
theorem lc_end {K : PySem.W.Frag} {J : It} {ds : List D} {st vs : List Nat} {g : GR} {c : Rho → Res Bool} {e : Rho → Res Opd} {F F1 H H1 : Hp} {σ : L2.St} {ρ1 : Rho} {A A1 : Nat → List Addr} {Q : VK} (nd : vs.Nodup) (hst : ∀ i ∈ st, i ∈ vs) (s1 : Sto K cl F1 H1 σ ρ1 A1) (g1 : Gr (ownd A) (ownd A1) F H F1 H1) (it : ItOk K cl (ownd A1) J F1 H1 ds)
    (q : match endLc ρ1 vs (lcN g c e vs ds (wipeR vs ρ1)) with
      | .ok ov ρ' => ∀ v F' H' A' B, Sto K cl F' H' σ ρ' A' → Gr (ownd A) (fun b => ownd A' b ∨ b ∈ B) F H F' H' → VOk K cl F' H' σ ov v B → B.Nodup → (∀ b ∈ B, ¬ ownd A' b) → Q v H'
      | .err x ρ' => ErrQ K cl W (ownd A) F H σ x ρ'
      | .bad => False) :
    ∀ D, H1 D = none → ∃ Wn : Nat → Nat → Hp → Prop, (∃ m, Wn 0 m (upd H1 D (.lst []))) ∧ ∀ i m H, Wn i m H → (J.stop i H ∧ Q (.ref D) H) ∨ (J.go i H ∧ ∃ Nx : Hp → Prop, (∀ H', Nx H' → ∃ m', m' < m ∧ Wn (i + 1) m' H') ∧ ∀ x H', J.yld i H x H' →
      LG K cl st g x (L2.wipe σ vs) H' fun σ2 H2 => L2.wipe σ2 vs = L2.wipe σ vs ∧ LT K cl nox c σ2 H2 fun b H3 => if b = true then LP K cl nox e σ2 H3 fun y H4 => ∃ acc, H4 D = some (.lst acc) ∧ acc.length < sizeLine ∧ Nx (upd H4 D (.lst (acc ++ [y]))) else Nx H3) := by
  unfold endLc at q
  cases e1 : lcN g c e vs ds (wipeR vs ρ1) with
  | bad => rw [e1] at q; exact q.elim
  | err x ρ' => rw [e1] at q; exact q.elim
  | ok ys ρ2 =>
    rw [e1] at q
    dsimp only at q
    by_cases hl : decide (ys.length ≤ 16777216) = true
    · rw [if_pos hl] at q
      exact lc_sem s1 it e1 (of_decide_eq_true hl) nd hst fun v F' H' A' B s' g' r nd' dj => q v F' H' A' B s' (g1.trans g') r nd' dj
    · rw [if_neg hl] at q
      exact q.elim
theorem nodup_vs {own : List (Str × Nat)} (h : nodupB (own.map (·.2)) = true) : (own.map (·.2)).Nodup := nodupB_ok h
theorem sub_vs {st : List Nat} {own : List (Str × Nat)} (h : (st.all fun i => (own.map (·.2)).contains i) = true) : ∀ i ∈ st, i ∈ own.map (·.2) := fun i hi => by
  have := List.all_eq_true.mp h i hi
  simpa using this
/-- [elt for tg in iter if ..] -/
theorem ee_lc {elt tg iter : Expr} {ifs : List Expr} {scope : Scope} {own : List (Str × Nat)} {st : List Nat} {pos : Pos} {t : Rho → Res (List D)} {g : GR} {c : Rho → Res Bool} {e : Rho → Res Opd} (hc : X.calm = true) (hN : X.N.Nodup) (hi : EI X cl W tg iter t) (ok : BlkOk X.N X.env.scope scope own) (p : LcP X cl st scope tg ifs elt g c e)
    (nd : nodupB (own.map (·.2)) = true := by decide) (hst : (st.all fun i => (own.map (·.2)).contains i) = true := by decide) (hs : ∀ x, foldedSetIterable iter X.env x = pure x := by intro _; rfl) : EE X cl W (.ListComp elt [⟨tg, iter, ifs, 0⟩] scope pos) (evLc t g c e (own.map (·.2))) := by
  refine PE.imp (pe_lc (g := LG X.K cl st g) (tt := LT X.K cl nox c) (te := LP X.K cl nox e) hc hN hi ok p.g p.c p.e hs) fun σ H Q ⟨F, ρ, A, s, q⟩ => ⟨F, ρ, A, s, ?_⟩
  unfold evLc at q
  cases e1 : t ρ with
  | bad => rw [e1] at q; exact q
  | err x ρ' => rw [e1] at q; exact q
  | ok ds ρ1 =>
    rw [e1] at q
    exact fun J F1 H1 A1 s1 g1 it => lc_end (nodup_vs nd) (sub_vs hst) s1 g1 it q
theorem es_setLc {i : Nat} {y : Str} {py : Pos} {elt tg iter : Expr} {ifs : List Expr} {scope : Scope} {own : List (Str × Nat)} {st : List Nat} {pos spos : Pos} {t : Rho → Res (List D)} {g : GR} {c : Rho → Res Bool} {e : Rho → Res Opd} (hp : i ∉ pn) (hc : X.calm = true) (hN : X.N.Nodup) (hy : X.N[i]? = some y) (hyl : X.env.scope.names.lookup y = some .local)
    (hsw : swapsWith (.ListComp elt [⟨tg, iter, ifs, 0⟩] scope pos) (some (.Name y py)) spos.line X.env = pure true) (hi : EI X cl W tg iter t) (ok : BlkOk X.N X.env.scope scope own) (p : LcP X cl st scope tg ifs elt g c e)
    (nd : nodupB (own.map (·.2)) = true := by decide) (hst : (st.all fun i => (own.map (·.2)).contains i) = true := by decide) (hs : ∀ x, foldedSetIterable iter X.env x = pure x := by intro _; rfl) : ES X cl pn W (.Assign [.Name y py] (.ListComp elt [⟨tg, iter, ifs, 0⟩] scope pos) spos) (sSet i (evLc t g c e (own.map (·.2)))) := by
  refine es_setR hp (ps_setLc (g := LG X.K cl st g) (tt := LT X.K cl nox c) (te := LP X.K cl nox e) hc hN hy hyl hsw hi ok p.g p.c p.e hs) fun σ H Q ⟨F, ρ, A, s, q⟩ => ⟨F, ρ, A, s, ?_⟩
  unfold evLc at q
  cases e1 : t ρ with
  | bad => rw [e1] at q; exact q
  | err x ρ' => rw [e1] at q; exact q
  | ok ds ρ1 =>
    rw [e1] at q
    exact fun J F1 H1 A1 s1 g1 it => lc_end (nodup_vs nd) (sub_vs hst) s1 g1 it q
end
end DL
/-! DL18: enumerate over a tuple. -/
namespace PySem
open Sem (wp)
open AutoSeq1 (wpAny_loadPart')
theorem meets_enumerate_newT (l : Addr) (items : Array Value) (n : Nat) (dct : Option Addr) (sl : Array (Option Value)) :
    Meets (Builtin.«enumerate.__new__» ⟨[.type "enumerate", .ref l], []⟩) (fun _ R s => s.heap.get? l = some { cls := .type "tuple", dict := dct, data := .seq items n, slots := sl } ∧
      R (.ok (.ret (.ref (s.heap.push { cls := .type "tuple_iterator", data := .fields #[.ref l, .int 0 0] }).objs.size)))
        { s with heap := (s.heap.push { cls := .type "tuple_iterator", data := .fields #[.ref l, .int 0 0] }).push { cls := .type "enumerate", data := .fields #[.none, .bool false, .ref s.heap.objs.size, rawInt 0, .none, .none] } }) :=
  .of_wp fun prog w A R s h => by
    obtain ⟨hp, g, d, tk, os⟩ := s
    obtain ⟨hl, h⟩ := h
    have hsub := sub_enumerate
    have hL : Heap.IsTuple (Shared.heap ⟨hp, g, d, tk, os⟩) l items := ⟨_, hl, rfl, n, rfl⟩
    wp_walk using wpAny_loadPart' hl
    refine wpAny_stack_any fun st => wpAny_pure ?_
    split
    · rename_i c _ _ _ _ _
      cases (c == Value.type "enumerate")
      · wp_walk using wpAny_loadPart' hl, wpAny_pyIter_tuple hL
        exact ⟨_, rfl, h⟩
      · wp_walk using wpAny_loadPart' hl, wpAny_pyIter_tuple hL
        exact ⟨_, rfl, h⟩
    · wp_walk using wpAny_loadPart' hl, wpAny_pyIter_tuple hL
      exact ⟨_, rfl, h⟩
theorem call_enumerate_tuple {prog : Program} {w : World} {A : Around} {E : Value → Shared → Prop} {s : Shared} {l : Addr} {items : Array Value} {Q : Value → Shared → Prop} (hL : s.heap.IsTuple l items)
    (h : ∀ h', IsEnum h' (s.heap.objs.size + 1) s.heap.objs.size 0 .none → h'.IsTupleIter s.heap.objs.size l 0 → h'.objs.size = s.heap.objs.size + 2 →
      (∀ b o, s.heap.get? b = some o → h'.get? b = some o) → Q (.ref (s.heap.objs.size + 1)) { s with heap := h' }) :
    wpAny (model prog w) A (call (.type "enumerate") [.ref l]) Q E s := by
  obtain ⟨⟨c, dct, dt, sl⟩, hl, hc, n, hd⟩ := hL
  replace hc : c = .type "tuple" := hc
  replace hd : dt = .seq items n := hd
  subst hc hd
  refine callType_new F.called_enumerate (by decide) (F.typeCall_enumerate_1 _) (F.newCall_enumerate_1 _) (fun obj => F.args_object_init_2 obj _) F.entry_enumerate_new
    (meets_enumerate_newT l items n dct sl) ⟨hl, ?_⟩
  have hz : (s.heap.push { cls := .type "tuple_iterator", data := .fields #[.ref l, .int 0 0] }).objs.size = s.heap.objs.size + 1 := Heap.size_push ..
  show _ ∧ _
  rw [hz]
  have he : IsEnum ((s.heap.push { cls := .type "tuple_iterator", data := .fields #[.ref l, .int 0 0] }).push
      { cls := .type "enumerate", data := .fields #[.none, .bool false, .ref s.heap.objs.size, rawInt 0, .none, .none] }) (s.heap.objs.size + 1) s.heap.objs.size 0 .none := by
    have := Heap.get?_push_size (s.heap.push { cls := .type "tuple_iterator", data := .fields #[.ref l, .int 0 0] })
      (o := { cls := .type "enumerate", data := .fields #[.none, .bool false, .ref s.heap.objs.size, rawInt 0, .none, .none] }) rfl
    rw [hz] at this
    exact this
  exact ⟨⟨_, he, rfl⟩, h _ he ⟨_, Heap.get?_push_of_some _ (Heap.get?_push_size _ rfl), rfl, rfl⟩ (by rw [Heap.size_push, hz]) fun b o x => Heap.get?_push_of_some _ (Heap.get?_push_of_some _ x)⟩
theorem next_enumT_end {prog : Program} {w : World} {A : Around} {E : Value → Shared → Prop} {s : Shared} {e it l : Addr} {i : Nat} {items : Array Value} {c : Int} {old : Value} {Q : Option Value → Shared → Prop} (hh : A.handled = none)
    (he : IsEnum s.heap e it c old) (hit : s.heap.IsTupleIter it l i) (hl : s.heap.IsTuple l items) (hx : items[i]? = none)
    (hQ : ∀ h', Heap.ExtBut it s.heap h' → Q none { s with heap := h' }) : wpAny (model prog w) A (pyNext (.ref e)) Q E s := by
  have hT : s.TypeIs (.ref e) "enumerate" := ⟨_, he, rfl⟩
  unfold pyNext
  refine wpAny_bind (wpAny_attempt (wpAny_callSpecial?_slot (name := Str.ofString "__next__") hT F.slot_enumerate_next
    (wpAny_call_entry F.slot_enumerate_next hT F.entry_enumerate_next ?_ (F.args_enumerate_next_1 _))))
  show wpAny _ _ (field (.ref e) 2 >>= _) _ _ _
  refine wpAny_bind (wpAny_field he rfl (x := .ref it) rfl ?_)
  refine wpAny_bind (wpAny_nextOf_tuple_end (show A.in1.handled = none from hh) hit hl hx fun h' x he' hx' => ?_)
  obtain ⟨o, ho, hc⟩ := hx'
  refine wpAny_bind (wpAny_isInstance (T := "StopIteration") (b := true) ⟨o, ho, hc⟩ isSubtype_stop ?_)
  exact wpAny_pure (hQ _ he')
end PySem
namespace DL
open PySem PySem.Spec PyProof.Rows L2
/-- the tuple at a, its items in new pairs with their numbers -/
def IteT (K : PySem.W.Frag) (a : Addr) : It :=
  ⟨fun i H => ∃ (xs : List V) (x : V), SqT K H a xs ∧ xs[i]? = some x, fun i H v H' => ∃ T x, v = .ref T ∧ H T = none ∧ H' = upd H T (.tup [.int (i : Nat), x]) ∧ ∀ xs, SqT K H a xs → xs[i]? = some x, fun i H => ∃ xs : List V, SqT K H a xs ∧ xs.length ≤ i⟩
theorem turn_enumT {P : Program} {w : World} {K : PySem.W.Frag} {elts : List Expr} {kk : Nat} {tpos : Pos} (a e it : Addr) (hai : a ≠ it) (hae : a ≠ e) :
    Turn P w K (.Tuple elts kk tpos) (IteT K a) [e, it] e (fun i h => (∃ old, IsEnum h e it ((i : Nat) : Int) old) ∧ h.IsTupleIter it a i ∧ e ≠ it) where
  mem := by simp
  obj := fun i h st b hb => by
    obtain ⟨⟨old, he⟩, ⟨o, ho, hc, hd⟩, _⟩ := st
    have e' : b = e ∨ b = it := by simpa using hb
    rcases e' with z | z
    · rw [z]; exact ⟨_, he, fun v q => nomatch q⟩
    · rw [z]; exact ⟨o, ho, fun v q => by rw [hd] at q; cases q⟩
  keep := fun i h h' st k => let ⟨⟨old, he⟩, hi, hne⟩ := st; ⟨⟨old, k e (by simp) _ he⟩, hi.at fun o q => k it (by simp) o q, hne⟩
  item := by
    intro X hP hw hK hc i pins s σ H E I hf st hg
    subst hP hw hK
    obtain ⟨⟨old, he⟩, hit, hne⟩ := st
    obtain ⟨xs, x, hq, hx⟩ := hg
    obtain ⟨its, rv, p, hz⟩ := I.tuple hq
    obtain ⟨u, hu, ru⟩ := rv.get hx
    have hel : e < s.heap.objs.size := Heap.lt_size he
    have hil : it < s.heap.objs.size := by obtain ⟨_, q, _⟩ := hit; exact Heap.lt_size q
    have hd0 : X.A.in1.handled = none := I.ok.hd hc
    have hlt : i < its.toArray.size := by
      have := (List.getElem?_eq_some_iff.mp hu).1
      simpa using this
    refine wpAny_pyNext_enum_itemD (Draws.tuple hd0 it a hai its.toArray) he ⟨hit, p⟩ hlt hne (by simp [hne, Ne.symm hae]) fun u' h' tk hP ho hit' hT hsz hk => ?_
    obtain rfl : u' = u := by
      have : its[i]? = some u' := by simpa using hP
      rw [hu] at this
      exact (Option.some.inj this).symm
    refine ⟨_, rfl, wpAny_letOwnedTupleGo_enum (s := { s with heap := h', toks := tk + 1 }) ho fun h'' he' sb => ?_⟩
    have hT2 : h''.get? s.heap.objs.size = some { cls := .type "tuple", data := .seq #[.int i tk, u'] } := (sb.2 _ (Nat.ne_of_gt hel)).trans hT
    have new : ObjOk X.prog X.w (upd H s.heap.objs.size (.tup [.int (i : Nat), x])) h'' s.heap.objs.size (.tup [.int (i : Nat), x]) :=
      ⟨by show 2 ≤ sizeLine; decide, [.int i tk, u'], .cons ⟨_, rfl⟩ (.cons ru .nil), ⟨_, hT2, rfl, _, rfl⟩⟩
    have I1 : Inv X pins σ (upd H s.heap.objs.size (.tup [.int (i : Nat), x])) { s with heap := h'', toks := tk + 1 } :=
      I.turnedNew (ch := [e, it]) (fun b ob hb q => (sb.2 b (fun z => hb (by simp [z]))).trans (hk b ob (fun z => hb (by simp [z])) (fun z => hb (by simp [z])) q)) hf (Nat.le_refl _) new
    refine ⟨.ref s.heap.objs.size, _, I1, rfl, ⟨_, x, rfl, I.hok.fresh (Nat.le_refl _), rfl, fun ys hy => ?_⟩, ⟨⟨u', ?_⟩, hit'.1.at fun o q => (sb.2 it (Ne.symm hne)).trans q, hne⟩, fun b hb => ?_⟩
    · rw [I.tuple_inj hy hq]; exact hx
    · have e1 : ((i + 1 : Nat) : Int) = (i : Int) + 1 := by omega
      rw [e1]; exact he'
    · have hb' : b < s.heap.objs.size := by
        have e' : b = e ∨ b = it := by simpa using hb
        rcases e' with z | z
        · rw [z]; exact hel
        · rw [z]; exact hil
      rw [upd_ne (Nat.ne_of_lt hb')]
      exact (hf b hb).1
  done := by
    intro X hP hw hK hc i pins s σ H E I hf st hg
    subst hP hw hK
    obtain ⟨⟨old, he⟩, hit, hne⟩ := st
    obtain ⟨xs, hq, hx⟩ := hg
    obtain ⟨its, rv, p, hz⟩ := I.tuple hq
    obtain ⟨f0, f1, f2, f3, f4, f5⟩ := hf it (by simp)
    have hl := rv.length
    exact next_enumT_end (I.ok.hd hc) he hit (show s.heap.IsTuple a its.toArray from p) (by simp; omega) fun h' eb => ⟨rfl, I.turned (t' := s.toks) (fun b o hb q => eb b o hb q) f0 f1 f3 f4 f5⟩
  self := fun A i s Q E st h => let ⟨⟨_, he⟩, _⟩ := st; wpAny_pyIter_enum he h
def iEnumA (K : PySem.W.Frag) (ta : TA) : TI := fun σ H R => ta σ H fun vs H1 => ∃ a xs, vs = [.ref a] ∧ ((SqL K H1 a xs ∧ R (Ite K a) H1) ∨ (SqT K H1 a xs ∧ R (IteT K a) H1))
theorem pi_enumA {X : Cx} {e : Expr} {ta : TA} {p pos tpos : Pos} {elts : List Expr} {kk : Nat} (hg : Gl X "enumerate") (hm : X.mg "enumerate" = none) (ha : PA X [e] ta) (hs : starEach [e] X.env = [(false, eval e X.env)] := by rfl) :
    PI X (.Tuple elts kk tpos) (.Call (.Name "enumerate" p) [e] [] pos) (iEnumA X.K ta) := by
  refine ⟨fun pins s σ H R I h => ?_⟩
  refine Call_ (ld_blt I hg hm boot_enumerate (PyProof.Rows.callWith_type1 (thn (ha.run pos pins s σ H _ I h) fun us s1 ⟨vs, H1, I1, r1, q1⟩ => ?_) hs rfl))
  obtain ⟨a, xs, ex, q⟩ := q1
  subst ex
  cases r1 with
  | cons r rr =>
    cases rr
    cases r
    have fresh2 : ∀ b, b ∈ [s1.heap.objs.size + 1, s1.heap.objs.size] → FpOk X pins H1 b := fun b hb => by
      have e' : b = s1.heap.objs.size + 1 ∨ b = s1.heap.objs.size := by simpa using hb
      have hle : s1.heap.objs.size ≤ b := by
        rcases e' with z | z
        · rw [z]; exact Nat.le_add_right _ _
        · rw [z]; exact Nat.le_refl _
      exact I1.fpOk hle (I1.hok.fresh hle)
    rcases q with ⟨hq, q⟩ | ⟨hq, q⟩
    · obtain ⟨its, rv, p', hz⟩ := I1.list hq
      refine call_enumerate_list p'.isList fun h' he hit hsz hk => wpAny_pyIter_enum he ?_
      have I2 : Inv X pins σ H1 { s1 with heap := h' } := I1.kept (t' := s1.toks) hk
      exact ⟨s1.heap.objs.size + 1, [s1.heap.objs.size + 1, s1.heap.objs.size], _, _, H1, rfl, I2, turn_enum a (s1.heap.objs.size + 1) s1.heap.objs.size, ⟨⟨.none, he⟩, hit, Nat.succ_ne_self _⟩, fun b hb => fresh2 b hb, q⟩
    · obtain ⟨its, rv, p', hz⟩ := I1.tuple hq
      have la : a < s1.heap.objs.size := by
        obtain ⟨o, q1, _⟩ := p'
        exact Heap.lt_size q1
      refine call_enumerate_tuple (show s1.heap.IsTuple a its.toArray from p') fun h' he hit hsz hk => wpAny_pyIter_enum he ?_
      have I2 : Inv X pins σ H1 { s1 with heap := h' } := I1.kept (t' := s1.toks) hk
      exact ⟨s1.heap.objs.size + 1, [s1.heap.objs.size + 1, s1.heap.objs.size], _, _, H1, rfl, I2, turn_enumT a (s1.heap.objs.size + 1) s1.heap.objs.size (Nat.ne_of_lt la) (Nat.ne_of_lt (Nat.lt_succ_of_lt la)), ⟨⟨.none, he⟩, hit, Nat.succ_ne_self _⟩, fun b hb => fresh2 b hb, q⟩
end DL
/-! DL19: enumerate, zip, dicts that are walked (under a lock), fields that are read. -/
namespace DL
open PySem L2 RZ
section
variable {K : PySem.W.Frag} {cl : Nat → Addr} {F F' F1 F2 H H' H1 H2 : Hp} {σ σ' : L2.St} {ρ ρ' : Rho} {A A' : Nat → List Addr}
/-- a tuple that is new -/
theorem newTup {T : Addr} {ds : List D} {vs : List V} (sb : Sb F H) (h : H T = none) (r : Reps K cl F ds vs) : ∃ F2, Sb F2 (upd H T (.tup vs)) ∧ Gr (fun _ => False) (fun _ => False) F H F2 (upd H T (.tup vs)) ∧ Rep K cl F2 (.tup ds) (.ref T) := by
  have fT : F T = none := by
    cases z : F T with
    | none => rfl
    | some o =>
      obtain ⟨x, hx⟩ := rd_some (sb _ _ z).1
      rw [h] at hx
      cases hx
  have le : Le F (upd F T (.tup vs)) := fun a o q => by
    rw [upd_ne (fun z => by rw [z, fT] at q; cases q)]
    exact q
  refine ⟨upd F T (.tup vs), fun a o q => ?_, ⟨fun b o q _ => ?_, le, fun b w _ => ?_, fun _ z => z.elim⟩, T, vs, rfl, upd_same, reps_mono le _ _ r⟩
  · by_cases e : a = T
    · rw [e, upd_same] at q
      cases q
      rw [e]
      exact ⟨.inl upd_same, fun _ => upd_same⟩
    · rw [upd_ne e] at q
      have := sb a o q
      unfold Rd at this ⊢
      rw [upd_ne e]
      exact this
  · rw [upd_ne (fun z => by rw [z, h] at q; cases q)]
    exact q
  · rw [upd_ne (fun z => by rw [z, h] at w; exact w)]
@[simp] def enumF : Nat → List D → List D
  | _, [] => []
  | i, d :: ds => .tup [.v (.int (i : Nat)), d] :: enumF (i + 1) ds
theorem enumF_get : ∀ {ds : List D} {k i : Nat}, (enumF k ds)[i]? = (ds[i]?).map fun d => D.tup [.v (.int (k + i : Nat)), d]
  | [], k, i => by simp
  | d :: ds, k, 0 => by simp
  | d :: ds, k, i + 1 => by
    have e : k + (i + 1) = k + 1 + i := by omega
    rw [e]
    simpa using enumF_get (ds := ds) (k := k + 1) (i := i)
theorem enumF_len : ∀ {ds : List D} {k : Nat}, (enumF k ds).length = ds.length
  | [], _ => rfl
  | d :: ds, k => by simp [enumF_len]
theorem it_enum {P : Addr → Prop} {a : Addr} {vs : List V} {ds : List D} (hq : SqL K F a vs) (r : Reps K cl F ds vs) : ItOk K cl P (Ite K a) F H (enumF 0 ds) := fun i P' F' H' sb g => by
  have q : SqL K H' a vs := sb_sqL sb (g.ff.sqL hq)
  refine ⟨fun d hd => ?_, fun hl => ⟨vs, q, by rw [reps_length r]; rw [enumF_len] at hl; exact hl⟩⟩
  rw [enumF_get] at hd
  cases e : ds[i]? with
  | none => rw [e] at hd; cases hd
  | some d' =>
    rw [e] at hd
    cases hd
    obtain ⟨v, hv, rv⟩ := reps_get r e
    refine ⟨⟨vs, v, q, hv⟩, fun x H2 ⟨T, y, ex, hT, eH, hy⟩ => ?_⟩
    have := hy vs q
    rw [hv] at this
    cases this
    subst eH ex
    rw [Nat.zero_add]
    exact newTup (ds := [.v (.int (i : Nat)), d']) sb hT ⟨_, _, rfl, ⟨rfl, trivial⟩, v, [], rfl, rep_mono g.ff _ _ rv, rfl⟩
theorem it_enumT {P : Addr → Prop} {a : Addr} {vs : List V} {ds : List D} (hq : SqT K F a vs) (r : Reps K cl F ds vs) : ItOk K cl P (IteT K a) F H (enumF 0 ds) := fun i P' F' H' sb g => by
  have q : SqT K H' a vs := sb_sqT sb (g.ff.sqT hq)
  refine ⟨fun d hd => ?_, fun hl => ⟨vs, q, by rw [reps_length r]; rw [enumF_len] at hl; exact hl⟩⟩
  rw [enumF_get] at hd
  cases e : ds[i]? with
  | none => rw [e] at hd; cases hd
  | some d' =>
    rw [e] at hd
    cases hd
    obtain ⟨v, hv, rv⟩ := reps_get r e
    refine ⟨⟨vs, v, q, hv⟩, fun x H2 ⟨T, y, ex, hT, eH, hy⟩ => ?_⟩
    have := hy vs q
    rw [hv] at this
    cases this
    subst eH ex
    rw [Nat.zero_add]
    exact newTup (ds := [.v (.int (i : Nat)), d']) sb hT ⟨_, _, rfl, ⟨rfl, trivial⟩, v, [], rfl, rep_mono g.ff _ _ rv, rfl⟩
@[simp] def zipD : List D → List D → List D
  | a :: as, b :: bs => .tup [a, b] :: zipD as bs
  | _, _ => []
theorem zipD_get : ∀ {as bs : List D} {i : Nat} {d : D}, (zipD as bs)[i]? = some d → ∃ a b, as[i]? = some a ∧ bs[i]? = some b ∧ d = .tup [a, b]
  | [], bs, i, d, h => by simp at h
  | a :: as, [], i, d, h => by simp at h
  | a :: as, b :: bs, 0, d, h => by simp at h; exact ⟨a, b, rfl, rfl, h.symm⟩
  | a :: as, b :: bs, i + 1, d, h => by
    obtain ⟨x, y, h1, h2, h3⟩ := zipD_get (as := as) (bs := bs) (i := i) (by simpa using h)
    exact ⟨x, y, by simpa using h1, by simpa using h2, h3⟩
theorem zipD_len : ∀ {as bs : List D}, (zipD as bs).length = min as.length bs.length
  | [], bs => by simp
  | a :: as, [] => by simp
  | a :: as, b :: bs => by simp [zipD_len]
theorem it_zip {P : Addr → Prop} {a b : Addr} {us vs : List V} {ds es : List D} (hq : SqL K F a us) (r : Reps K cl F ds us) (hq' : SqL K F b vs) (r' : Reps K cl F es vs) : ItOk K cl P (Itz K a b) F H (zipD ds es) := fun i P' F' H' sb g => by
  have q : SqL K H' a us := sb_sqL sb (g.ff.sqL hq)
  have q' : SqL K H' b vs := sb_sqL sb (g.ff.sqL hq')
  refine ⟨fun d hd => ?_, fun hl => ⟨us, vs, q, q', by rw [reps_length r, reps_length r']; rw [zipD_len] at hl; omega⟩⟩
  obtain ⟨d1, d2, e1, e2, rfl⟩ := zipD_get hd
  obtain ⟨v1, hv1, rv1⟩ := reps_get r e1
  obtain ⟨v2, hv2, rv2⟩ := reps_get r' e2
  refine ⟨⟨us, vs, v1, v2, q, q', hv1, hv2⟩, fun x H2 ⟨T, y1, y2, ex, hT, eH, hy1, hy2⟩ => ?_⟩
  have z1 := hy1 us q
  have z2 := hy2 vs q'
  rw [hv1] at z1
  rw [hv2] at z2
  cases z1
  cases z2
  subst eH ex
  exact newTup (ds := [d1, d2]) sb hT ⟨_, _, rfl, rep_mono g.ff _ _ rv1, _, [], rfl, rep_mono g.ff _ _ rv2, rfl⟩
theorem it_zipT {P : Addr → Prop} {a b : Addr} {us vs : List V} {ds es : List D} (hq : SqT K F a us) (r : Reps K cl F ds us) (hq' : SqT K F b vs) (r' : Reps K cl F es vs) : ItOk K cl P (ItzT K a b) F H (zipD ds es) := fun i P' F' H' sb g => by
  have q : SqT K H' a us := sb_sqT sb (g.ff.sqT hq)
  have q' : SqT K H' b vs := sb_sqT sb (g.ff.sqT hq')
  refine ⟨fun d hd => ?_, fun hl => ⟨us, vs, q, q', by rw [reps_length r, reps_length r']; rw [zipD_len] at hl; omega⟩⟩
  obtain ⟨d1, d2, e1, e2, rfl⟩ := zipD_get hd
  obtain ⟨v1, hv1, rv1⟩ := reps_get r e1
  obtain ⟨v2, hv2, rv2⟩ := reps_get r' e2
  refine ⟨⟨us, vs, v1, v2, q, q', hv1, hv2⟩, fun x H2 ⟨T, y1, y2, ex, hT, eH, hy1, hy2⟩ => ?_⟩
  have z1 := hy1 us q
  have z2 := hy2 vs q'
  rw [hv1] at z1
  rw [hv2] at z2
  cases z1
  cases z2
  subst eH ex
  exact newTup (ds := [d1, d2]) sb hT ⟨_, _, rfl, rep_mono g.ff _ _ rv1, _, [], rfl, rep_mono g.ff _ _ rv2, rfl⟩
end
section
variable {X : Cx} {cl : Nat → Addr} {W : WX} {pn : List Nat} {pos p tpos : Pos} {elts : List Expr} {kk : Nat}
@[simp] def evEnum (t : Rho → Res (List Opd)) : Rho → Res (List D) := fun ρ => match t ρ with
  | .ok [.d d] ρ1 => (match seqOf d with
    | some ds => .ok (enumF 0 ds) ρ1
    | none => .bad)
  | .err x ρ1 => .err x ρ1
  | _ => .bad
theorem ei_enum {a : Expr} {t : Rho → Res (List Opd)} (hg : Gl X "enumerate") (hm : X.mg "enumerate" = none) (ha : EA X cl W [a] t) (hs : starEach [a] X.env = [(false, eval a X.env)] := by rfl) : EI X cl W (.Tuple elts kk tpos) (.Call (.Name "enumerate" p) [a] [] pos) (evEnum t) := by
  refine PI.imp (pi_enumA hg hm ha hs) fun σ H R ⟨F, ρ, A, s, q⟩ => ⟨F, ρ, A, s, ?_⟩
  unfold evEnum at q
  cases e1 : t ρ with
  | bad => rw [e1] at q; exact q.elim
  | err x ρ' => rw [e1] at q; exact q
  | ok os ρ1 =>
    rw [e1] at q
    intro vs F1 H1 A1 s1 g1 ps
    match os, ps, q with
    | [.d d], ⟨u, us, e, r, e4⟩, q =>
      obtain rfl : us = [] := e4
      dsimp only at q
      cases d with
      | lst ds =>
        obtain ⟨a, xs, ea, hq, rr⟩ := r
        exact ⟨a, xs, by rw [e, ea], .inl ⟨sb_sqL s1.sub (SqL.of hq), q _ F1 H1 A1 s1 g1 (it_enum (SqL.of hq) rr)⟩⟩
      | wls ds => exact q.elim
      | tup ds =>
        obtain ⟨a, xs, ea, hq, rr⟩ := r
        exact ⟨a, xs, by rw [e, ea], .inr ⟨sb_sqT s1.sub (SqT.of hq), q _ F1 H1 A1 s1 g1 (it_enumT (SqT.of hq) rr)⟩⟩
      | wtp ds =>
        obtain ⟨a, xs, ea, hq, rr⟩ := r
        exact ⟨a, xs, by rw [e, ea], .inr ⟨sb_sqT s1.sub hq, q _ F1 H1 A1 s1 g1 (it_enumT hq rr)⟩⟩
      | v _ => exact q.elim
      | dic _ => exact q.elim
      | dct _ => exact q.elim
      | ins _ _ => exact q.elim
      | exc _ _ => exact q.elim
    | [], _, q => exact q.elim
    | [.b _], _, q => exact q.elim
    | .b _ :: _ :: _, _, q => exact q.elim
    | .d _ :: _ :: _, _, q => exact q.elim
@[simp] def evZip (t : Rho → Res (List Opd)) : Rho → Res (List D) := fun ρ => match t ρ with
  | .ok [.d (.lst as), .d (.lst bs)] ρ1 => .ok (zipD as bs) ρ1
  | .ok [.d (.tup as), .d (.tup bs)] ρ1 => .ok (zipD as bs) ρ1
  | .err x ρ1 => .err x ρ1
  | _ => .bad
theorem ei_zip {a b : Expr} {t : Rho → Res (List Opd)} (hg : Gl X "zip") (hm : X.mg "zip" = none) (ha : EA X cl W [a, b] t) (hs : starEach [a, b] X.env = (false, eval a X.env) :: starEach [b] X.env := by rfl) (hpl : (backTo pos (starEach [b] X.env)).any (·.1) = false := by rfl) :
    EI X cl W (.Tuple elts kk tpos) (.Call (.Name "zip" p) [a, b] [] pos) (evZip t) := by
  refine PI.imp (pi_zipA hg hm ha hs hpl) fun σ H R ⟨F, ρ, A, s, q⟩ => ⟨F, ρ, A, s, ?_⟩
  unfold evZip at q
  cases e1 : t ρ with
  | bad => rw [e1] at q; exact q.elim
  | err x ρ' => rw [e1] at q; exact q
  | ok os ρ1 =>
    rw [e1] at q
    intro vs F1 H1 A1 s1 g1 ps
    split at q
    · rename_i ds ρ2 e2
      split at e2
      · rename_i as bs ρ3 e3
        cases e3
        cases e2
        obtain ⟨u, us, e, ⟨a1, xs, ea, hq, rr⟩, u2, us2, e', ⟨a2, ys, ea2, hq2, rr2⟩, e4⟩ := ps
        obtain rfl : us2 = [] := e4
        exact ⟨a1, a2, xs, ys, by rw [e, ea, e', ea2], .inl ⟨sb_sqL s1.sub (SqL.of hq), sb_sqL s1.sub (SqL.of hq2), q _ F1 H1 A1 s1 g1 (it_zip (SqL.of hq) rr (SqL.of hq2) rr2)⟩⟩
      · rename_i as bs ρ3 e3
        cases e3
        cases e2
        obtain ⟨u, us, e, ⟨a1, xs, ea, hq, rr⟩, u2, us2, e', ⟨a2, ys, ea2, hq2, rr2⟩, e4⟩ := ps
        obtain rfl : us2 = [] := e4
        exact ⟨a1, a2, xs, ys, by rw [e, ea, e', ea2], .inr ⟨sb_sqT s1.sub (SqT.of hq), sb_sqT s1.sub (SqT.of hq2), q _ F1 H1 A1 s1 g1 (it_zipT (SqT.of hq) rr (SqT.of hq2) rr2)⟩⟩
      · rename_i e3; cases e3
      · cases e2
    · rename_i x ρ2 e2
      split at e2
      · cases e2
      · cases e2
      · rename_i e3; cases e3
      · cases e2
    · exact q.elim

/-! ### what only looks: a name, a field of it -/
def EL (X : Cx) (cl : Nat → Addr) (e : Expr) (l : Rho → Option (D × Rho)) : Prop := ∃ u : TE, PE X e u ∧ ∀ F H σ ρ A d ρ', Sto X.K cl F H σ ρ A → l ρ = some (d, ρ') → ∃ F' A' v, Sto X.K cl F' H σ ρ' A' ∧ Gr (ownd A) (ownd A') F H F' H ∧ Rep X.K cl F' d v ∧ ∀ (Q : VK) H', Sb F' H' → Q v H' → u σ H' Q
@[simp] def lkName (i : Nat) : Rho → Option (D × Rho) := fun ρ => match gt ρ i with
  | .gone => none
  | .fz d => some (d, ρ)
  | o => some (o.toD, ρ.set i (.fz o.toD))
theorem el_name {e : Expr} (i : Nat) (h : PE X e (tVar i)) : EL X cl e (lkName i) := by
  refine ⟨_, h, fun F H σ ρ A d ρ' s e => ?_⟩
  have n : gt ρ i ≠ .gone := fun z => by
    unfold lkName at e
    rw [z] at e
    cases e
  obtain ⟨v, ev, r⟩ := (s.sl i).own n
  have own : ρ' = ρ.set i (.fz (gt ρ i).toD) → d = (gt ρ i).toD → ∃ F' A' v, Sto X.K cl F' H σ ρ' A' ∧ Gr (ownd A) (ownd A') F H F' H ∧ Rep X.K cl F' d v ∧ ∀ (Q : VK) H', Sb F' H' → Q v H' → tVar i σ H' Q := fun e1 e2 => by
    obtain ⟨F2, A2, s2, r2, g2⟩ := freezeSlot s n ev
    rw [e1, e2]
    exact ⟨F2, A2, v, s2, g2, r2, fun Q H' _ q => ⟨v, ev, q⟩⟩
  unfold lkName at e
  cases z : gt ρ i with
  | gone => exact absurd z n
  | fz d' =>
    rw [z] at e r
    cases e
    exact ⟨F, A, v, s, Gr.refl, r.2, fun Q H' _ q => ⟨v, ev, q⟩⟩
  | tup _ => rw [z] at e; cases e; exact own (by rw [z]) (by rw [z])
  | lst _ => rw [z] at e; cases e; exact own (by rw [z]) (by rw [z])
  | dic _ => rw [z] at e; cases e; exact own (by rw [z]) (by rw [z])
  | dct _ => rw [z] at e; cases e; exact own (by rw [z]) (by rw [z])
  | ins _ _ => rw [z] at e; cases e; exact own (by rw [z]) (by rw [z])
/-- class c has the field f at its instances, and not as a thing of its own -/
def FldOk (K : PySem.W.Frag) (cl : Nat → Addr) (cs : List Nat) (f : Str) : Prop := ∀ c ∈ cs, Cls K (cl c) ∧ NoAttr K (cl c) f
def aval (fs : List (Str × D)) (f : Str) : Option D := fs.lookup f
theorem aval_rep {K : PySem.W.Frag} {F : Hp} : ∀ {fs : List (Str × D)} {vs : List (Str × V)} {f : Str} {d : D}, RepA K cl F fs vs → aval fs f = some d → ∃ v, vs.lookup f = some v ∧ Rep K cl F d v
  | [], _, _, _, _, h => by cases h
  | (k, d') :: fs, _, f, d, ⟨u, us, e, r, q⟩, h => by
    subst e
    unfold aval at h
    rw [List.lookup_cons] at h ⊢
    cases hk : f == k with
    | true =>
      rw [hk] at h
      cases h
      exact ⟨u, rfl, r⟩
    | false =>
      rw [hk] at h
      exact aval_rep q h
@[simp] def lkFld (cs : List Nat) (f : Str) (l : Rho → Option (D × Rho)) : Rho → Option (D × Rho) := fun ρ => match l ρ with
  | some (.ins c fs, ρ') => if cs.contains c = true then (match aval fs f with
    | some d => some (d, ρ')
    | none => none) else none
  | _ => none
theorem el_fld {e : Expr} {cs : List Nat} {f : Str} {l : Rho → Option (D × Rho)} (h : EL X cl e l) (ok : FldOk X.K cl cs f) (hb : attributeBase e f X.env (eval e X.env) = eval e X.env := by rfl) : EL X cl (.Attribute e f pos) (lkFld cs f l) := by
  obtain ⟨u, hu, k⟩ := h
  refine ⟨_, pe_fld hu hb, fun F H σ ρ A d ρ' s e1 => ?_⟩
  unfold lkFld at e1
  split at e1
  · rename_i c fs ρ2 e2
    split at e1
    · rename_i hc
      cases e3 : aval fs f with
      | none => rw [e3] at e1; cases e1
      | some d' =>
        rw [e3] at e1
        cases e1
        obtain ⟨F', A', v, s', g', ⟨a, dx, vs, ev, hF, ra⟩, q⟩ := k F H σ ρ A _ _ s e2
        obtain ⟨v', h1, h2⟩ := aval_rep ra e3
        obtain ⟨c1, c2⟩ := ok c (by simpa using hc)
        refine ⟨F', A', v', s', g', h2, fun Q H' sb hq => q _ H' sb ⟨a, _, dx, vs, v', ev, (sb _ _ hF).2 rfl, c1, c2, h1, hq⟩⟩
    · cases e1
  · cases e1
/-- as a value -/
@[simp] def evL (l : Rho → Option (D × Rho)) : Rho → Res OV := fun ρ => match l ρ with
  | some (d, ρ') => .ok (.o (.fz d)) ρ'
  | none => .bad
theorem ee_l {e : Expr} {l : Rho → Option (D × Rho)} (h : EL X cl e l) : EE X cl W e (evL l) := by
  obtain ⟨u, hu, k⟩ := h
  refine PE.imp hu fun σ H Q ⟨F, ρ, A, s, q⟩ => ?_
  unfold evL at q
  cases e1 : l ρ with
  | none => rw [e1] at q; exact q.elim
  | some z =>
    obtain ⟨d, ρ'⟩ := z
    rw [e1] at q
    obtain ⟨F', A', v, s', g', r, kk⟩ := k F H σ ρ A _ _ s e1
    exact kk Q H s'.sub (q v F' H A' [] s' (gr1 g') ⟨rfl, r⟩ List.nodup_nil fun b z => by cases z)
/-! ### locks -/
theorem di_mut {u : HO} (h : isDi u = true) : Mut (some u) := by
  cases u <;> first | trivial | cases h
section
variable {K : PySem.W.Frag} {F F' H H' : Hp} {σ σ' : L2.St} {ρ ρ' : Rho} {A A' : Nat → List Addr} {P P' : Addr → Prop} {d : Addr} {u : HO} {od : Obj}
theorem lock_at (g : GrE P P' F (upd H d (.frz od u)) F' H') (n : ¬ P d) : H' d = some (.frz od u) := by
  rcases g.keep d _ upd_same n with z | ⟨_, z, _⟩
  · exact z
  · cases z
theorem lock_gr (g : Gr P P' F (upd H d (.frz od u)) F' H') (hF : F d = some u) (hH : H d = some u) : Gr P P' F H F' (upd H' d u) := by
  refine ⟨fun b o e n => ?_, g.ff, fun b w n => ?_, fun b h => ?_⟩
  · by_cases z : b = d
    · rw [z, hH] at e
      cases e
      rw [z, upd_same]
    · rw [upd_ne z]
      exact g.keep b o (by rw [upd_ne z]; exact e) n
  · by_cases z : b = d
    · rw [z, hF]
      exact g.ff d u hF
    · exact g.new b (by rw [upd_ne z]; exact w) n
  · rcases g.ow b h with z | z
    · exact .inl z
    · by_cases y : b = d
      · rw [y, upd_same] at z; cases z
      · rw [upd_ne y] at z; exact .inr z
theorem lock_grE (g : GrE P P' F (upd H d (.frz od u)) F' H') (hF : F d = some u) (hH : H d = some u) (hu : isDi u = true) (n : ¬ P d) : GrE P P' F H F' H' := by
  refine ⟨fun b o e nb => ?_, g.ff, fun b w nb => ?_, fun b h => ?_⟩
  · by_cases z : b = d
    · rw [z, hH] at e
      cases e
      rw [z]
      exact .inr ⟨hF, hu, od, lock_at g n⟩
    · exact g.keep b o (by rw [upd_ne z]; exact e) nb
  · by_cases z : b = d
    · rw [z, hF]
      exact g.ff d u hF
    · exact g.new b (by rw [upd_ne z]; exact w) nb
  · rcases g.ow b h with z | z
    · exact .inl z
    · by_cases y : b = d
      · rw [y, upd_same] at z; cases z
      · rw [upd_ne y] at z; exact .inr z
theorem lock_sb (sb : Sb F H) (hF : F d = some u) (hu : isDi u = true) : Sb F (upd H d (.frz od u)) := fun a o q => by
  by_cases z : a = d
  · rw [z, hF] at q
    cases q
    rw [z]
    exact ⟨.inr ⟨od, upd_same⟩, fun w => by rw [hu] at w; cases w⟩
  · have := sb a o q
    unfold Rd at this ⊢
    rw [upd_ne z]
    exact this
theorem unlock_sb (sb : Sb F H) (hF : F d = some u) : Sb F (upd H d u) := fun a o q => by
  by_cases z : a = d
  · rw [z, hF] at q
    cases q
    rw [z]
    exact ⟨.inl upd_same, fun _ => upd_same⟩
  · have := sb a o q
    unfold Rd at this ⊢
    rw [upd_ne z]
    exact this
theorem Sto.atd (s : Sto K cl F H σ ρ A) (hF : F d = some u) : ¬ ownd A d := fun z => by rw [(s.at_ z).1] at hF; cases hF
theorem Sto.lock (s : Sto K cl F H σ ρ A) (hF : F d = some u) (hu : isDi u = true) : Sto K cl F (upd H d (.frz od u)) σ ρ A :=
  s.mono (Le.refl _) (lock_sb s.sub hF hu) fun b hb => ⟨(s.at_ hb).1, fun y hy => by rw [upd_ne (fun z => s.atd hF (by rw [← z]; exact hb))]; exact hy⟩
theorem Sto.unlock (s : Sto K cl F H σ ρ A) (hF : F d = some u) : Sto K cl F (upd H d u) σ ρ A :=
  s.mono (Le.refl _) (unlock_sb s.sub hF) fun b hb => ⟨(s.at_ hb).1, fun y hy => by rw [upd_ne (fun z => s.atd hF (by rw [← z]; exact hb))]; exact hy⟩
theorem VOk.unlock {ov : OV} {v : V} {B : List Addr} (h : VOk K cl F H σ ov v B) (hF : F d = some u) : VOk K cl F (upd H d u) σ ov v B := by
  cases ov with
  | b i => exact h
  | o o => exact own_mono (Le.refl _) _ _ _ (fun a ha => ⟨(own_at _ _ _ h a ha).1, fun y hy => by rw [upd_ne (fun z => by rw [← z, (own_at _ _ _ h a ha).1] at hF; cases hF)]; exact hy⟩) h
theorem Wants.lock {E : Ends} {r : Res Fl} (hF : F d = some u) (hu : isDi u = true) (hH : H d = some u) (s : Sto K cl F H σ ρ A) (q : Wants K cl pn W E σ A F H r) :
    Wants K cl pn W ⟨fun σ' H' => H' d = some (.frz od u) ∧ E.nx σ' (upd H' d u), fun v H' => H' d = some (.frz od u) ∧ E.rt v (upd H' d u), fun σ' H' => H' d = some (.frz od u) ∧ E.bk σ' (upd H' d u), fun σ' H' => H' d = some (.frz od u) ∧ E.ct σ' (upd H' d u)⟩ σ A F (upd H d (.frz od u)) r := by
  have n := s.atd hF
  cases r with
  | bad => exact q
  | err x ρ' => exact fun σ' F' H' A' c a s' g' p' ex => q σ' F' H' A' c a s' (lock_grE g' hF hH hu n) p' ex
  | ok f ρ' =>
    cases f with
    | next => exact fun σ' F' H' A' s' g' p' => ⟨lock_at g'.e n, q σ' F' _ A' (s'.unlock (g'.ff _ _ hF)) (lock_gr g' hF hH) p'⟩
    | brk => exact fun σ' F' H' A' s' g' p' => ⟨lock_at g'.e n, q σ' F' _ A' (s'.unlock (g'.ff _ _ hF)) (lock_gr g' hF hH) p'⟩
    | cont => exact fun σ' F' H' A' s' g' p' => ⟨lock_at g'.e n, q σ' F' _ A' (s'.unlock (g'.ff _ _ hF)) (lock_gr g' hF hH) p'⟩
    | ret ov => exact fun v σ' F' H' A' B s' g' p' r' nd dj => ⟨lock_at g'.e n, q v σ' F' _ A' B (s'.unlock (g'.ff _ _ hF)) (lock_gr g' hF hH) p' (r'.unlock (g'.ff _ _ hF)) nd dj⟩
end

/-! ### dicts that are walked -/
structure DSrc (X : Cx) (cl : Nat → Addr) (tg e : Expr) (t : Rho → Option (List D × Rho)) : Prop where
  ex : ∃ wi, PI X tg e wi ∧ ∀ F H σ ρ A ds ρ', Sto X.K cl F H σ ρ A → t ρ = some (ds, ρ') → ∃ F' A' a u, Sto X.K cl F' H σ ρ' A' ∧ Gr (ownd A) (ownd A') F H F' H ∧ F' a = some u ∧ isDi u = true ∧
    ∀ H' o R, Sb F' H' → H' a = some (.frz o u) → (∀ J, ItOk X.K cl (ownd A') J F' H' ds → R J H') → wi σ H' R
@[simp] def keyD : Key → D
  | .inl i => .v (.int i)
  | .inr z => .v (.str z)
theorem keyD_rep {K : PySem.W.Frag} {F : Hp} {k : Key} : Rep K cl F (keyD k) (kV k) := by
  cases k with
  | inl i => exact ⟨rfl, trivial⟩
  | inr z => exact ⟨rfl, trivial⟩
theorem keysD_rep {K : PySem.W.Frag} {F : Hp} : ∀ {ks : List Key}, Reps K cl F (ks.map keyD) (ks.map kV)
  | [] => rfl
  | k :: ks => ⟨_, _, rfl, keyD_rep, keysD_rep⟩
@[simp] def dkeys : List (Key × D) → List D
  | [] => []
  | (k, _) :: kvs => keyD k :: dkeys kvs
@[simp] def ditems : List (Key × D) → List D
  | [] => []
  | (k, d) :: kvs => .tup [keyD k, d] :: ditems kvs
@[simp] def tkeys : List (List Key × D) → List D
  | [] => []
  | (k, _) :: kvs => .tup (k.map keyD) :: tkeys kvs
@[simp] def evKeys (l : Rho → Option (D × Rho)) : Rho → Option (List D × Rho) := fun ρ => match l ρ with
  | some (.dic kvs, ρ') => some (dkeys kvs, ρ')
  | some (.dct kvs, ρ') => some (tkeys kvs, ρ')
  | _ => none
@[simp] def evItems (l : Rho → Option (D × Rho)) : Rho → Option (List D × Rho) := fun ρ => match l ρ with
  | some (.dic kvs, ρ') => some (ditems kvs, ρ')
  | _ => none
theorem repK_get {K : PySem.W.Frag} {F : Hp} : ∀ {kvs : List (Key × D)} {vs : List (Key × V)} {i : Nat}, RepK K cl F kvs vs → vs.length = kvs.length ∧ (∀ {d : D}, (dkeys kvs)[i]? = some d → ∃ k v, vs[i]? = some (k, v) ∧ d = keyD k) ∧ (∀ {d : D}, (ditems kvs)[i]? = some d → ∃ k v d', vs[i]? = some (k, v) ∧ d = .tup [keyD k, d'] ∧ Rep K cl F d' v)
  | [], _, i, h => by
    rw [show _ = [] from h]
    exact ⟨rfl, fun h => by simp at h, fun h => by simp at h⟩
  | (k, d) :: kvs, _, 0, ⟨u, us, e, r, q⟩ => by
    subst e
    refine ⟨by rw [List.length_cons, List.length_cons, (repK_get (i := 0) q).1], fun {d'} h => ?_, fun {d'} h => ?_⟩
    · simp at h
      exact ⟨k, u, rfl, h.symm⟩
    · simp at h
      exact ⟨k, u, d, rfl, h.symm, r⟩
  | (k, d) :: kvs, _, i + 1, ⟨u, us, e, r, q⟩ => by
    subst e
    obtain ⟨h1, h2, h3⟩ := repK_get (i := i) q
    refine ⟨by rw [List.length_cons, List.length_cons, h1], fun {d'} h => ?_, fun {d'} h => ?_⟩
    · obtain ⟨k', v, e1, e2⟩ := h2 (by simpa using h)
      exact ⟨k', v, by simpa using e1, e2⟩
    · obtain ⟨k', v, d'', e1, e2⟩ := h3 (by simpa using h)
      exact ⟨k', v, d'', by simpa using e1, e2⟩
theorem repT_get {K : PySem.W.Frag} {F : Hp} : ∀ {kvs : List (List Key × D)} {vs : List (List Key × V)} {i : Nat}, RepT K cl F kvs vs → vs.length = kvs.length ∧ (∀ {d : D}, (tkeys kvs)[i]? = some d → ∃ k v, vs[i]? = some (k, v) ∧ d = .tup (k.map keyD))
  | [], _, i, h => by
    rw [show _ = [] from h]
    exact ⟨rfl, fun h => by simp at h⟩
  | (k, d) :: kvs, _, 0, ⟨u, us, e, r, q⟩ => by
    subst e
    refine ⟨by rw [List.length_cons, List.length_cons, (repT_get (i := 0) q).1], fun {d'} h => ?_⟩
    simp at h
    exact ⟨k, u, rfl, h.symm⟩
  | (k, d) :: kvs, _, i + 1, ⟨u, us, e, r, q⟩ => by
    subst e
    obtain ⟨h1, h2⟩ := repT_get (i := i) q
    refine ⟨by rw [List.length_cons, List.length_cons, h1], fun {d'} h => ?_⟩
    obtain ⟨k', v, e1, e2⟩ := h2 (by simpa using h)
    exact ⟨k', v, by simpa using e1, e2⟩
theorem dkeys_len : ∀ {kvs : List (Key × D)}, (dkeys kvs).length = kvs.length
  | [] => rfl
  | _ :: kvs => by simp [dkeys_len]
theorem ditems_len : ∀ {kvs : List (Key × D)}, (ditems kvs).length = kvs.length
  | [] => rfl
  | _ :: kvs => by simp [ditems_len]
theorem tkeys_len : ∀ {kvs : List (List Key × D)}, (tkeys kvs).length = kvs.length
  | [] => rfl
  | _ :: kvs => by simp [tkeys_len]
section
variable {K : PySem.W.Frag} {F H : Hp} {P : Addr → Prop} {a : Addr} {o : Obj}
theorem it_keys {kvs : List (Key × D)} {vs : List (Key × V)} (n : ¬ P a) (h : H a = some (.frz o (.dK vs))) (r : RepK K cl F kvs vs) : ItOk K cl P (Itk a o vs) F H (dkeys kvs) := fun i P' F' H' sb g => by
  obtain ⟨h1, h2, _⟩ := repK_get (i := i) r
  have ha := g.keep a _ h n
  refine ⟨fun d hd => ?_, fun hl => ⟨ha, by rw [h1]; rw [dkeys_len] at hl; exact hl⟩⟩
  obtain ⟨k, v, e1, rfl⟩ := h2 hd
  refine ⟨⟨ha, (List.getElem?_eq_some_iff.mp e1).1⟩, fun x H2 ⟨eH, k', v', e2, ex⟩ => ?_⟩
  subst eH ex
  rw [e1] at e2
  cases e2
  exact ⟨F', sb, Gr.refl, keyD_rep⟩
theorem it_items {kvs : List (Key × D)} {vs : List (Key × V)} (n : ¬ P a) (h : H a = some (.frz o (.dK vs))) (r : RepK K cl F kvs vs) : ItOk K cl P (Iti a o vs) F H (ditems kvs) := fun i P' F' H' sb g => by
  obtain ⟨h1, _, h3⟩ := repK_get (i := i) r
  have ha := g.keep a _ h n
  refine ⟨fun d hd => ?_, fun hl => ⟨ha, by rw [h1]; rw [ditems_len] at hl; exact hl⟩⟩
  obtain ⟨k, v, d', e1, rfl, rv⟩ := h3 hd
  refine ⟨⟨ha, (List.getElem?_eq_some_iff.mp e1).1⟩, fun x H2 ⟨T, k', v', e2, ex, hT, eH⟩ => ?_⟩
  subst eH ex
  rw [e1] at e2
  cases e2
  exact newTup (ds := [keyD k, d']) sb hT ⟨_, _, rfl, keyD_rep, _, [], rfl, rep_mono g.ff _ _ rv, rfl⟩
theorem it_keysT {kvs : List (List Key × D)} {vs : List (List Key × V)} (n : ¬ P a) (h : H a = some (.frz o (.dT vs))) (r : RepT K cl F kvs vs) : ItOk K cl P (Itkt a o vs) F H (tkeys kvs) := fun i P' F' H' sb g => by
  obtain ⟨h1, h2⟩ := repT_get (i := i) r
  have ha := g.keep a _ h n
  refine ⟨fun d hd => ?_, fun hl => ⟨ha, by rw [h1]; rw [tkeys_len] at hl; exact hl⟩⟩
  obtain ⟨k, v, e1, rfl⟩ := h2 hd
  refine ⟨⟨ha, (List.getElem?_eq_some_iff.mp e1).1⟩, fun x H2 ⟨eH, k', v', q, e2, ex, hq⟩ => ?_⟩
  subst eH ex
  rw [e1] at e2
  cases e2
  have agree : ∀ y, F' q = some y → y = .tup (k.map kV) := fun y hy => by
    have := (sb q y hy)
    rcases this.1 with z | ⟨x, z⟩
    · rw [hq] at z; cases z; rfl
    · rw [hq] at z; cases z
  have le : Le F' (upd F' q (.tup (k.map kV))) := fun b y hy => by
    by_cases z : b = q
    · rw [z] at hy ⊢
      rw [upd_same, agree y hy]
    · rw [upd_ne z]; exact hy
  refine ⟨upd F' q (.tup (k.map kV)), fun b y hy => ?_, ⟨fun _ _ h _ => h, le, fun b w _ => ?_, fun _ z => z.elim⟩, q, k.map kV, rfl, upd_same, keysD_rep⟩
  · by_cases z : b = q
    · rw [z, upd_same] at hy
      cases hy
      rw [z]
      exact ⟨.inl hq, fun _ => hq⟩
    · rw [upd_ne z] at hy; exact sb b y hy
  · rw [upd_ne (fun z => by rw [z, hq] at w; exact w)]
end
theorem ds_keys {tg e : Expr} {l : Rho → Option (D × Rho)} (h : EL X cl e l) : DSrc X cl tg e (evKeys l) := by
  obtain ⟨u, hu, k⟩ := h
  refine ⟨_, pi_keys hu, fun F H σ ρ A ds ρ' s e1 => ?_⟩
  unfold evKeys at e1
  split at e1
  · rename_i kvs ρ2 e2
    cases e1
    obtain ⟨F', A', v, s', g', ⟨a, vs, ev, hF, ra⟩, q⟩ := k F H σ ρ A _ _ s e2
    refine ⟨F', A', a, .dK vs, s', g', hF, rfl, fun H' o R sb hf hR => q _ H' sb ⟨a, o, ev, .inl ⟨vs, hf, hR _ (it_keys (s'.atd hF) hf ra)⟩⟩⟩
  · rename_i kvs ρ2 e2
    cases e1
    obtain ⟨F', A', v, s', g', ⟨a, vs, ev, hF, ra⟩, q⟩ := k F H σ ρ A _ _ s e2
    refine ⟨F', A', a, .dT vs, s', g', hF, rfl, fun H' o R sb hf hR => q _ H' sb ⟨a, o, ev, .inr ⟨vs, hf, hR _ (it_keysT (s'.atd hF) hf ra)⟩⟩⟩
  · cases e1
theorem ds_items {apos cpos : Pos} {e : Expr} {l : Rho → Option (D × Rho)} (h : EL X cl e l) (hbase : attributeBase e "items" X.env (eval e X.env) = eval e X.env := by rfl) (hline : (apos.endLine == cpos.line) = true := by rfl) :
    DSrc X cl (.Tuple elts kk tpos) (.Call (.Attribute e "items" apos) [] [] cpos) (evItems l) := by
  obtain ⟨u, hu, k⟩ := h
  refine ⟨_, pi_items hu hbase hline, fun F H σ ρ A ds ρ' s e1 => ?_⟩
  unfold evItems at e1
  split at e1
  · rename_i kvs ρ2 e2
    cases e1
    obtain ⟨F', A', v, s', g', ⟨a, vs, ev, hF, ra⟩, q⟩ := k F H σ ρ A _ _ s e2
    refine ⟨F', A', a, .dK vs, s', g', hF, rfl, fun H' o R sb hf hR => q _ H' sb ⟨a, o, vs, ev, hf, hR _ (it_items (s'.atd hF) hf ra)⟩⟩
  · cases e1
@[simp] def sForD (t : Rho → Option (List D × Rho)) (g : GR) (b : Rho → Res Fl) : Rho → Res Fl := fun ρ => match t ρ with
  | some (ds, ρ1) => forN g b ds ρ1
  | none => .bad
theorem es_forD {tg iter : Expr} {body : List Stmt} {st : List Nat} {t : Rho → Option (List D × Rho)} {g : GR} {b : Rho → Res Fl} (hp : PassesOwn (model X.prog X.w) X.A X.env X.xe) (hc : X.calm = true) (hi : DSrc X cl tg iter t) (hg : EG X cl st tg g) (hb : ESs X cl pn W body b)
    (hst : (st.all fun i => !pn.contains i) = true := by decide) (hs : ∀ x, foldedSetIterable iter X.env x = pure x := by intro _; rfl) : ES X cl pn W (.For tg iter body [] pos) (sForD t g b) := by
  obtain ⟨wi, hpi, k⟩ := hi.ex
  refine PS.imp (PS.or (ps_lock (ps_for hp hc hpi hg hb hs)) (ps_for hp hc hpi hg hb hs)) fun E σ H ⟨F, ρ, A, s, q⟩ => ?_
  unfold sForD at q
  cases e : t ρ with
  | none => rw [e] at q; exact q.elim
  | some z =>
    obtain ⟨ds, ρ1⟩ := z
    rw [e] at q
    obtain ⟨F', A', a, u, s', g', hF, hu, kk⟩ := k F H σ ρ A _ _ s e
    have q' : Wants X.K cl pn W E σ A' F' H (forN g b ds ρ1) := Wants.pre q g' fun _ _ => rfl
    rcases (s'.sub _ _ hF).1 with hH | ⟨o, hH⟩
    · exact .inl ⟨a, u, hH, di_mut hu, fun od => kk _ od _ (lock_sb s'.sub hF hu) upd_same fun J it => for_core hst (s'.lock hF hu) it (q'.lock hF hu hH s')⟩
    · exact .inr (kk H o _ s'.sub hH fun J it => for_core hst s' it q')
/-! comprehensions over a dict -/
@[simp] def evLcD (t : Rho → Option (List D × Rho)) (g : GR) (c : Rho → Res Bool) (e : Rho → Res Opd) (vs : List Nat) : Rho → Res OV := fun ρ => match t ρ with
  | some (ds, ρ1) => endLc ρ1 vs (lcN g c e vs ds (wipeR vs ρ1))
  | none => .bad
theorem lcD_sem {elt tg iter : Expr} {st vs : List Nat} {t : Rho → Option (List D × Rho)} {g : GR} {c : Rho → Res Bool} {e : Rho → Res Opd} {wi : TI} (nd : vs.Nodup) (hst : ∀ i ∈ st, i ∈ vs)
    (k : ∀ F H σ ρ A ds ρ', Sto X.K cl F H σ ρ A → t ρ = some (ds, ρ') → ∃ F' A' a u, Sto X.K cl F' H σ ρ' A' ∧ Gr (ownd A) (ownd A') F H F' H ∧ F' a = some u ∧ isDi u = true ∧ ∀ H' o R, Sb F' H' → H' a = some (.frz o u) → (∀ J, ItOk X.K cl (ownd A') J F' H' ds → R J H') → wi σ H' R) :
    ∀ σ H Q, LE X.K cl W (evLcD t g c e vs) σ H Q → tLockE (tLc wi (LG X.K cl st g) (LT X.K cl nox c) (LP X.K cl nox e) vs) σ H Q ∨ tLc wi (LG X.K cl st g) (LT X.K cl nox c) (LP X.K cl nox e) vs σ H Q := fun σ H Q ⟨F, ρ, A, s, q⟩ => by
  unfold evLcD at q
  cases e1 : t ρ with
  | none => rw [e1] at q; exact q.elim
  | some z =>
    obtain ⟨ds, ρ1⟩ := z
    rw [e1] at q
    obtain ⟨F', A', a, u, s', g', hF, hu, kk⟩ := k F H σ ρ A _ _ s e1
    rcases (s'.sub _ _ hF).1 with hH | ⟨o, hH⟩
    · refine .inl ⟨a, u, hH, di_mut hu, fun od => kk _ od _ (lock_sb s'.sub hF hu) upd_same fun J it => lc_end (W := W) (g := g) (c := c) (e := e) (Q := fun v H' => H' a = some (.frz od u) ∧ Q v (upd H' a u)) nd hst (s'.lock hF hu) Gr.refl it ?_⟩
      have n := s'.atd hF
      dsimp only at q
      cases e2 : endLc ρ1 vs (lcN g c e vs ds (wipeR vs ρ1)) with
      | bad => rw [e2] at q; exact q
      | err x ρ' =>
        exfalso
        unfold endLc at e2
        split at e2
        · split at e2 <;> cases e2
        · cases e2
      | ok ov ρ' =>
        rw [e2] at q
        exact fun v F2 H2 A2 B s2 g2 r nd' dj => ⟨lock_at g2.e n, q v F2 _ A2 B (s2.unlock (g2.ff _ _ hF)) (g'.trans (lock_gr g2 hF hH)) (r.unlock (g2.ff _ _ hF)) nd' dj⟩
    · exact .inr (kk H o _ s'.sub hH fun J it => lc_end nd hst s' g' it q)
theorem ee_lcD {elt tg iter : Expr} {ifs : List Expr} {scope : Scope} {own : List (Str × Nat)} {st : List Nat} {pos : Pos} {t : Rho → Option (List D × Rho)} {g : GR} {c : Rho → Res Bool} {e : Rho → Res Opd} (hc : X.calm = true) (hN : X.N.Nodup) (hi : DSrc X cl tg iter t) (ok : BlkOk X.N X.env.scope scope own) (p : LcP X cl st scope tg ifs elt g c e)
    (nd : nodupB (own.map (·.2)) = true := by decide) (hst : (st.all fun i => (own.map (·.2)).contains i) = true := by decide) (hs : ∀ x, foldedSetIterable iter X.env x = pure x := by intro _; rfl) : EE X cl W (.ListComp elt [⟨tg, iter, ifs, 0⟩] scope pos) (evLcD t g c e (own.map (·.2))) := by
  obtain ⟨wi, hpi, k⟩ := hi.ex
  have h := pe_lc (g := LG X.K cl st g) (tt := LT X.K cl nox c) (te := LP X.K cl nox e) (pos := pos) hc hN hpi ok p.g p.c p.e hs
  exact PE.imp (PE.or (pe_lock h) h) (lcD_sem (elt := elt) (tg := tg) (iter := iter) (nodup_vs nd) (sub_vs hst) k)
theorem es_setLcD {i : Nat} {y : Str} {py : Pos} {elt tg iter : Expr} {ifs : List Expr} {scope : Scope} {own : List (Str × Nat)} {st : List Nat} {pos spos : Pos} {t : Rho → Option (List D × Rho)} {g : GR} {c : Rho → Res Bool} {e : Rho → Res Opd} (hp : i ∉ pn) (hc : X.calm = true) (hN : X.N.Nodup) (hy : X.N[i]? = some y) (hyl : X.env.scope.names.lookup y = some .local)
    (hsw : swapsWith (.ListComp elt [⟨tg, iter, ifs, 0⟩] scope pos) (some (.Name y py)) spos.line X.env = pure true) (hi : DSrc X cl tg iter t) (ok : BlkOk X.N X.env.scope scope own) (p : LcP X cl st scope tg ifs elt g c e)
    (nd : nodupB (own.map (·.2)) = true := by decide) (hst : (st.all fun i => (own.map (·.2)).contains i) = true := by decide) (hs : ∀ x, foldedSetIterable iter X.env x = pure x := by intro _; rfl) : ES X cl pn W (.Assign [.Name y py] (.ListComp elt [⟨tg, iter, ifs, 0⟩] scope pos) spos) (sSet i (evLcD t g c e (own.map (·.2)))) := by
  obtain ⟨wi, hpi, k⟩ := hi.ex
  have h := ps_setLc (g := LG X.K cl st g) (tt := LT X.K cl nox c) (te := LP X.K cl nox e) (pos := pos) hc hN hy hyl hsw hpi ok p.g p.c p.e hs
  exact es_setR (u := fun σ H Q => tLockE (tLc wi (LG X.K cl st g) (LT X.K cl nox c) (LP X.K cl nox e) (own.map fun x : Str × Nat => x.2)) σ H Q ∨ tLc wi (LG X.K cl st g) (LT X.K cl nox c) (LP X.K cl nox e) (own.map fun x : Str × Nat => x.2) σ H Q) hp (PS.imp (PS.or (ps_lock h) h) fun D σ H q => q) (lcD_sem (elt := elt) (tg := tg) (iter := iter) (nodup_vs nd) (sub_vs hst) k)
end
end DL
/-! DL20: own dicts and own instances that are written. -/
namespace DL
open PySem L2
@[simp] def putD {κ α : Type} [DecidableEq κ] (kvs : List (κ × α)) (k : κ) (d : α) : List (κ × α) := match kvs with
  | [] => [(k, d)]
  | (j, x) :: r => if j = k then (j, d) :: r else (j, x) :: putD r k d
@[simp] def fzK : List (Key × D) → List (Key × OD)
  | [] => []
  | (k, d) :: r => (k, .fz d) :: fzK r
@[simp] def allFzK : List (Key × OD) → Option (List (Key × D))
  | [] => some []
  | (k, .fz d) :: r => match allFzK r with
    | some ds => some ((k, d) :: ds)
    | none => none
  | _ :: _ => none
@[simp] theorem allFzK_fzK : ∀ {kvs : List (Key × D)}, allFzK (fzK kvs) = some kvs
  | [] => rfl
  | (k, d) :: r => by
    unfold fzK allFzK
    rw [allFzK_fzK]
@[simp] def fzT : List (List Key × D) → List (List Key × OD)
  | [] => []
  | (k, d) :: r => (k, .fz d) :: fzT r
@[simp] def allFzT : List (List Key × OD) → Option (List (List Key × D))
  | [] => some []
  | (k, .fz d) :: r => match allFzT r with
    | some ds => some ((k, d) :: ds)
    | none => none
  | _ :: _ => none
@[simp] theorem allFzT_fzT : ∀ {kvs : List (List Key × D)}, allFzT (fzT kvs) = some kvs
  | [] => rfl
  | (k, d) :: r => by
    unfold fzT allFzT
    rw [allFzT_fzT]
@[simp] def oset : List (Str × OD) → Str → OD → List (Str × OD)
  | [], f, o => [(f, o)]
  | (k, x) :: r, f, o => if k = f then (k, o) :: r else (k, x) :: oset r f o
section
variable {K : PySem.W.Frag} {cl : Nat → Addr} {F F' F1 F2 H H' H1 H2 : Hp} {σ σ' : L2.St} {ρ ρ' : Rho} {A A' : Nat → List Addr}
theorem allFzK_own : ∀ {os : List (Key × OD)} {ds : List (Key × D)} {vs : List (Key × V)} {B : List Addr}, allFzK os = some ds → OwnK K cl F H os vs B → RepK K cl F ds vs ∧ B = []
  | [], ds, vs, B, e, ⟨ev, eB⟩ => by cases e; exact ⟨ev, eB⟩
  | (k, .fz d) :: os, ds, vs, B, e, ⟨u, us, A1, A2, ev, eB, ⟨eA, r⟩, q⟩ => by
    unfold allFzK at e
    cases e1 : allFzK os with
    | none => rw [e1] at e; cases e
    | some ds' =>
      rw [e1] at e
      cases e
      obtain ⟨h1, h2⟩ := allFzK_own e1 q
      exact ⟨⟨u, us, ev, r, h1⟩, by rw [eB, eA, h2]; rfl⟩
  | (_, .gone) :: _, _, _, _, e, _ => by cases e
  | (_, .tup _) :: _, _, _, _, e, _ => by cases e
  | (_, .lst _) :: _, _, _, _, e, _ => by cases e
  | (_, .dic _) :: _, _, _, _, e, _ => by cases e
  | (_, .dct _) :: _, _, _, _, e, _ => by cases e
  | (_, .ins _ _) :: _, _, _, _, e, _ => by cases e
theorem fzK_own : ∀ {ds : List (Key × D)} {vs : List (Key × V)}, RepK K cl F ds vs → OwnK K cl F H (fzK ds) vs []
  | [], vs, h => ⟨h, rfl⟩
  | (k, d) :: ds, _, ⟨u, us, e, r, q⟩ => ⟨u, us, [], [], e, rfl, ⟨rfl, r⟩, fzK_own q⟩
theorem allFzT_own : ∀ {os : List (List Key × OD)} {ds : List (List Key × D)} {vs : List (List Key × V)} {B : List Addr}, allFzT os = some ds → OwnT K cl F H os vs B → RepT K cl F ds vs ∧ B = []
  | [], ds, vs, B, e, ⟨ev, eB⟩ => by cases e; exact ⟨ev, eB⟩
  | (k, .fz d) :: os, ds, vs, B, e, ⟨u, us, A1, A2, ev, eB, ⟨eA, r⟩, q⟩ => by
    unfold allFzT at e
    cases e1 : allFzT os with
    | none => rw [e1] at e; cases e
    | some ds' =>
      rw [e1] at e
      cases e
      obtain ⟨h1, h2⟩ := allFzT_own e1 q
      exact ⟨⟨u, us, ev, r, h1⟩, by rw [eB, eA, h2]; rfl⟩
  | (_, .gone) :: _, _, _, _, e, _ => by cases e
  | (_, .tup _) :: _, _, _, _, e, _ => by cases e
  | (_, .lst _) :: _, _, _, _, e, _ => by cases e
  | (_, .dic _) :: _, _, _, _, e, _ => by cases e
  | (_, .dct _) :: _, _, _, _, e, _ => by cases e
  | (_, .ins _ _) :: _, _, _, _, e, _ => by cases e
theorem fzT_own : ∀ {ds : List (List Key × D)} {vs : List (List Key × V)}, RepT K cl F ds vs → OwnT K cl F H (fzT ds) vs []
  | [], vs, h => ⟨h, rfl⟩
  | (k, d) :: ds, _, ⟨u, us, e, r, q⟩ => ⟨u, us, [], [], e, rfl, ⟨rfl, r⟩, fzT_own q⟩
theorem putK_cons {j k : Key} {x v : V} {r : List (Key × V)} : putK ((j, x) :: r) k v = if j = k then (j, v) :: r.map (fun kv => if kv.1 = k then (kv.1, v) else kv) else (j, x) :: putK r k v := by
  unfold putK
  by_cases h : j = k
  · rw [List.any_cons, if_pos h]
    simp [h]
  · rw [List.any_cons, if_neg h]
    simp only [h, decide_false, Bool.false_or, List.map_cons, if_false]
    split <;> rfl
theorem putK_consT {j k : List Key} {x v : V} {r : List (List Key × V)} : putK ((j, x) :: r) k v = if j = k then (j, v) :: r.map (fun kv => if kv.1 = k then (kv.1, v) else kv) else (j, x) :: putK r k v := by
  unfold putK
  by_cases h : j = k
  · rw [List.any_cons, if_pos h]
    simp [h]
  · rw [List.any_cons, if_neg h]
    simp only [h, decide_false, Bool.false_or, List.map_cons, if_false]
    split <;> rfl
/-- unlike keys -/
@[simp] def ukeys {κ α : Type} [DecidableEq κ] : List (κ × α) → Bool
  | [] => true
  | (k, _) :: r => !(r.any fun p => decide (p.1 = k)) && ukeys r
theorem map_same {k : Key} {v : V} : ∀ {r : List (Key × V)} {ds : List (Key × D)}, RepK K cl F ds r → (ds.any fun p => decide (p.1 = k)) = false → r.map (fun kv => if kv.1 = k then (kv.1, v) else kv) = r
  | _, [], h, _ => by rw [show _ = [] from h]; rfl
  | _, (j, d) :: ds, ⟨u, us, e, _, q⟩, h => by
    subst e
    rw [List.any_cons] at h
    obtain ⟨h1, h2⟩ := Bool.or_eq_false_iff.mp h
    rw [List.map_cons, map_same q h2, if_neg (of_decide_eq_false h1)]
theorem putD_rep {k : Key} {d : D} {v : V} : ∀ {ds : List (Key × D)} {vs : List (Key × V)}, ukeys ds = true → RepK K cl F ds vs → Rep K cl F d v → RepK K cl F (putD ds k d) (putK vs k v)
  | [], vs, _, h, r => by rw [show vs = [] from h]; exact ⟨v, [], rfl, r, rfl⟩
  | (j, x) :: ds, _, hu, ⟨u, us, e, h, q⟩, r => by
    subst e
    obtain ⟨h1, h2⟩ := Bool.and_eq_true_iff.mp hu
    rw [putK_cons]
    unfold putD
    by_cases e : j = k
    · rw [if_pos e, if_pos e]
      rw [map_same q (by rw [← e]; simpa using h1)]
      exact ⟨v, us, rfl, r, q⟩
    · rw [if_neg e, if_neg e]
      exact ⟨u, putK us k v, rfl, h, putD_rep h2 q r⟩
theorem map_sameT {k : List Key} {v : V} : ∀ {r : List (List Key × V)} {ds : List (List Key × D)}, RepT K cl F ds r → (ds.any fun p => decide (p.1 = k)) = false → r.map (fun kv => if kv.1 = k then (kv.1, v) else kv) = r
  | _, [], h, _ => by rw [show _ = [] from h]; rfl
  | _, (j, d) :: ds, ⟨u, us, e, _, q⟩, h => by
    subst e
    rw [List.any_cons] at h
    obtain ⟨h1, h2⟩ := Bool.or_eq_false_iff.mp h
    rw [List.map_cons, map_sameT q h2, if_neg (of_decide_eq_false h1)]
theorem putD_repT {k : List Key} {d : D} {v : V} : ∀ {ds : List (List Key × D)} {vs : List (List Key × V)}, ukeys ds = true → RepT K cl F ds vs → Rep K cl F d v → RepT K cl F (putD ds k d) (putK vs k v)
  | [], vs, _, h, r => by rw [show vs = [] from h]; exact ⟨v, [], rfl, r, rfl⟩
  | (j, x) :: ds, _, hu, ⟨u, us, e, h, q⟩, r => by
    subst e
    obtain ⟨h1, h2⟩ := Bool.and_eq_true_iff.mp hu
    rw [putK_consT]
    unfold putD
    by_cases e : j = k
    · rw [if_pos e, if_pos e]
      rw [map_sameT q (by rw [← e]; simpa using h1)]
      exact ⟨v, us, rfl, r, q⟩
    · rw [if_neg e, if_neg e]
      exact ⟨u, putK us k v, rfl, h, putD_repT h2 q r⟩
/-- a slot's own data changes, within its own objects -/
theorem Sto.mutG {i : Nat} {v : V} {o' : OD} (s : Sto K cl F H σ ρ A) (hv : σ[i]? = some (some v)) (r : Own K cl F H' o' v (A i)) (hH : ∀ b, b ∉ A i → H' b = H b) :
    Sto K cl F H' σ (ρ.set i o') A ∧ Gr (ownd A) (ownd A) F H F H' := by
  have hi : i < ρ.length := by rw [s.len]; exact (List.getElem?_eq_some_iff.mp hv).1
  refine ⟨⟨fun a x e => ?_, by rw [List.length_set]; exact s.len, fun j => ?_, s.dis, s.nd⟩, fun b o e n => ?_, Le.refl _, fun _ _ _ => rfl, fun b z => .inl z⟩
  · have hn : a ∉ A i := fun z => by rw [(s.at_ ⟨i, z⟩).1] at e; cases e
    have := s.sub a x e
    unfold Rd at this ⊢
    rw [hH a hn]
    exact this
  · by_cases e : j = i
    · subst e
      rw [gt_set hi]
      exact .mk hv r
    · rw [gt_ne e]
      refine (s.sl j).mono (Le.refl _) fun a ha => ⟨((s.sl j).at_ a ha).1, fun y hy => ?_⟩
      rw [hH a (s.dis j i e a ha)]
      exact hy
  · rw [hH b (fun z => n ⟨i, z⟩)]
    exact e
/-- d[k] = x by data -/
@[simp] def putO : OD → D → D → Option OD
  | .dic os, kd, d => match allFzK os with
    | none => none
    | some xs => match keyOf kd with
      | none => none
      | some k => if (decide (xs.length < 16777216) && ukeys xs) = true then some (.dic (fzK (putD xs k d))) else none
  | .dct os, .tup kds, d => match allFzT os with
    | none => none
    | some xs => match keysOf kds with
      | none => none
      | some k => if (decide (xs.length < 16777216) && ukeys xs) = true then some (.dct (fzT (putD xs k d))) else none
  | _, _, _ => none
theorem repK_len : ∀ {ds : List (Key × D)} {vs : List (Key × V)}, RepK K cl F ds vs → vs.length = ds.length
  | [], vs, h => by rw [show vs = [] from h]; rfl
  | (k, d) :: ds, _, ⟨u, us, e, _, q⟩ => by rw [e, List.length_cons, List.length_cons, repK_len q]
theorem repT_len : ∀ {ds : List (List Key × D)} {vs : List (List Key × V)}, RepT K cl F ds vs → vs.length = ds.length
  | [], vs, h => by rw [show vs = [] from h]; rfl
  | (k, d) :: ds, _, ⟨u, us, e, _, q⟩ => by rw [e, List.length_cons, List.length_cons, repT_len q]
theorem putO_ok {o o' : OD} {v0 x y : V} {B : List Addr} {kd d : D} (sb : Sb F H) (r : Own K cl F H o v0 B) (rk : Rep K cl F kd y) (rd : Rep K cl F d x) (e : putO o kd d = some o') :
    ∃ p H', v0 = .ref p ∧ DPut H p y x H' ∧ Own K cl F H' o' v0 B ∧ ∀ b, b ∉ B → H' b = H b := by
  match o, e with
  | .dic os, e =>
    unfold putO at e
    dsimp only at e
    cases e1 : allFzK os with
    | none => rw [e1] at e; cases e
    | some xs =>
      rw [e1] at e
      dsimp only at e
      cases e2 : keyOf kd with
      | none => rw [e2] at e; cases e
      | some k =>
        rw [e2] at e
        dsimp only at e
        split at e
        · rename_i hc
          obtain ⟨h1, h2⟩ := Bool.and_eq_true_iff.mp hc
          cases e
          obtain ⟨p, vs, B', ev, eB, f0, hh, w⟩ := r
          obtain ⟨w1, rfl⟩ := allFzK_own e1 w
          refine ⟨p, _, ev, .inl ⟨vs, k, hh, key_rep e2 rk, by rw [repK_len w1, sizeLine_eq]; exact of_decide_eq_true h1, rfl⟩, ⟨p, _, [], ev, eB, f0, upd_same, fzK_own (putD_rep h2 w1 rd)⟩, fun b hb => upd_ne fun z => hb (by rw [eB, z]; exact List.mem_singleton_self _)⟩
        · cases e
  | .dct os, e =>
    cases kd with
    | tup kds =>
      unfold putO at e
      dsimp only at e
      cases e1 : allFzT os with
      | none => rw [e1] at e; cases e
      | some xs =>
        rw [e1] at e
        dsimp only at e
        cases e2 : keysOf kds with
        | none => rw [e2] at e; cases e
        | some k =>
          rw [e2] at e
          dsimp only at e
          split at e
          · rename_i hc
            obtain ⟨h1, h2⟩ := Bool.and_eq_true_iff.mp hc
            cases e
            obtain ⟨p, vs, B', ev, eB, f0, hh, w⟩ := r
            obtain ⟨w1, rfl⟩ := allFzT_own e1 w
            obtain ⟨b, us, ey, hb, rb⟩ := rk
            have hb2 := (sb _ _ hb).2 rfl
            rw [keys_rep e2 rb] at hb2
            refine ⟨p, _, ev, .inr ⟨vs, k, b, hh, ey, hb2, by rw [repT_len w1, sizeLine_eq]; exact of_decide_eq_true h1, rfl⟩, ⟨p, _, [], ev, eB, f0, upd_same, fzT_own (putD_repT h2 w1 rd)⟩, fun b hb => upd_ne fun z => hb (by rw [eB, z]; exact List.mem_singleton_self _)⟩
          · cases e
    | _ => cases e
theorem ofield : ∀ {fs : List (Str × OD)} {vs : List (Str × V)} {B : List Addr} {f : Str} {o : OD}, OwnA K cl F H fs vs B → B.Nodup → fs.lookup f = some o →
    ∃ v B', vs.lookup f = some v ∧ (∀ b ∈ B', b ∈ B) ∧ Own K cl F H o v B' ∧ ∀ H' o', (∀ b, b ∉ B' → H' b = H b) → Own K cl F H' o' v B' → OwnA K cl F H' (oset fs f o') vs B
  | [], _, _, _, _, _, _, e => by cases e
  | (k, x) :: fs, _, _, f, o, ⟨u, us, A1, A2, e1, e2, r, q⟩, nd, e => by
    subst e1 e2
    rw [List.lookup_cons] at e
    obtain ⟨nd1, nd2, nd3⟩ := List.nodup_append.mp nd
    cases hk : f == k with
    | true =>
      rw [hk] at e
      cases e
      have hk' : k = f := (beq_iff_eq.mp hk).symm
      refine ⟨u, A1, by rw [List.lookup_cons, hk], fun b hb => List.mem_append_left _ hb, r, fun H' o' hH r' => ?_⟩
      unfold oset
      rw [if_pos hk']
      refine ⟨u, us, A1, A2, rfl, rfl, r', ownA_mono (Le.refl _) _ _ _ (fun a ha => ⟨(ownA_at _ _ _ q a ha).1, fun y hy => ?_⟩) q⟩
      rw [hH a fun z => nd3 a z a ha rfl]
      exact hy
    | false =>
      rw [hk] at e
      have hk' : ¬ k = f := fun z => by rw [z] at hk; simp at hk
      obtain ⟨v, B', h1, h2, h3, h4⟩ := ofield q nd2 e
      refine ⟨v, B', by rw [List.lookup_cons, hk]; exact h1, fun b hb => List.mem_append_right _ (h2 b hb), h3, fun H' o' hH r' => ?_⟩
      unfold oset
      rw [if_neg hk']
      refine ⟨u, us, A1, A2, rfl, rfl, own_mono (Le.refl _) _ _ _ (fun a ha => ⟨(own_at _ _ _ r a ha).1, fun y hy => ?_⟩) r, h4 H' o' hH r'⟩
      rw [hH a fun z => nd3 a ha a (h2 a z) rfl]
      exact hy
/-- a field is laid or changed: o: its new data, with its own objects B2 -/
theorem oset_own : ∀ {fs : List (Str × OD)} {vs : List (Str × V)} {B B2 : List Addr} {f : Str} {o : OD} {v : V}, OwnA K cl F H fs vs B → B.Nodup → Own K cl F H o v B2 → B2.Nodup → (∀ b ∈ B2, b ∉ B) →
    ∃ B3, OwnA K cl F H (oset fs f o) (putF f v vs) B3 ∧ B3.Nodup ∧ ∀ b ∈ B3, b ∈ B ∨ b ∈ B2
  | [], vs, B, B2, f, o, v, ⟨e1, e2⟩, _, r, nd, _ => by
    subst e1 e2
    exact ⟨B2, ⟨v, [], B2, [], rfl, by simp, r, rfl, rfl⟩, nd, fun b hb => .inr hb⟩
  | (k, x) :: fs, _, _, B2, f, o, v, ⟨u, us, A1, A2, e1, e2, r0, q⟩, nd, r, nd2, dj => by
    subst e1 e2
    obtain ⟨n1, n2, n3⟩ := List.nodup_append.mp nd
    by_cases hk : k = f
    · have e3 : putF f v ((k, u) :: us) = (k, v) :: us := by simp [putF, hk]
      rw [e3]
      unfold oset
      rw [if_pos hk]
      refine ⟨B2 ++ A2, ⟨v, us, B2, A2, rfl, rfl, r, q⟩, List.nodup_append.mpr ⟨nd2, n2, fun a ha b hb z => dj a ha (List.mem_append_right _ (z ▸ hb))⟩, fun b hb => ?_⟩
      rcases List.mem_append.mp hb with z | z
      · exact .inr z
      · exact .inl (List.mem_append_right _ z)
    · have e3 : putF f v ((k, u) :: us) = (k, u) :: putF f v us := by simp [putF, hk, Ne.symm]
      rw [e3]
      unfold oset
      rw [if_neg hk]
      obtain ⟨B3, h1, h2, h3⟩ := oset_own (f := f) q n2 r nd2 fun b hb z => dj b hb (List.mem_append_right _ z)
      refine ⟨A1 ++ B3, ⟨u, _, A1, B3, rfl, rfl, r0, h1⟩, List.nodup_append.mpr ⟨n1, h2, fun a ha b hb z => ?_⟩, fun b hb => ?_⟩
      · subst z
        rcases h3 a hb with y | y
        · exact n3 a ha a y rfl
        · exact dj a y (List.mem_append_left _ ha)
      · rcases List.mem_append.mp hb with z | z
        · exact .inl (List.mem_append_left _ z)
        · rcases h3 b z with y | y
          · exact .inl (List.mem_append_right _ y)
          · exact .inr y
end
end DL
/-! DL21: d[k] = e, self.f = e, self.f[k] = e. -/
namespace DL
open PySem L2
section
variable {X : Cx} {cl : Nat → Addr} {W : WX} {pn : List Nat} {pos pos' p tpos : Pos} {o i e v : Expr} {ta tb : Rho → Res Opd}
@[simp] def sPutN (i : Nat) (te ti : Rho → Res Opd) : Rho → Res Fl := fun ρ => match te ρ with
  | .ok (.d d) ρ1 => (match gt ρ1 i with
    | .dic _ => (match ti ρ1 with
      | .ok (.d kd) ρ2 => (match putO (gt ρ2 i) kd d with
        | some o' => .ok .next (ρ2.set i o')
        | none => .bad)
      | .ok (.b _) _ => .bad
      | .err x ρ2 => .err x ρ2
      | .bad => .bad)
    | .dct _ => (match ti ρ1 with
      | .ok (.d kd) ρ2 => (match putO (gt ρ2 i) kd d with
        | some o' => .ok .next (ρ2.set i o')
        | none => .bad)
      | .ok (.b _) _ => .bad
      | .err x ρ2 => .err x ρ2
      | .bad => .bad)
    | _ => .bad)
  | .ok (.b _) _ => .bad
  | .err x ρ1 => .err x ρ1
  | .bad => .bad
theorem es_putN {k : Nat} (hu : X.A.units + 1 < cLine) (ho : PE X o (tVar k)) (hi : EP' X cl W i tb) (hv : EP' X cl W v ta) (hs : swapsWith v (some (.Subscript o i tpos)) pos.line X.env = pure false := by rfl) : ES X cl pn W (.Assign [.Subscript o i tpos] v pos) (sPutN k ta tb) := by
  refine PS.imp (ps_dput hu ho hi hv hs) fun D σ H ⟨F, ρ, A, s, q⟩ => ⟨F, ρ, A, s, ?_⟩
  unfold sPutN at q
  cases e1 : ta ρ with
  | bad => rw [e1] at q; exact q
  | err x ρ' => rw [e1] at q; exact fun F' H' A' c a s' g' => q σ F' H' A' c a s' g' fun _ _ => rfl
  | ok od ρ1 =>
    rw [e1] at q
    intro u F1 H1 A1 s1 g1 p1
    cases od with
    | b _ => exact q.elim
    | d d =>
      dsimp only at q
      cases e0 : gt ρ1 k with
      | dic os =>
        rw [e0] at q
        obtain ⟨v0, ev, r⟩ := (s1.sl k).own (by rw [e0]; exact fun z => by cases z)
        refine ⟨_, ev, F1, ρ1, A1, s1, ?_⟩
        dsimp only at q
        cases e4 : tb ρ1 with
        | bad => rw [e4] at q; exact q
        | err x ρ' => rw [e4] at q; exact fun F' H' A' c a s' g' => q σ F' H' A' c a s' (g1.transE g') fun _ _ => rfl
        | ok oj ρ2 =>
          rw [e4] at q
          intro y F2 H2 A2 s2 g2 p2
          cases oj with
          | b _ => exact q.elim
          | d j =>
            dsimp only at q
            cases e5 : putO (gt ρ2 k) j d with
            | none => rw [e5] at q; exact q.elim
            | some o' =>
              rw [e5] at q
              obtain ⟨v1, ev1, r1⟩ := (s2.sl k).own (fun z => by rw [z] at e5; cases e5)
              rw [ev] at ev1
              cases ev1
              obtain ⟨p', H', e6, pu, r2, hH⟩ := putO_ok s2.sub r1 p2 (rep_mono g2.ff _ _ p1) e5
              obtain ⟨s3, g3⟩ := s2.mutG ev r2 hH
              exact ⟨p', H', e6, pu, q σ F2 _ A2 s3 ((g1.trans g2).trans g3) fun _ _ => rfl⟩
      | dct os =>
        rw [e0] at q
        obtain ⟨v0, ev, r⟩ := (s1.sl k).own (by rw [e0]; exact fun z => by cases z)
        refine ⟨_, ev, F1, ρ1, A1, s1, ?_⟩
        dsimp only at q
        cases e4 : tb ρ1 with
        | bad => rw [e4] at q; exact q
        | err x ρ' => rw [e4] at q; exact fun F' H' A' c a s' g' => q σ F' H' A' c a s' (g1.transE g') fun _ _ => rfl
        | ok oj ρ2 =>
          rw [e4] at q
          intro y F2 H2 A2 s2 g2 p2
          cases oj with
          | b _ => exact q.elim
          | d j =>
            dsimp only at q
            cases e5 : putO (gt ρ2 k) j d with
            | none => rw [e5] at q; exact q.elim
            | some o' =>
              rw [e5] at q
              obtain ⟨v1, ev1, r1⟩ := (s2.sl k).own (fun z => by rw [z] at e5; cases e5)
              rw [ev] at ev1
              cases ev1
              obtain ⟨p', H', e6, pu, r2, hH⟩ := putO_ok s2.sub r1 p2 (rep_mono g2.ff _ _ p1) e5
              obtain ⟨s3, g3⟩ := s2.mutG ev r2 hH
              exact ⟨p', H', e6, pu, q σ F2 _ A2 s3 ((g1.trans g2).trans g3) fun _ _ => rfl⟩
      | gone => rw [e0] at q; exact q.elim
      | fz _ => rw [e0] at q; exact q.elim
      | tup _ => rw [e0] at q; exact q.elim
      | lst _ => rw [e0] at q; exact q.elim
      | ins _ _ => rw [e0] at q; exact q.elim
/-- the own instance of slot k has the own field f -/
@[simp] def ofld (cs : List Nat) (f : Str) : OD → Option (Nat × List (Str × OD) × OD)
  | .ins c fs => if cs.contains c = true then (match fs.lookup f with
    | some o => some (c, fs, o)
    | none => none) else none
  | _ => none
theorem ofld_some {cs : List Nat} {f : Str} {o : OD} {c : Nat} {fs : List (Str × OD)} {x : OD} (h : ofld cs f o = some (c, fs, x)) : o = .ins c fs ∧ cs.contains c = true ∧ fs.lookup f = some x := by
  unfold ofld at h
  split at h
  · split at h
    · split at h
      · cases h
        exact ⟨rfl, by assumption, by assumption⟩
      · cases h
    · cases h
  · cases h
/-- self.f[k] = e -/
@[simp] def sPutF (cs : List Nat) (i : Nat) (f : Str) (te : Rho → Res Opd) (l : Rho → Option (D × Rho)) : Rho → Res Fl := fun ρ => match te ρ with
  | .ok (.d d) ρ1 => (match l ρ1 with
    | some (kd, ρ2) => (match ofld cs f (gt ρ1 i) with
      | none => .bad
      | some _ => (match ofld cs f (gt ρ2 i) with
        | some (c, fs, o) => (match putO o kd d with
          | some o' => .ok .next (ρ2.set i (.ins c (oset fs f o')))
          | none => .bad)
        | none => .bad))
    | none => .bad)
  | .ok (.b _) _ => .bad
  | .err x ρ1 => .err x ρ1
  | .bad => .bad
theorem es_putF {k : Nat} {cs : List Nat} {f : Str} {l : Rho → Option (D × Rho)} (hu : X.A.units + 1 < cLine) (ho : PE X o (tVar k)) (ok : FldOk X.K cl cs f) (hi : EL X cl i l) (hv : EP' X cl W v ta) (hb : attributeBase o f X.env (eval o X.env) = eval o X.env := by rfl) (hs : swapsWith v (some (.Subscript (.Attribute o f pos') i tpos)) pos.line X.env = pure false := by rfl) :
    ES X cl pn W (.Assign [.Subscript (.Attribute o f pos') i tpos] v pos) (sPutF cs k f ta l) := by
  obtain ⟨u, hu', kk⟩ := hi
  refine PS.imp (ps_dput hu (pe_fld ho hb) hu' hv hs) fun D σ H ⟨F, ρ, A, s, q⟩ => ⟨F, ρ, A, s, ?_⟩
  unfold sPutF at q
  cases e1 : ta ρ with
  | bad => rw [e1] at q; exact q
  | err x ρ' => rw [e1] at q; exact fun F' H' A' c a s' g' => q σ F' H' A' c a s' g' fun _ _ => rfl
  | ok od ρ1 =>
    rw [e1] at q
    intro w F1 H1 A1 s1 g1 p1
    cases od with
    | b _ => exact q.elim
    | d d =>
      dsimp only at q
      cases e2 : l ρ1 with
      | none => rw [e2] at q; exact q.elim
      | some z =>
        obtain ⟨kd, ρ2⟩ := z
        rw [e2] at q
        dsimp only at q
        cases e3 : ofld cs f (gt ρ1 k) with
        | none => rw [e3] at q; exact q.elim
        | some z3 =>
          rw [e3] at q
          dsimp only at q
          cases e4 : ofld cs f (gt ρ2 k) with
          | none => rw [e4] at q; exact q.elim
          | some z4 =>
            obtain ⟨c, fs, o4⟩ := z4
            rw [e4] at q
            dsimp only at q
            cases e5 : putO o4 kd d with
            | none => rw [e5] at q; exact q.elim
            | some o' =>
              rw [e5] at q
              obtain ⟨F2, A2, y, s2, g2, ry, kq⟩ := kk F1 H1 σ ρ1 A1 _ _ s1 e2
              obtain ⟨h1, h2, h3⟩ := ofld_some e4
              obtain ⟨v0, ev, r⟩ := (s2.sl k).own (by rw [h1]; exact fun z => by cases z)
              rw [h1] at r
              obtain ⟨p0, dx, vs, B, ep, eA, f0, hh, w0⟩ := r
              obtain ⟨c1, c2⟩ := ok c (by simpa using h2)
              have nd := s2.nd k
              rw [eA] at nd
              obtain ⟨np, ndB⟩ := List.nodup_cons.mp nd
              obtain ⟨v', B', hl, hsub, ro, put⟩ := ofield w0 ndB h3
              obtain ⟨p', H', e6, pu, r2, hH⟩ := putO_ok s2.sub ro ry (rep_mono g2.ff _ _ p1) e5
              have hp : H' p0 = H1 p0 := hH p0 fun z => np (hsub _ z)
              refine ⟨v0, ev, p0, cl c, dx, vs, v', ep, hh, c1, c2, hl, kq _ H1 s2.sub ⟨p', H', e6, pu, ?_⟩⟩
              obtain ⟨s3, g3⟩ := s2.mutG (o' := .ins c (oset fs f o')) (H' := H') ev (by rw [eA]; exact ⟨p0, dx, vs, B, ep, rfl, f0, by rw [hp]; exact hh, put H' o' hH r2⟩) fun b hb => hH b fun z => hb (by rw [eA]; exact List.mem_cons_of_mem _ (hsub _ z))
              exact q σ F2 H' A2 s3 ((g1.trans g2).trans g3) fun _ _ => rfl
/-- self.f = e -/
@[simp] def sFldS (cs : List Nat) (i : Nat) (f : Str) (t : Rho → Res OV) : Rho → Res Fl := fun ρ => match t ρ with
  | .ok (.o o) ρ1 => (match gt ρ1 i with
    | .ins c fs => if (cs.contains c && decide (fs.length < 1000)) = true then .ok .next (ρ1.set i (.ins c (oset fs f o))) else .bad
    | _ => .bad)
  | .ok (.b j) ρ1 => if (j == i) = true then .bad else (match gt ρ1 j with
    | .gone => .bad
    | o => (match gt ρ1 i with
      | .ins c fs => if (cs.contains c && decide (fs.length < 1000)) = true then .ok .next ((ρ1.set j (.fz o.toD)).set i (.ins c (oset fs f (.fz o.toD)))) else .bad
      | _ => .bad))
  | .err x ρ1 => .err x ρ1
  | .bad => .bad
theorem ownA_len {K : PySem.W.Frag} {F H : Hp} : ∀ {fs : List (Str × OD)} {vs : List (Str × V)} {B : List Addr}, OwnA K cl F H fs vs B → vs.length = fs.length
  | [], _, _, ⟨e, _⟩ => by rw [e]; rfl
  | (k, x) :: fs, _, _, ⟨u, us, A1, A2, e, _, _, q⟩ => by rw [e, List.length_cons, List.length_cons, ownA_len q]
/-- the field's store, the new data apart from all slots -/
theorem fld_store {K : PySem.W.Frag} {F H : Hp} {σ : L2.St} {ρ : Rho} {A : Nat → List Addr} {i c : Nat} {fs : List (Str × OD)} {f : Str} {x : OD} {y : V} {B2 : List Addr} (s : Sto K cl F H σ ρ A) (e : gt ρ i = .ins c fs) (r : Own K cl F H x y B2) (nd2 : B2.Nodup) (dj : ∀ b ∈ B2, ¬ ownd A b) :
    ∃ p dx vs, σ[i]? = some (some (.ref p)) ∧ H p = some (.ins (cl c) dx vs) ∧ vs.length = fs.length ∧ ∃ A', Sto K cl F (upd H p (.ins (cl c) dx (putF f y vs))) σ (ρ.set i (.ins c (oset fs f x))) A' ∧ Gr (fun b => ownd A b ∨ b ∈ B2) (ownd A') F H F (upd H p (.ins (cl c) dx (putF f y vs))) := by
  obtain ⟨v0, ev, r0⟩ := (s.sl i).own (by rw [e]; exact fun z => by cases z)
  rw [e] at r0
  obtain ⟨p, dx, vs, B, ep, eA, f0, hh, w0⟩ := r0
  subst ep
  have nd := s.nd i
  rw [eA] at nd
  obtain ⟨np, ndB⟩ := List.nodup_cons.mp nd
  have hi : i < ρ.length := by rw [s.len]; exact (List.getElem?_eq_some_iff.mp ev).1
  have pin : ownd A p := ⟨i, by rw [eA]; exact List.mem_cons_self⟩
  obtain ⟨B3, w3, nd3, sub3⟩ := oset_own (f := f) w0 ndB r nd2 fun b hb z => dj b hb ⟨i, by rw [eA]; exact List.mem_cons_of_mem _ z⟩
  have n3 : p ∉ B3 := fun z => (sub3 p z).elim np fun z => dj p z pin
  refine ⟨p, dx, vs, ev, hh, ownA_len w0, fun j => if j = i then p :: B3 else A j, ⟨fun a o q => ?_, by rw [List.length_set]; exact s.len, fun j => ?_, fun j k n b hj hk => ?_, fun j => ?_⟩, ⟨fun b o q n => ?_, Le.refl _, fun _ _ _ => rfl, fun b ⟨j, hj⟩ => ?_⟩⟩
  · have hn : a ≠ p := fun z => by rw [z, f0] at q; cases q
    have := s.sub a o q
    unfold Rd at this ⊢
    rw [upd_ne hn]
    exact this
  · by_cases ej : j = i
    · subst ej
      rw [gt_set hi, if_pos rfl]
      refine .mk ev ⟨p, dx, _, B3, rfl, rfl, f0, upd_same, ownA_mono (Le.refl _) _ _ _ (fun a ha => ⟨(ownA_at _ _ _ w3 a ha).1, fun y hy => ?_⟩) w3⟩
      rw [upd_ne fun z => n3 (by rw [← z]; exact ha)]
      exact hy
    · rw [gt_ne ej, if_neg ej]
      refine (s.sl j).mono (Le.refl _) fun a ha => ⟨((s.sl j).at_ a ha).1, fun y hy => ?_⟩
      rw [upd_ne fun z => s.dis j i ej a ha (by rw [eA, z]; exact List.mem_cons_self)]
      exact hy
  · have inI : ∀ k b, k ≠ i → b ∈ A k → b ∉ p :: B3 := fun k b nk hb hc => by
      rcases List.mem_cons.mp hc with z | z
      · exact s.dis k i nk b hb (by rw [eA, z]; exact List.mem_cons_self)
      · rcases sub3 b z with y | y
        · exact s.dis k i nk b hb (by rw [eA]; exact List.mem_cons_of_mem _ y)
        · exact dj b y ⟨k, hb⟩
    try dsimp only at hj hk
    by_cases ej : j = i
    · rw [if_pos ej] at hj
      rw [if_neg (fun z => n (ej.trans z.symm))] at hk
      exact inI k b (fun z => n (ej.trans z.symm)) hk hj
    · rw [if_neg ej] at hj
      by_cases ek : k = i
      · rw [if_pos ek] at hk
        exact inI j b ej hj hk
      · rw [if_neg ek] at hk
        exact s.dis j k n b hj hk
  · try dsimp only
    split
    · exact List.nodup_cons.mpr ⟨n3, nd3⟩
    · exact s.nd j
  · rw [upd_ne (fun z => n (.inl (by rw [z]; exact pin)))]
    exact q
  · try dsimp only at hj
    split at hj
    · rcases List.mem_cons.mp hj with z | z
      · exact .inl (.inl (by rw [z]; exact pin))
      · rcases sub3 b z with y | y
        · exact .inl (.inl ⟨i, by rw [eA]; exact List.mem_cons_of_mem _ y⟩)
        · exact .inl (.inr y)
    · exact .inl (.inl ⟨j, hj⟩)
theorem gr_nil {F F1 H H1 : Hp} {P' : Addr → Prop} {A : Nat → List Addr} (g : Gr (fun b => ownd A b ∨ b ∈ ([] : List Addr)) P' F H F1 H1) : Gr (ownd A) P' F H F1 H1 :=
  g.pre fun b z => z.elim id fun z => (by cases z)
theorem es_fld {k : Nat} {cs : List Nat} {f : Str} {t : Rho → Res OV} (ho : PE X o (tVar k)) (ok : FldOk X.K cl cs f) (hv : EE X cl W v t) (hs : swapsWith v (some (.Attribute o f pos')) pos.line X.env = pure false := by rfl) : ES X cl pn W (.Assign [.Attribute o f pos'] v pos) (sFldS cs k f t) := by
  refine PS.imp (ps_fld ho hv hs) fun D σ H ⟨F, ρ, A, s, q⟩ => ⟨F, ρ, A, s, ?_⟩
  unfold sFldS at q
  cases e1 : t ρ with
  | bad => rw [e1] at q; exact q
  | err x ρ' => rw [e1] at q; exact fun F' H' A' c a s' g' => q σ F' H' A' c a s' g' fun _ _ => rfl
  | ok ov ρ1 =>
    rw [e1] at q
    intro w F1 H1 A1 B2 s1 g1 r1 nd1 dj1
    cases ov with
    | o x =>
      dsimp only at q
      cases e2 : gt ρ1 k with
      | ins c fs =>
        rw [e2] at q
        dsimp only at q
        by_cases hc : (cs.contains c && decide (fs.length < 1000)) = true
        · rw [if_pos hc] at q
          obtain ⟨h1, h2⟩ := Bool.and_eq_true_iff.mp hc
          obtain ⟨c1, c2⟩ := ok c (by simpa using h1)
          obtain ⟨p, dx, vs, ev, hh, hl, A', s2, g2⟩ := fld_store (f := f) s1 e2 r1 nd1 dj1
          exact ⟨_, ev, p, cl c, dx, vs, rfl, hh, c1, c2, by rw [hl]; exact of_decide_eq_true h2, q σ F1 _ A' s2 (g1.trans g2) fun _ _ => rfl⟩
        · rw [if_neg hc] at q
          exact q.elim
      | gone => rw [e2] at q; exact q.elim
      | fz _ => rw [e2] at q; exact q.elim
      | tup _ => rw [e2] at q; exact q.elim
      | lst _ => rw [e2] at q; exact q.elim
      | dic _ => rw [e2] at q; exact q.elim
      | dct _ => rw [e2] at q; exact q.elim
    | b j =>
      dsimp only at q
      by_cases hj : (j == k) = true
      · rw [if_pos hj] at q
        exact q.elim
      · rw [if_neg hj] at q
        have hjk : k ≠ j := fun z => hj (by rw [z]; exact beq_self_eq_true _)
        obtain ⟨rfl, hv'⟩ := r1
        have n : gt ρ1 j ≠ .gone := fun z => by
          rw [z] at q
          exact q
        obtain ⟨F2, A2, s2, r2, g2⟩ := freezeSlot s1 n hv'
        have q2 : match gt ρ1 k with
          | .ins c fs => if (cs.contains c && decide (fs.length < 1000)) = true then (∀ σ' F' H' A', Sto X.K cl F' H' σ' ((ρ1.set j (.fz (gt ρ1 j).toD)).set k (.ins c (oset fs f (.fz (gt ρ1 j).toD)))) A' → Gr (ownd A) (ownd A') F H F' H' → (∀ i ∈ pn, σ'[i]? = σ[i]?) → D.nx σ' H') else False
          | _ => False := by
          have key : ∀ (o : OD), (match gt ρ1 k with
            | .ins c fs => if (cs.contains c && decide (fs.length < 1000)) = true then Res.ok Fl.next ((ρ1.set j (.fz o.toD)).set k (.ins c (oset fs f (.fz o.toD)))) else .bad
            | _ => .bad : Res Fl) = (match gt ρ1 k with
            | .ins c fs => if (cs.contains c && decide (fs.length < 1000)) = true then Res.ok Fl.next ((ρ1.set j (.fz o.toD)).set k (.ins c (oset fs f (.fz o.toD)))) else .bad
            | _ => .bad : Res Fl) := fun o => rfl
          cases z : gt ρ1 j with
          | gone => exact absurd z n
          | _ =>
            rw [z] at q
            dsimp only at q
            cases z2 : gt ρ1 k with
            | ins c fs =>
              rw [z2] at q
              dsimp only at q ⊢
              split
              · rename_i hc
                rw [if_pos hc] at q
                exact q
              · rename_i hc
                rw [if_neg hc] at q
                exact q
            | _ => rw [z2] at q; exact q
        cases e2 : gt ρ1 k with
        | ins c fs =>
          rw [e2] at q2
          dsimp only at q2
          by_cases hc : (cs.contains c && decide (fs.length < 1000)) = true
          · rw [if_pos hc] at q2
            obtain ⟨h1, h2⟩ := Bool.and_eq_true_iff.mp hc
            obtain ⟨c1, c2⟩ := ok c (by simpa using h1)
            have e3 : gt (ρ1.set j (.fz (gt ρ1 j).toD)) k = .ins c fs := by rw [gt_ne hjk]; exact e2
            obtain ⟨p, dx, vs, ev, hh, hl, A', s3, g3⟩ := fld_store (f := f) (x := .fz (gt ρ1 j).toD) (B2 := []) s2 e3 ⟨rfl, r2⟩ List.nodup_nil fun b hb => by cases hb
            exact ⟨_, ev, p, cl c, dx, vs, rfl, hh, c1, c2, by rw [hl]; exact of_decide_eq_true h2, q2 σ F2 _ A' s3 (((gr0 g1).trans g2).trans (gr_nil g3)) fun _ _ => rfl⟩
          · rw [if_neg hc] at q2
            exact q2.elim
        | _ => rw [e2] at q2; exact q2.elim
end
end DL
/-! DL22: instances are made, methods are called. -/
namespace DL
open PySem L2
@[simp] def endMake (n m : Nat) (r : Res OV) : Res OV := match r with
  | .ok (.o (.fz (.v .non))) ρ2 => (match gt ρ2 n with
    | .gone => .bad
    | o => .ok (.o o) (ρ2.take m))
  | .ok _ _ => .bad
  | .err x ρ2 => .err x (ρ2.take m)
  | .bad => .bad
/-- C(..): a new own instance goes to __init__ -/
@[simp] def evMake (c : Nat) (S : FS) (ms : List Bool) (ts : Rho → Res (List Opd × Rho)) : Rho → Res OV := fun ρ => (ts ρ).bind fun z ρ1 =>
  endMake (ρ1.length + z.2.length) ρ1.length (callR S (true :: ms) (.b (ρ1.length + z.2.length) :: z.1) (ρ1 ++ z.2 ++ [.ins c []]))
@[simp] def ovCls (m : Str) (ρ : Rho) : OV → Option Nat
  | .o (.fz (.ins c fs)) => if (fs.lookup m).isNone = true then some c else none
  | .o (.ins c fs) => if (fs.lookup m).isNone = true then some c else none
  | .b i => match gt ρ i with
    | .ins c fs => if (fs.lookup m).isNone = true then some c else none
    | _ => none
  | _ => none
@[simp] def evMeth (c : Nat) (m : Str) (S : FS) (ms : List Bool) (t : Rho → Res OV) (ts : Rho → Res (List Opd × Rho)) : Rho → Res OV := fun ρ => (t ρ).bind fun ov ρ1 =>
  if ovCls m ρ1 ov = some c then (xc ov ts ρ1).bind fun z ρ2 => cutR ρ2.length (callR S ms z.1 (ρ2 ++ z.2)) else .bad
@[simp] def evAlt (a b : Rho → Res OV) : Rho → Res OV := fun ρ => match a ρ with
  | .bad => b ρ
  | r => r
section
variable {X : Cx} {cl : Nat → Addr} {W : WX} {E : XK} {e o : Expr} {es : List Expr} {pos p apos : Pos}
theorem ee_alt {a b : Rho → Res OV} (h : EE X cl W e a) (h' : EE X cl W e b) : EE X cl W e (evAlt a b) := by
  refine PE.imp (PE.or h h') fun σ H Q ⟨F, ρ, A, s, q⟩ => ?_
  unfold evAlt at q
  cases e1 : a ρ with
  | bad => rw [e1] at q; exact .inr ⟨F, ρ, A, s, q⟩
  | err x ρ' => rw [e1] at q; exact .inl ⟨F, ρ, A, s, by rw [e1]; exact q⟩
  | ok ov ρ' => rw [e1] at q; exact .inl ⟨F, ρ, A, s, by rw [e1]; exact q⟩
theorem lookA {K : PySem.W.Frag} {F : Hp} : ∀ {fs : List (Str × D)} {vs : List (Str × V)} {m : Str}, RepA K cl F fs vs → (fs.lookup m).isNone = true → vs.lookup m = none
  | [], _, m, h, _ => by rw [show _ = [] from h]; rfl
  | (k, d) :: fs, _, m, ⟨u, us, e, _, q⟩, h => by
    subst e
    rw [List.lookup_cons] at h ⊢
    cases hk : m == k with
    | true => rw [hk] at h; cases h
    | false => rw [hk] at h; exact lookA q h
theorem lookO {K : PySem.W.Frag} {F H : Hp} : ∀ {fs : List (Str × OD)} {vs : List (Str × V)} {B : List Addr} {m : Str}, OwnA K cl F H fs vs B → (fs.lookup m).isNone = true → vs.lookup m = none
  | [], _, _, m, h, _ => by rw [h.1]; rfl
  | (k, d) :: fs, _, _, m, ⟨u, us, A1, A2, e, _, _, q⟩, h => by
    subst e
    rw [List.lookup_cons] at h ⊢
    cases hk : m == k with
    | true => rw [hk] at h; cases h
    | false => rw [hk] at h; exact lookO q h
theorem ovCls_at {K : PySem.W.Frag} {F H : Hp} {σ : L2.St} {ρ : Rho} {A : Nat → List Addr} {ov : OV} {v : V} {B : List Addr} {m : Str} {c : Nat} (s : Sto K cl F H σ ρ A) (r : VOk K cl F H σ ov v B) (h : ovCls m ρ ov = some c) :
    ∃ a dx vs, v = .ref a ∧ H a = some (.ins (cl c) dx vs) ∧ vs.lookup m = none := by
  have own : ∀ {fs : List (Str × OD)} {c' : Nat} {v : V} {B : List Addr}, Own K cl F H (.ins c' fs) v B → (if (fs.lookup m).isNone = true then some c' else none) = some c → ∃ a dx vs, v = .ref a ∧ H a = some (.ins (cl c) dx vs) ∧ vs.lookup m = none := fun {fs c' v B} r h => by
    split at h
    · rename_i hn
      cases h
      obtain ⟨p, dx, vs, B, e, _, _, hh, w⟩ := r
      exact ⟨p, dx, vs, e, hh, lookO w hn⟩
    · cases h
  cases ov with
  | b i =>
    have h' : (match gt ρ i with
      | .ins c fs => if (fs.lookup m).isNone = true then some c else none
      | _ => none) = some c := h
    cases z : gt ρ i with
    | ins c' fs =>
      rw [z] at h'
      obtain ⟨v', ev, r'⟩ := (s.sl i).own (by rw [z]; exact fun z => by cases z)
      rw [r.2] at ev
      cases ev
      rw [z] at r'
      exact own r' h'
    | _ => rw [z] at h'; cases h'
  | o x =>
    cases x with
    | ins c' fs => exact own r h
    | fz d =>
      cases d with
      | ins c' fs =>
        have h' : (if (fs.lookup m).isNone = true then some c' else none) = some c := h
        split at h'
        · rename_i hn
          cases h'
          obtain ⟨_, a, dx, vs, e, hF, ra⟩ := r
          exact ⟨a, dx, vs, e, (s.sub _ _ hF).2 rfl, lookA ra hn⟩
        · cases h'
      | _ => cases h
    | _ => cases h
theorem ee_make {c : Nat} {S : FS} {ms : List Bool} {ts : Rho → Res (List Opd × Rho)} {k : Nat} {f : Addr} {fd : FuncData} {ps : List Str} {x : Str} (M : Mk X.K (cl c) f) (Fn : FnOk X.prog X.w X.K X.mg X.base (L2.CX X.prog X.w) k f fd ps (spD X.K cl S)) (hr : Room (k + 1) X.A) (hg : Gl X x) (hm : X.mg x = some (.ref (cl c))) (hb : Binds X.K fd ps [])
    (hx : Passes (L2.CX X.prog X.w) X E) (ha : EX X cl (wE E) (e :: es) ts) (hdb : (x == ("__debug__" : Str)) = false := by decide) (he : starEach (e :: es) X.env = (false, eval e X.env) :: starEach es X.env := by rfl) (hpl : (backTo pos (starEach es X.env)).any (·.1) = false := by rfl) :
    EE X cl (wE E) (.Call (.Name x p) (e :: es) [] pos) (evMake c S ms ts) := by
  refine PE.imp (pe_make M Fn hr hg hm hb .nil hx ha hdb he hpl) fun σ H Q ⟨F, ρ, A, s, q⟩ => ⟨F, ρ, A, s, ?_⟩
  unfold evMake at q
  cases e1 : ts ρ with
  | bad => rw [e1] at q; exact q
  | err x ρ' => rw [e1] at q; exact q
  | ok z ρ1 =>
    rw [e1] at q
    intro vs tv F1 H1 A1 l1 l2 s1 g1 p1 x0 dx hx0 hdx ne
    rw [List.append_nil]
    dsimp only [Res.bind] at q
    have fx : F1 x0 = none := by
      cases y : F1 x0 with
      | none => rfl
      | some o =>
        obtain ⟨w, hw⟩ := rd_some (s1.sub _ _ y).1
        rw [hx0] at hw
        cases hw
    have fd0 : F1 dx = none := by
      cases y : F1 dx with
      | none => rfl
      | some o =>
        obtain ⟨w, hw⟩ := rd_some (s1.sub _ _ y).1
        rw [hdx] at hw
        cases hw
    have look : ∀ b o, H1 b = some o → upd (upd H1 dx (.own x0)) x0 (.ins (cl c) dx []) b = some o := fun b o h => by
      rw [upd_ne (fun y => by rw [y, hx0] at h; cases h), upd_ne (fun y => by rw [y, hdx] at h; cases h)]
      exact h
    have s2 : Sto X.K cl F1 (upd (upd H1 dx (.own x0)) x0 (.ins (cl c) dx [])) (σ ++ tv.map some) (ρ1 ++ z.2) A1 := s1.mono (Le.refl _) (fun a o h => by
      obtain ⟨h1, h2⟩ := s1.sub a o h
      refine ⟨?_, fun w => look _ _ (h2 w)⟩
      rcases h1 with y | ⟨w, y⟩
      · exact .inl (look _ _ y)
      · exact .inr ⟨w, look _ _ y⟩) fun b hb => ⟨(s1.at_ hb).1, fun y hy => look _ _ hy⟩
    have nx : ¬ ownd A1 x0 := fun y => by
      have := (s1.at_ y).2
      rw [hx0] at this
      exact this
    have s3 := s2.push (o := .ins c []) (v := .ref x0) (B := [x0]) ⟨x0, dx, [], [], rfl, rfl, fx, upd_same, rfl, rfl⟩ (by simp) fun b hb => by rw [List.mem_singleton.mp hb]; exact nx
    have el : (ρ1 ++ z.2).length = ρ1.length + z.2.length := List.length_append
    rw [el] at s3
    have lσ : (σ ++ tv.map some).length = ρ1.length + z.2.length := by rw [List.length_append, List.length_map, l1, l2]
    have gA : Gr (ownd A) (ownd fun i => if i = ρ1.length + z.2.length then [x0] else A1 i) F H F1 (upd (upd H1 dx (.own x0)) x0 (.ins (cl c) dx [])) := by
      refine ⟨fun b o h n => look _ _ (g1.keep b o h n), g1.ff, g1.new, fun b ⟨i, hi⟩ => ?_⟩
      dsimp only at hi
      split at hi
      · rw [List.mem_singleton.mp hi]
        by_cases pb : ownd A x0
        · exact .inl pb
        · cases y : H x0 with
          | none => exact .inr rfl
          | some o =>
            have := g1.keep x0 o y pb
            rw [hx0] at this
            cases this
      · exact g1.ow b ⟨i, hi⟩
    have atn : (σ ++ tv.map some ++ [some (V.ref x0)])[ρ1.length + z.2.length]? = some (some (V.ref x0)) := by
      rw [← lσ, List.getElem?_append_right (Nat.le_refl _), Nat.sub_self]
      rfl
    refine call_sp (S := S) (ms := true :: ms) (qs := .b (ρ1.length + z.2.length) :: z.1) (σ := σ ++ tv.map some ++ [some (V.ref x0)]) (E := E) s3 gA ⟨_, _, rfl, atn, POks.app p1⟩ ?_
    cases e2 : callR S (true :: ms) (.b (ρ1.length + z.2.length) :: z.1) (ρ1 ++ z.2 ++ [.ins c []]) with
    | bad => rw [e2] at q; exact q
    | err x' ρ' =>
      rw [e2] at q
      intro F' H' A' c' a s' g' ex
      rw [List.append_assoc] at s'
      have s2 := s'.cut
      rw [← l2] at s2
      exact q F' H' _ c' a s2 (g'.sub fun b h => cut_ownd h) ex
    | ok ov ρ2 =>
      obtain ⟨o, rfl⟩ := callR_o e2
      rw [e2] at q
      unfold endMake at q
      split at q
      · rename_i ov' ρ3 e4
        split at e4
        · rename_i ρ4 e5
          cases e5
          intro v F' H' A' B s' g' r nd dj
          obtain ⟨rB, rv⟩ := r
          have n : gt ρ2 (ρ1.length + z.2.length) ≠ .gone := fun y => by rw [y] at e4; cases e4
          have eo : ov' = .o (gt ρ2 (ρ1.length + z.2.length)) ∧ ρ3 = ρ2.take ρ1.length := by
            cases y : gt ρ2 (ρ1.length + z.2.length) with
            | gone => exact absurd y n
            | _ => rw [y] at e4; cases e4; exact ⟨rfl, rfl⟩
          obtain ⟨rfl, rfl⟩ := eo
          obtain ⟨v', ev, ro⟩ := (s'.sl (ρ1.length + z.2.length)).own n
          rw [atn] at ev
          cases ev
          have sA := s'
          rw [List.append_assoc] at sA
          have s2 := sA.cut
          rw [← l2] at s2
          refine ⟨rv.1, q (.ref x0) F' H' _ (A' (ρ1.length + z.2.length)) s2 (g'.sub fun b h => h.elim (fun h => .inl (cut_ownd h)) fun h => .inl ⟨_, h⟩) ro (s'.nd _) fun b hb ⟨i, hi⟩ => ?_⟩
          dsimp only at hi
          split at hi
          · rename_i hlt
            exact s'.dis i (ρ1.length + z.2.length) (by omega) b hi hb
          · cases hi
        · cases e4
        · cases e4
        · cases e4
      · rename_i x' ρ3 e4
        split at e4
        · split at e4 <;> cases e4
        · cases e4
        · rename_i e5; cases e5
        · cases e4
      · exact q.elim
theorem ee_meth {pl : Sem Bool} {c : Nat} {m : Str} {S : FS} {ms : List Bool} {t : Rho → Res OV} {ts : Rho → Res (List Opd × Rho)} {k : Nat} {f : Addr} {fd : FuncData} {ps : List Str} (ho : EE X cl (wE E) o t) (C : Cls X.K (cl c)) (M : Meth X.K (cl c) m f) (Fn : FnOk X.prog X.w X.K X.mg X.base (L2.CX X.prog X.w) k f fd ps (spD X.K cl S)) (hr : Room k X.A) (hb : Binds X.K fd ps [])
    (hx : Passes (L2.CX X.prog X.w) X E) (ha : EX X cl (wE E) (e :: es) ts) (hst : starEach (e :: es) X.env = (false, eval e X.env) :: starEach es X.env := by rfl) (hpl : (backTo pos (starEach es X.env)).any (·.1) = false := by rfl)
    (ht : eval (.Call (.Attribute o m apos) (e :: es) [] pos) X.env = (do
      let ov ← eval o X.env
      standAt apos.atName
      let (f, first) ← holding [ov] (getMethod ov m pl)
      callWith pos f first (backTo pos (starEach (e :: es) X.env)) (backToKw pos (keywordEach [] X.env))) := by rfl) :
    EE X cl (wE E) (.Call (.Attribute o m apos) (e :: es) [] pos) (evMeth c m S ms t ts) := by
  refine PE.imp (pe_meth ho C M Fn hr hb .nil hx ha hst hpl ht) fun σ H Q ⟨F, ρ, A, s, q⟩ => ⟨F, ρ, A, s, ?_⟩
  unfold evMeth at q
  cases e1 : t ρ with
  | bad => rw [e1] at q; exact q
  | err x ρ' => rw [e1] at q; exact q
  | ok ov ρ1 =>
    rw [e1] at q
    intro v F1 H1 A1 B s1 g1 r1 nd dj
    dsimp only [Res.bind] at q
    by_cases hc : ovCls m ρ1 ov = some c
    · rw [if_pos hc] at q
      obtain ⟨a, dx, vs, ev, hh, hl⟩ := ovCls_at s1 r1 hc
      refine ⟨a, dx, vs, ev, hh, hl, xc_sem (A := A) (F := F) (H := H) (Q := fun us H2 => spD X.K cl S (us ++ []) H2 Q E) s1 g1 r1 nd dj ?_⟩
      cases e2 : xc ov ts ρ1 with
      | bad => rw [e2] at q; exact q
      | err x ρ' => rw [e2] at q; exact q
      | ok z ρ2 =>
        rw [e2] at q
        intro us tv F2 H2 A2 l1 l2 s2 g2 p2
        rw [List.append_nil]
        exact callX_sp l2 s2 g2 p2 q
    · rw [if_neg hc] at q
      exact q.elim
theorem ee_meth0 {pl : Sem Bool} {c : Nat} {m : Str} {S : FS} {ms : List Bool} {t : Rho → Res OV} {k : Nat} {f : Addr} {fd : FuncData} {ps : List Str} (ho : EE X cl (wE E) o t) (C : Cls X.K (cl c)) (M : Meth X.K (cl c) m f) (Fn : FnOk X.prog X.w X.K X.mg X.base (L2.CX X.prog X.w) k f fd ps (spD X.K cl S)) (hr : Room k X.A) (hb : Binds X.K fd ps [])
    (hx : Passes (L2.CX X.prog X.w) X E)
    (ht : eval (.Call (.Attribute o m apos) [] [] pos) X.env = (do
      let ov ← eval o X.env
      standAt apos.atName
      let (f, first) ← holding [ov] (getMethod ov m pl)
      callWith pos f first (backTo pos (starEach [] X.env)) (backToKw pos (keywordEach [] X.env))) := by rfl) :
    EE X cl (wE E) (.Call (.Attribute o m apos) [] [] pos) (evMeth c m S ms t evXNil) := by
  refine PE.imp (pe_meth0 ho C M Fn hr hb .nil hx ht) fun σ H Q ⟨F, ρ, A, s, q⟩ => ⟨F, ρ, A, s, ?_⟩
  unfold evMeth at q
  cases e1 : t ρ with
  | bad => rw [e1] at q; exact q
  | err x ρ' => rw [e1] at q; exact q
  | ok ov ρ1 =>
    rw [e1] at q
    intro v F1 H1 A1 B s1 g1 r1 nd dj
    dsimp only [Res.bind] at q
    by_cases hc : ovCls m ρ1 ov = some c
    · rw [if_pos hc] at q
      obtain ⟨a, dx, vs, ev, hh, hl⟩ := ovCls_at s1 r1 hc
      have key : LX X.K cl (wE E) evXNil σ H1 fun us H2 => spD X.K cl S ((v :: us) ++ []) H2 Q E := xc_sem (A := A) (F := F) (H := H) (Q := fun us H2 => spD X.K cl S (us ++ []) H2 Q E) s1 g1 r1 nd dj (by
        cases e2 : xc ov evXNil ρ1 with
        | bad => rw [e2] at q; exact q
        | err x ρ' => rw [e2] at q; exact q
        | ok z ρ2 =>
          rw [e2] at q
          intro us tv F2 H2 A2 l1 l2 s2 g2 p2
          rw [List.append_nil]
          exact callX_sp l2 s2 g2 p2 q)
      obtain ⟨F2, ρ2, A2, s2, q2⟩ := key
      have := q2 [] [] F2 H1 A2 rfl s2.len (by simpa using s2) Gr.refl rfl
      exact ⟨a, dx, vs, ev, hh, hl, this⟩
    · rw [if_neg hc] at q
      exact q.elim
end
/-- a method's place -/
structure MethAt (K : PySem.W.Frag) (C : Addr) (m qual : Str) (st : Stmt) (ps : List Str) (f : Addr) (fd : FuncData) : Prop where
  fn : Fun K m qual st f fd
  me : Meth K C m f
  bd : Binds K fd ps []
end DL
/-! DL23: list(d), all, any. -/
namespace L2
open PySem PySem.Spec PyProof.Rows
def rListR : List V → Hp → VK → Prop := fun xs H Q => ∃ p kvs, xs = [.ref p] ∧ Rd H p (.dK kvs) ∧ ∀ q, H q = none → Q (.ref q) (upd H q (.lst (kvs.map fun kv => kV kv.1)))
theorem call_list_dR {X : Cx} (hc : X.calm = true) : CallR X (.type "list") rListR := by
  intro pins s σ H xs us Q I r h
  obtain ⟨p, kvs, e, hk, q⟩ := h
  subst e
  obtain ⟨u, eu, rx⟩ := vals1 r
  subst eu
  obtain rfl : u = Value.ref p := rx
  obtain ⟨z, lo, vs, rk, hd⟩ := dk_rd I.hok hk
  obtain ⟨ep, hat⟩ := hd.dictAt
  have hl : kvs.length = vs.length := Paired.length rk
  refine PySem.W.kdl_call (PySem.W.kdl_dict (knd := mixKind X.prog X.w) (kvs := vs) (ep := ep) lo) (I.ok.hd hc) hat (by rw [← hl]; exact z) fun h' tk acc' c' hkeep hS hacc => ?_
  refine ⟨.ref s.heap.objs.size, upd H s.heap.objs.size (.lst (kvs.map fun kv => kV kv.1)), I.laid hkeep (Nat.le_refl _) (show ObjOk X.prog X.w _ _ _ (.lst (kvs.map fun kv => kV kv.1)) from ⟨?_, acc'.toList, c', ?_, ?_⟩), rfl, q _ (I.hok.fresh (Nat.le_refl _))⟩
  · rw [List.length_map]
    exact z
  · have el : acc'.toList.length = acc'.size := by simp
    refine vals_of_at (by rw [List.length_map, el, hacc.1, hl]) fun j x w h1 h2 => ?_
    obtain ⟨k, y, hky, hi⟩ := hacc.2 j w (by rw [← Array.getElem?_toList]; exact h2)
    have e1 : (kvs.map (·.1))[j]? = some k := by
      rw [KV.keys rk, List.getElem?_map, hky] <;> rfl
    have e2 : (kvs.map fun kv => kV kv.1)[j]? = some (kV k) := by
      have e3 : (kvs.map fun kv => kV kv.1) = (kvs.map (·.1)).map kV := by rw [List.map_map] <;> rfl
      rw [e3, List.getElem?_map, e1] <;> rfl
    rw [e2] at h1
    cases h1
    exact keyIs_rel hi
  · rw [Array.toArray_toList]
    exact hS
end L2
namespace DL
open PySem L2
noncomputable section
section
variable {K : PySem.W.Frag} {cl : Nat → Addr} {F F' H H' : Hp} {Q : VK}
@[simp] def pListD : List D → Option OD
  | [.dic kvs] => some (.lst (fzs (dkeys kvs)))
  | _ => none
theorem keys_reps : ∀ {kvs : List (Key × D)} {vs : List (Key × V)}, RepK K cl F kvs vs → Reps K cl F (dkeys kvs) (vs.map fun kv => kV kv.1)
  | [], _, h => by rw [show _ = [] from h]; rfl
  | (k, d) :: kvs, _, ⟨u, us, e, _, q⟩ => by subst e; exact ⟨_, _, rfl, keyD_rep, keys_reps q⟩
theorem pr_listD : PrimOk K cl pListD rListR := fun F H ds vs o Q sb r e q => by
  unfold pListD at e
  split at e
  · cases e
    obtain ⟨x, rfl, a, us, rfl, hq, rr⟩ := reps1 r
    exact ⟨a, us, rfl, (sb _ _ hq).1, vq_lst (keys_reps rr) sb q⟩
  · cases e
@[simp] def pQuant (f : List Bool → Bool) : List D → Option OD
  | [.lst ds] => match bools ds with
    | some bs => some (.fz (.v (.bl (f bs))))
    | none => none
  | _ => none
theorem pr_quant {f : List Bool → Bool} : PrimOk K cl (pQuant f) (fun vs H Q => ∃ (a : Addr) (bs : List Bool), vs = [V.ref a] ∧ SqL K H a (bs.map V.bl) ∧ Q (.bl (f bs)) H) := fun F H ds vs o Q sb r e q => by
  unfold pQuant at e
  split at e
  · split at e
    · rename_i bs e1
      cases e
      obtain ⟨x, rfl, a, us, rfl, hq, rr⟩ := reps1 r
      have := bools_rep e1 rr
      subst this
      exact ⟨a, bs, rfl, sb_sqL sb (SqL.of hq), vq_v trivial sb q⟩
    · cases e
  · cases e
end
section
variable {X : Cx} {cl : Nat → Addr} {W : WX} {a : Expr} {ts : Rho → Res (List Opd)} {pos p : Pos}
theorem ee_listA (hc : X.calm = true) (hg : Gl X "list") (hm : X.mg "list" = none) (ha : EA X cl W [a] ts) (he : starEach [a] X.env = (false, eval a X.env) :: starEach [] X.env := by rfl) : EE X cl W (.Call (.Name "list" p) [a] [] pos) (evN (alt pListOf pListD) ts) :=
  ee_altN (ee_list hg hm ha he) (ee_callTy (call_list_dR hc) pr_listD hg hm (by decide +kernel) ha (by decide) (by decide) he rfl)
theorem ee_all (hc : X.calm = true) (hg : Gl X "all") (hm : X.mg "all" = none) (ha : EA X cl W [a] ts) (he : starEach [a] X.env = (false, eval a X.env) :: starEach [] X.env := by rfl) : EE X cl W (.Call (.Name "all" p) [a] [] pos) (evN (pQuant fun bs => bs.all id) ts) :=
  ee_callB (cr_all hc) pr_quant hg hm (by decide +kernel) ha (by decide) (by decide) he rfl
theorem ee_any (hc : X.calm = true) (hg : Gl X "any") (hm : X.mg "any" = none) (ha : EA X cl W [a] ts) (he : starEach [a] X.env = (false, eval a X.env) :: starEach [] X.env := by rfl) : EE X cl W (.Call (.Name "any" p) [a] [] pos) (evN (pQuant fun bs => bs.any id) ts) :=
  ee_callB (cr_any hc) pr_quant hg hm (by decide +kernel) ha (by decide) (by decide) he rfl
end
section
variable {X : Cx} {cl : Nat → Addr} {W : WX} {a : Expr} {ta : Rho → Res Opd} {pos p p2 pos2 : Pos}
/-- list(range(e)) -/
@[simp] def evLrng (ta : Rho → Res Opd) : Rho → Res OV := fun ρ => match ta ρ with
  | .ok (.d (.v (.int j))) ρ1 => if inZ j = true then .ok (.o (.lst (fzs (rngD 0 j.toNat)))) ρ1 else .bad
  | .ok _ _ => .bad
  | .err x ρ1 => .err x ρ1
  | .bad => .bad
theorem rng_reps {K : PySem.W.Frag} {F : Hp} {j : Int} : Reps K cl F (rngD 0 j.toNat) (rgV 0 j) := by
  have key : ∀ l : List Nat, Reps K cl F (l.map fun (i : Nat) => D.v (.int (0 + i))) (l.map fun i => V.int (0 + (i : Nat))) := fun l => by
    induction l with
    | nil => rfl
    | cons n l ih => exact ⟨_, _, rfl, ⟨rfl, trivial⟩, ih⟩
  unfold rngD rgV
  rw [Int.sub_zero]
  exact key _
theorem ee_lrng (hc : X.calm = true) (hg : Gl X "list") (hm : X.mg "list" = none) (hg2 : Gl X "range") (hm2 : X.mg "range" = none) (ha : EP' X cl W a ta) (na : starEach [a] X.env = (false, eval a X.env) :: starEach [] X.env := by rfl)
    (nb : starEach [.Call (.Name "range" p2) [a] [] pos2] X.env = (false, eval (.Call (.Name "range" p2) [a] [] pos2) X.env) :: starEach [] X.env := by rfl) : EE X cl W (.Call (.Name "list" p) [.Call (.Name "range" p2) [a] [] pos2] [] pos) (evLrng ta) := by
  refine PE.imp (pe_listRg hc hg hm (prg_1 hg2 hm2 ha na) nb) fun σ H Q ⟨F, ρ, A, s, q⟩ => ⟨F, ρ, A, s, ?_⟩
  unfold evLrng at q
  cases e1 : ta ρ with
  | bad => rw [e1] at q; exact q
  | err x ρ' => rw [e1] at q; exact q
  | ok o ρ1 =>
    rw [e1] at q
    intro v F1 H1 A1 s1 g1 p1
    cases o with
    | b _ => exact q.elim
    | d d =>
      cases d with
      | v x =>
        cases x with
        | int j =>
          dsimp only at q
          by_cases hb : inZ j = true
          · rw [if_pos hb] at q
            obtain ⟨h1, h2⟩ := inZ_iff.mp hb
            refine ⟨j, p1.1, RgOk.of_le (by decide) h2 (by decide) h1, fun l hl => ?_⟩
            refine vq_lst (K := X.K) (cl := cl) (F := F1) rng_reps s1.sub (fun v F' H' B r nd sb g => ?_) l hl
            refine q v F' H' A1 B (s1.mono g.ff sb fun b hb => ⟨?_, fun y hy => g.keep b y hy id⟩) (g1.trans ⟨fun b o h n => g.keep b o h id, g.ff, fun b w n => g.new b w id, fun b h => h.elim .inl fun h => (g.ow b h).elim (fun z => z.elim) .inr⟩) r nd fun b hb z => ?_
            · rw [g.new b (s1.at_ hb).2 id]
              exact (s1.at_ hb).1
            · rcases g.ow b hb with y | y
              · exact y
              · have := (s1.at_ z).2
                rw [y] at this
                exact this
          · rw [if_neg hb] at q
            exact q.elim
        | _ => exact q.elim
      | _ => exact q.elim
end
/-- block contexts: their exceptions are none -/
theorem passes_blk {P : Program} {w : World} {X : Cx} {s : Shared} {H : Hp} {scope : Scope} {cenv : Env} {fp : List Addr} : Passes (L2.CX P w) (X.blk s H scope cenv fp) (fun _ _ _ => False) := by
  intro pins σ H s e s' _ h
  obtain ⟨_, _, _, _, _, _, _, _, _, _, _, _, z⟩ := h
  exact z
end
end DL
/-! DL24: for over a name or a field of any kind; facts of classes. -/
namespace DL
open PySem L2
@[simp] def iterA : D → Option (List D)
  | .dic kvs => some (dkeys kvs)
  | .dct kvs => some (tkeys kvs)
  | .lst ds => some ds
  | .tup ds => some ds
  | .wtp ds => some ds
  | .wls ds => some ds
  | .v (.str z) => some (z.cps.toList.map sgn)
  | _ => none
@[simp] def evItL (l : Rho → Option (D × Rho)) : Rho → Option (List D × Rho) := fun ρ => match l ρ with
  | some (d, ρ') => (match iterA d with
    | some ds => some (ds, ρ')
    | none => none)
  | none => none
theorem evItL_or {l : Rho → Option (D × Rho)} {ρ ρ' : Rho} {ds : List D} (h : evItL l ρ = some (ds, ρ')) : evKeys l ρ = some (ds, ρ') ∨ evIt iterD (evS (evL l)) ρ = .ok ds ρ' := by
  unfold evItL at h
  cases e : l ρ with
  | none => rw [e] at h; cases h
  | some z =>
    obtain ⟨d, ρ1⟩ := z
    rw [e] at h
    cases d with
    | dic kvs => cases h; left; simp [e]
    | dct kvs => cases h; left; simp [e]
    | lst ds => cases h; right; simp [e]
    | tup ds => cases h; right; simp [e]
    | wtp ds => cases h; right; simp [e]
    | wls ds => cases h; right; simp [e]
    | ins _ _ => cases h
    | exc _ _ => cases h
    | v x =>
      cases x with
      | str z => cases h; right; simp [e]
      | _ => cases h
section
variable {X : Cx} {cl : Nat → Addr} {W : WX} {pn : List Nat} {pos : Pos}
theorem es_forL {tg iter : Expr} {body : List Stmt} {st : List Nat} {l : Rho → Option (D × Rho)} {g : GR} {b : Rho → Res Fl} (hp : PassesOwn (model X.prog X.w) X.A X.env X.xe) (hc : X.calm = true) (hi : EL X cl iter l) (hg : EG X cl st tg g) (hb : ESs X cl pn W body b)
    (hst : (st.all fun i => !pn.contains i) = true := by decide) (hs : ∀ x, foldedSetIterable iter X.env x = pure x := by intro _; rfl) : ES X cl pn W (.For tg iter body [] pos) (sForD (evItL l) g b) := by
  refine PS.imp (PS.or (es_forD (W := W) hp hc (ds_keys hi) hg hb hst hs) (es_for (W := W) hp hc (ei_seq (ee_s (ee_l hi))) hg hb hst hs)) fun E σ H ⟨F, ρ, A, s, q⟩ => ?_
  unfold sForD at q
  cases e : evItL l ρ with
  | none => rw [e] at q; exact q.elim
  | some z =>
    obtain ⟨ds, ρ1⟩ := z
    rw [e] at q
    rcases evItL_or e with h | h
    · refine .inl ⟨F, ρ, A, s, ?_⟩
      unfold sForD
      rw [h]
      exact q
    · refine .inr ⟨F, ρ, A, s, ?_⟩
      unfold sFor
      rw [h]
      exact q
theorem ee_lcL {elt tg iter : Expr} {ifs : List Expr} {scope : Scope} {own : List (Str × Nat)} {st : List Nat} {l : Rho → Option (D × Rho)} {g : GR} {c : Rho → Res Bool} {e : Rho → Res Opd} (hc : X.calm = true) (hN : X.N.Nodup) (hi : EL X cl iter l) (ok : BlkOk X.N X.env.scope scope own) (p : LcP X cl st scope tg ifs elt g c e)
    (nd : nodupB (own.map (·.2)) = true := by decide) (hst : (st.all fun i => (own.map (·.2)).contains i) = true := by decide) (hs : ∀ x, foldedSetIterable iter X.env x = pure x := by intro _; rfl) : EE X cl W (.ListComp elt [⟨tg, iter, ifs, 0⟩] scope pos) (evLcD (evItL l) g c e (own.map (·.2))) := by
  refine PE.imp (PE.or (ee_lcD (W := W) hc hN (ds_keys hi) ok p nd hst hs) (ee_lc (W := W) hc hN (ei_seq (ee_s (ee_l hi))) ok p nd hst hs)) fun σ H Q ⟨F, ρ, A, s, q⟩ => ?_
  unfold evLcD at q
  cases e : evItL l ρ with
  | none => rw [e] at q; exact q.elim
  | some z =>
    obtain ⟨ds, ρ1⟩ := z
    rw [e] at q
    rcases evItL_or e with h | h
    · refine .inl ⟨F, ρ, A, s, ?_⟩
      unfold evLcD
      rw [h]
      exact q
    · refine .inr ⟨F, ρ, A, s, ?_⟩
      unfold evLc
      rw [h]
      exact q
theorem es_setLcL {i : Nat} {y : Str} {py : Pos} {elt tg iter : Expr} {ifs : List Expr} {scope : Scope} {own : List (Str × Nat)} {st : List Nat} {pos spos : Pos} {l : Rho → Option (D × Rho)} {g : GR} {c : Rho → Res Bool} {e : Rho → Res Opd} (hp : i ∉ pn) (hc : X.calm = true) (hN : X.N.Nodup) (hy : X.N[i]? = some y) (hyl : X.env.scope.names.lookup y = some .local)
    (hsw : swapsWith (.ListComp elt [⟨tg, iter, ifs, 0⟩] scope pos) (some (.Name y py)) spos.line X.env = pure true) (hi : EL X cl iter l) (ok : BlkOk X.N X.env.scope scope own) (p : LcP X cl st scope tg ifs elt g c e)
    (nd : nodupB (own.map (·.2)) = true := by decide) (hst : (st.all fun i => (own.map (·.2)).contains i) = true := by decide) (hs : ∀ x, foldedSetIterable iter X.env x = pure x := by intro _; rfl) : ES X cl pn W (.Assign [.Name y py] (.ListComp elt [⟨tg, iter, ifs, 0⟩] scope pos) spos) (sSet i (evLcD (evItL l) g c e (own.map (·.2)))) := by
  refine PS.imp (PS.or (es_setLcD (W := W) hp hc hN hy hyl hsw (ds_keys hi) ok p nd hst hs) (es_setLc (W := W) hp hc hN hy hyl hsw (ei_seq (ee_s (ee_l hi))) ok p nd hst hs)) fun E σ H ⟨F, ρ, A, s, q⟩ => ?_
  have key : evLcD (evItL l) g c e (own.map (·.2)) ρ = evLcD (evKeys l) g c e (own.map (·.2)) ρ ∨ evLcD (evItL l) g c e (own.map (·.2)) ρ = evLc (evIt iterD (evS (evL l))) g c e (own.map (·.2)) ρ ∨ evLcD (evItL l) g c e (own.map (·.2)) ρ = .bad := by
    unfold evLcD
    cases e : evItL l ρ with
    | none => exact .inr (.inr rfl)
    | some z =>
      obtain ⟨ds, ρ1⟩ := z
      rcases evItL_or e with h | h
      · left; rw [h]
      · right; left; unfold evLc; rw [h]
  unfold sSet at q
  rcases key with h | h | h
  · exact .inl ⟨F, ρ, A, s, by unfold sSet; rw [← h]; exact q⟩
  · exact .inr ⟨F, ρ, A, s, by unfold sSet; rw [← h]; exact q⟩
  · rw [h] at q
    exact q.elim
theorem fo_nil {K : PySem.W.Frag} {f : Str} : FldOk K cl [] f := fun c h => by cases h
theorem fo_cons {K : PySem.W.Frag} {f : Str} {c : Nat} {cs : List Nat} (h : Cls K (cl c)) (h' : NoAttr K (cl c) f) (t : FldOk K cl cs f) : FldOk K cl (c :: cs) f := fun c' h'' => (List.mem_cons.mp h'').elim (fun z => by rw [z]; exact ⟨h, h'⟩) (t c')
end
theorem meth_mk {K : PySem.W.Frag} {C : Addr} {m qual : Str} {st : Stmt} {ps : List Str} {f : Addr} {od an : Option Addr} {sl : Array (Option Value)} {oc kV dc pm cd ct : Value}
    (a : PySem.W.findIn K (.ref C) m = some (some (.ref f))) (i : PySem.W.isFn K (.ref f) = true)
    (l : K.lookup f = some ⟨oc, od, .func (PySem.W.fnOf m qual (defArgs st) (defBody st) (defScope st) .none kV dc pm an cd ct), sl⟩)
    (c : PySem.W.codeIn K cd qual = true) (k : PySem.W.keepIn K (.ref f) = true)
    (hb : ∀ (kV doc pm : Value) (an : Option Addr) (cdv ct : Value) (us : List Value), us.length = ps.length → bindArgs (PySem.W.fnOf m qual (defArgs st) (defBody st) (defScope st) .none kV doc pm an cdv ct) ⟨us, []⟩ = pure (ps.zip us)) :
    ∃ f fd, MethAt K C m qual st ps f fd :=
  have F1 := fun_mk (st := st) l c k
  ⟨f, _, F1, ⟨a, i, k⟩, F1.binds (ps := ps) hb⟩
/-- a class's place -/
structure ClsAt (K : PySem.W.Frag) (mg : Str → Option Value) (x : Str) (C : Addr) : Prop where
  g : mg x = some (.ref C)
  c : Cls K C
  ma : PySem.W.makesIn K C = true
  kp : PySem.W.keepIn K (.ref C) = true
theorem cls_mk {K : PySem.W.Frag} {h : Heap} {mg : Str → Option Value} {x : Str} {C : Addr} (X : K.In h) (G : h.Ns mainGlobals mg) (a : PySem.W.nsIn K mainGlobals x = some (some (.ref C)))
    (pg : PySem.W.plainGet K C Str.empty = true) (hd : PySem.W.hasDictIn K C = true) (po : PySem.W.plainOver K C = true) (sa : PySem.W.findIn K (.ref C) "__setattr__" = some (some (.builtin "object.__setattr__"))) (mk : PySem.W.makesIn K C = true) (kc : PySem.W.keepIn K (.ref C) = true) :
    ClsAt K mg x C := ⟨PySem.W.mg_of X G a, ⟨pg, hd, po, sa⟩, mk, kc⟩
theorem ClsAt.mkd {K : PySem.W.Frag} {mg : Str → Option Value} {x : Str} {C : Addr} {qual : Str} {st : Stmt} {ps : List Str} {f : Addr} {fd : FuncData} (c : ClsAt K mg x C) (m : MethAt K C "__init__" qual st ps f fd) : Mk K C f := ⟨c.ma, m.me.at_, m.me.fn, c.kp⟩
/-- an own thing that is never written again is frozen when it is handed on -/
@[simp] def evFz (t : Rho → Res OV) : Rho → Res OV := fun ρ => (t ρ).bind fun ov ρ1 => match ov with
  | .b i => (match gt ρ1 i with
    | .gone => .bad
    | o => .ok (.o (.fz o.toD)) (ρ1.set i (.fz o.toD)))
  | .o o => .ok (.o o) ρ1
theorem ee_fz {X : Cx} {cl : Nat → Addr} {W : WX} {e : Expr} {t : Rho → Res OV} (h : EE X cl W e t) : EE X cl W e (evFz t) := by
  refine PE.imp h fun σ H Q ⟨F, ρ, A, s, q⟩ => ⟨F, ρ, A, s, ?_⟩
  unfold evFz at q
  cases e1 : t ρ with
  | bad => rw [e1] at q; exact q
  | err x ρ' => rw [e1] at q; exact q
  | ok ov ρ' =>
    rw [e1] at q
    intro v F' H' A' B s' g r nd dj
    cases ov with
    | o o => exact q v F' H' A' B s' g r nd dj
    | b i =>
      obtain ⟨rfl, hv⟩ := r
      have n : gt ρ' i ≠ .gone := fun z => by
        dsimp only [Res.bind] at q
        rw [z] at q
        exact q
      obtain ⟨F2, A2, s2, r2, g2⟩ := freezeSlot s' n hv
      have q' : ∀ v F'_1 H' A' B, Sto X.K cl F'_1 H' σ (ρ'.set i (.fz (gt ρ' i).toD)) A' → Gr (ownd A) (fun b => ownd A' b ∨ b ∈ B) F H F'_1 H' → Own X.K cl F'_1 H' (.fz (gt ρ' i).toD) v B → B.Nodup → (∀ b ∈ B, ¬ ownd A' b) → Q v H' := by
        dsimp only [Res.bind] at q
        cases z : gt ρ' i with
        | gone => exact absurd z n
        | _ => rw [z] at q; exact q
      exact q' v F2 H' A2 [] s2 (gr1 ((gr0 g).trans g2)) ⟨rfl, r2⟩ List.nodup_nil fun b hb => by cases hb
/-- what the law promises, whatever its data -/
def spLaw (K : PySem.W.Frag) : Sp := fun vs H Q _ => ∃ (a : Addr) (ns : List Int), vs = [.ref a] ∧ SqL K H a (ns.map V.int) ∧ ns.length ≤ 63 ∧ ∀ H', Q (.bl true) H'
theorem law_sp' {K : PySem.W.Frag} {cl : Nat → Addr} {S : FS} (h : ∀ ns : List Int, ns.length ≤ 63 → ∃ ρ', S [.fz (.wls (ns.map fun n => .v (.int n)))] = .ok (.fz (.v (.bl true))) ρ') : ∀ (vs : List V) (H : Hp) (Q : VK) (E : XK), spLaw K vs H Q E → spD K cl S vs H Q E := by
  rintro vs H Q E ⟨a, ns, rfl, hS, hl, hq⟩
  obtain ⟨ρ', h⟩ := h ns hl
  have rp : ∀ (F : Hp) (ns : List Int), Reps K cl F (ns.map fun n => D.v (.int n)) (ns.map V.int) := fun F ns => by
    induction ns with
    | nil => rfl
    | cons n ns ih => exact ⟨_, _, rfl, ⟨rfl, trivial⟩, ih⟩
  have hF : SqL K (fun b => if b = a then H a else none) a (ns.map V.int) := by
    rcases hS with (z | ⟨o, z⟩) | z
    · exact .inl (.inl ((if_pos rfl).trans z))
    · exact .inl (.inr ⟨o, (if_pos rfl).trans z⟩)
    · exact .inr z
  refine ⟨fun b => if b = a then H a else none, [.fz (.wls (ns.map fun n => .v (.int n)))], fun _ => [], ⟨fun b o e => ?_, rfl, fun i => ?_, fun _ _ _ b z => (by cases z), fun _ => List.nodup_nil⟩, ?_⟩
  · split at e
    · rename_i z
      rw [z]
      exact ⟨.inl e, fun _ => e⟩
    · cases e
  · cases i with
    | zero => exact ⟨.ref a, rfl, rfl, a, _, rfl, hF, rp _ ns⟩
    | succ i => rfl
  · unfold FS.ov
    rw [h]
    exact fun v F' H' A' B _ _ r _ _ => by
      rw [r.2.1]
      exact hq H'
end DL
/-! DL25: what is stored at a name is frozen there. -/
namespace DL
open PySem L2
@[simp] def sFz (i : Nat) (t : Rho → Res Fl) : Rho → Res Fl := fun ρ => match t ρ with
  | .ok .next ρ1 => (match gt ρ1 i with
    | .gone => .bad
    | o => .ok .next (ρ1.set i (.fz o.toD)))
  | r => r
section
variable {X : Cx} {cl : Nat → Addr} {W : WX} {pn : List Nat}
theorem es_fz {st : Stmt} {i : Nat} {t : Rho → Res Fl} (h : ES X cl pn W st t) : ES X cl pn W st (sFz i t) := by
  refine PS.imp h fun D σ H ⟨F, ρ, A, s, q⟩ => ⟨F, ρ, A, s, ?_⟩
  unfold sFz at q
  cases e : t ρ with
  | bad => rw [e] at q; exact q
  | err x ρ' => rw [e] at q; exact q
  | ok f ρ1 =>
    cases f with
    | brk => rw [e] at q; exact q
    | cont => rw [e] at q; exact q
    | ret ov => rw [e] at q; exact q
    | next =>
      rw [e] at q
      dsimp only at q
      intro σ' F' H' A' s' g' p'
      have n : gt ρ1 i ≠ .gone := fun z => by
        rw [z] at q
        exact q
      obtain ⟨v, hv, _⟩ := (s'.sl i).own n
      obtain ⟨F2, A2, s2, r2, g2⟩ := freezeSlot s' n hv
      have q' : ∀ σ' F' H' A', Sto X.K cl F' H' σ' (ρ1.set i (.fz (gt ρ1 i).toD)) A' → Gr (ownd A) (ownd A') F H F' H' → (∀ i ∈ pn, σ'[i]? = σ[i]?) → D.nx σ' H' := by
        cases z : gt ρ1 i with
        | gone => exact absurd z n
        | _ => rw [z] at q; exact q
      exact q' σ' F2 H' A2 s2 (g'.trans g2) p'
end
end DL
/-! DL26: xs.extend, pop, clear, index, in of data, sum, dict(d), {} for tuples as keys, a written tuple. -/
namespace DL
open PySem L2
noncomputable section
section
variable {K : PySem.W.Frag} {cl : Nat → Addr} {F F' H H' : Hp} {Q : VK}
theorem owns_appends : ∀ {ds : List D} {os : List OD} {us vs : List V} {B : List Addr}, Owns K cl F H os vs B → Reps K cl F ds us → Owns K cl F H (os ++ fzs ds) (vs ++ us) B
  | [], os, us, vs, B, h, r => by rw [show us = [] from r]; simpa using h
  | d :: ds, os, us, vs, B, h, ⟨u, us', e, r, q⟩ => by
    subst e
    have := owns_appends (owns_append h r) q
    rw [List.append_assoc, List.append_assoc] at this
    exact this
/-! ### pop, clear, remove -/
theorem six {i : Int} {n : Nat} (h0 : 0 ≤ i) (h : i.toNat < n) : seqIndex? i n = some i.toNat := by
  unfold seqIndex?
  have h1 : ¬ i < 0 := by omega
  simp only [h1, if_false]
  rw [if_pos]
  simp
  omega
@[simp] def gPop1 : List D → List D → Option (List D × D)
  | xs, [.v (.int i)] => if (decide (0 ≤ i) && inR i) = true then (match xs[i.toNat]? with
    | some d => some (xs.eraseIdx i.toNat, d)
    | none => none) else none
  | _, _ => none
@[simp] def gPop0 : List D → List D → Option (List D × D)
  | xs, [] => match xs[xs.length - 1]? with
    | some d => some (xs.dropLast, d)
    | none => none
  | _, _ => none
theorem mu_pop1 : MutOk K cl (mLst gPop1) rPopAt := mu_lst fun F H p xs us ds vs ys d Q hh w rr sb e q => by
  unfold gPop1 at e
  split at e
  · rename_i i
    split at e
    · rename_i hb
      obtain ⟨h0, h1⟩ := Bool.and_eq_true_iff.mp hb
      have h0 := of_decide_eq_true h0
      have h1 := inR_iff.mp h1
      cases e1 : xs[i.toNat]? with
      | none => rw [e1] at e; cases e
      | some y =>
        rw [e1] at e
        cases e
        obtain ⟨x, rfl, rx⟩ := reps1 rr
        obtain ⟨v, hv, rv⟩ := reps_get w e1
        rw [rx.1]
        refine ⟨p, us, i, i.toNat, v, rfl, rfl, hh, ?_, ?_, six h0 (List.getElem?_eq_some_iff.mp hv).1, hv, q _ _ (reps_erase w) rv⟩
        · have : (-(2 ^ 63) : Int) ≤ 0 := by decide
          omega
        · have : ((2 ^ 62 : Int)) ≤ 2 ^ 63 := by decide
          omega
    · cases e
  · cases e
theorem mu_pop0 : MutOk K cl (mLst gPop0) rPop := mu_lst fun F H p xs us ds vs ys d Q hh w rr sb e q => by
  unfold gPop0 at e
  split at e
  · cases e1 : xs[xs.length - 1]? with
    | none => rw [e1] at e; cases e
    | some y =>
      rw [e1] at e
      cases e
      obtain rfl : vs = [] := rr
      obtain ⟨v, hv, rv⟩ := reps_get w e1
      have hl := reps_length w
      have e2 : us.dropLast = us.take (us.length - 1) := List.dropLast_eq_take
      have e3 : xs.dropLast = xs.take (xs.length - 1) := List.dropLast_eq_take
      refine ⟨p, us, v, rfl, rfl, hh, by rw [hl]; exact hv, q _ _ ?_ rv⟩
      rw [e2, e3, hl]
      exact reps_take _ w
  · cases e
@[simp] def gClear : List D → List D → Option (List D × D)
  | _, [] => some ([], .v .non)
  | _, _ => none
theorem mu_clear : MutOk K cl (mLst gClear) rClear := mu_lst fun F H p xs us ds vs ys d Q hh w rr sb e q => by
  unfold gClear at e
  split at e
  · cases e
    obtain rfl : vs = [] := rr
    exact ⟨p, us, rfl, rfl, hh, q [] _ rfl rep_non⟩
  · cases e
/-! ### index by data, sum, dict(d) -/
def firstAt (p : PyData → Bool) : List PyData → Option Nat
  | [] => none
  | x :: xs => if p x = true then some 0 else (firstAt p xs).map (· + 1)
theorem firstAt_some {p : PyData → Bool} : ∀ {xs : List PyData} {j : Nat}, firstAt p xs = some j → ∃ z, xs[j]? = some z ∧ p z = true ∧ ∀ (m : Nat) (z' : PyData), m < j → xs[m]? = some z' → p z' = false
  | [], j, h => by cases h
  | x :: xs, j, h => by
    unfold firstAt at h
    split at h
    · rename_i hp
      cases h
      exact ⟨x, rfl, hp, fun m z' hm => by omega⟩
    · rename_i hp
      cases e : firstAt p xs with
      | none => rw [e] at h; cases h
      | some k =>
        rw [e] at h
        obtain rfl : k + 1 = j := by simpa using h
        obtain ⟨z, h1, h2, h3⟩ := firstAt_some e
        refine ⟨z, by simpa using h1, h2, fun m z' hm hz => ?_⟩
        cases m with
        | zero =>
          simp at hz
          subst hz
          simpa using hp
        | succ m => exact h3 m z' (by omega) (by simpa using hz)
def firstP (p : PyData) (ps : List PyData) : Option Nat := firstAt (fun z => PyData.eqv z p) ps
@[simp] def pIndex : List D → Option OD
  | [.lst ds, d] => match pys ds with
    | none => none
    | some ps => match d.py with
      | none => none
      | some p => if (SeqAt.shaped (.list ps) && SeqAt.shaped p) = true then (match firstP p ps with
        | none => none
        | some j => some (.fz (.v (.int (j : Nat))))) else none
  | _ => none
theorem pr_index : PrimOk K cl pIndex (fun vs H Q => ∃ x y, vs = [x, y] ∧ rIndexD K x [y] H Q) := fun F H ds vs o Q sb r e q => by
  unfold pIndex at e
  split at e
  · rename_i es d
    cases e1 : pys es with
    | none => rw [e1] at e; cases e
    | some ps =>
      rw [e1] at e
      dsimp only at e
      cases e2 : d.py with
      | none => rw [e2] at e; cases e
      | some p =>
        rw [e2] at e
        dsimp only at e
        split at e
        · rename_i hs
          obtain ⟨s1, s2⟩ := Bool.and_eq_true_iff.mp hs
          cases e3 : firstP p ps with
          | none => rw [e3] at e; cases e
          | some j =>
            rw [e3] at e
            cases e
            obtain ⟨x, y, rfl, rx, ry⟩ := reps2 r
            obtain ⟨z, h1, h2, h3⟩ := firstAt_some e3
            obtain ⟨a, us, ex, hq, rr⟩ := rx
            exact ⟨x, y, rfl, a, y, p, ps, j, z, ex, rfl, .lst (sb_sqL sb (SqL.of hq)) (pys_dp sb es us ps e1 rr), py_dp sb d y p e2 ry, s1, s2, h1, h2, h3, vq_v trivial sb q⟩
        · cases e
  · cases e
@[simp] def intsD : List D → Option (List Int)
  | [] => some []
  | .v (.int i) :: ds => match intsD ds with
    | some is => some (i :: is)
    | none => none
  | _ :: _ => none
theorem intsD_rep : ∀ {ds : List D} {is : List Int} {vs : List V}, intsD ds = some is → Reps K cl F ds vs → vs = is.map V.int
  | [], is, vs, e, r => by cases e; exact r
  | .v (.int i) :: ds, is, vs, e, ⟨u, us, ev, r, q⟩ => by
    unfold intsD at e
    cases e1 : intsD ds with
    | none => rw [e1] at e; cases e
    | some js =>
      rw [e1] at e
      cases e
      rw [ev, r.1, intsD_rep e1 q]
      rfl
  | .v .non :: _, _, _, e, _ => by cases e
  | .v (.bl _) :: _, _, _, e, _ => by cases e
  | .v (.str _) :: _, _, _, e, _ => by cases e
  | .v (.byt _) :: _, _, _, e, _ => by cases e
  | .v (.flt _) :: _, _, _, e, _ => by cases e
  | .v (.ref _) :: _, _, _, e, _ => by cases e
  | .v (.ty _) :: _, _, _, e, _ => by cases e
  | .tup _ :: _, _, _, e, _ => by cases e
  | .wtp _ :: _, _, _, e, _ => by cases e
  | .lst _ :: _, _, _, e, _ => by cases e
  | .wls _ :: _, _, _, e, _ => by cases e
  | .dic _ :: _, _, _, e, _ => by cases e
  | .dct _ :: _, _, _, e, _ => by cases e
  | .ins _ _ :: _, _, _, e, _ => by cases e
  | .exc _ _ :: _, _, _, e, _ => by cases e
@[simp] def pSum : List D → Option OD
  | [.lst ds] => match intsD ds with
    | some is => some (.fz (.v (.int is.sum)))
    | none => none
  | _ => none
theorem pr_sum : PrimOk K cl pSum (rSum K) := fun F H ds vs o Q sb r e q => by
  unfold pSum at e
  split at e
  · split at e
    · rename_i is e1
      cases e
      obtain ⟨x, rfl, a, us, rfl, hq, rr⟩ := reps1 r
      have := intsD_rep e1 rr
      subst this
      exact ⟨a, is, rfl, sb_sqL sb (SqL.of hq), vq_v trivial sb q⟩
    · cases e
  · cases e
@[simp] def pDictOf : List D → Option OD
  | [.dic kvs] => some (.dic (fzK kvs))
  | _ => none
theorem pr_dictOf : PrimOk K cl pDictOf (fun xs H Q => ∃ (a : Addr) (kvs : List (Key × V)), xs = [.ref a] ∧ Rd H a (.dK kvs) ∧ ∀ p, H p = none → Q (.ref p) (upd H p (.dK kvs))) := fun F H ds vs o Q sb r e q => by
  unfold pDictOf at e
  split at e
  · cases e
    obtain ⟨x, rfl, a, us, rfl, hq, rr⟩ := reps1 r
    exact ⟨a, us, rfl, (sb _ _ hq).1, fun p hp => vq_own (K := K) (cl := cl) (o := .dic (fzK _)) hp sb ⟨p, us, [], rfl, rfl, sb_none sb hp, upd_same, fzK_own rr⟩ q⟩
  · cases e
end
section
variable {X : Cx} {cl : Nat → Addr} {W : WX} {pn : List Nat} {e a b : Expr} {ts : Rho → Res (List Opd)} {ta tb : Rho → Res Opd} {pos p apos : Pos}
/-! ### xs.extend(ys), ys new -/
@[simp] def extO (xs : OD) (ys : OD) : Option OD := match xs, ys with
  | .lst os, .lst ps => match allFz ps with
    | some ds => if decide (os.length + ds.length ≤ 16777216) = true then some (.lst (os ++ fzs ds)) else none
    | none => none
  | _, _ => none
@[simp] def evExt (i : Nat) (t : Rho → Res OV) : Rho → Res OV := fun ρ => match gt ρ i with
  | .lst _ => (t ρ).bind fun ov ρ1 => match ov with
    | .o ys => (match extO (gt ρ1 i) ys with
      | some o' => .ok (.o (.fz (.v .non))) (ρ1.set i o')
      | none => .bad)
    | .b _ => .bad
  | _ => .bad
theorem ee_extend {i : Nat} {t : Rho → Res OV} (he : PE X e (tVar i)) (ha : EE X cl W a t)
    (hbase : attributeBase e "extend" X.env (eval e X.env) = eval e X.env := by rfl) (hline : (apos.endLine == p.line) = true := by rfl) (hs : starEach [a] X.env = (false, eval a X.env) :: starEach [] X.env := by rfl) :
    EE X cl W (.Call (.Attribute e "extend" apos) [a] [] p) (evExt i t) := by
  refine PE.imp (pe_bm PySem.F.plainAttrs_list PySem.F.slot_list_extend PySem.F.type_list_extend mt_extend he (pa_cons ha pa_nil hs) hbase (by rw [hs]; rfl) hline hs rfl) fun σ H Q ⟨F, ρ, A, s, q⟩ => ?_
  unfold evExt at q
  cases e0 : gt ρ i with
  | lst os =>
    rw [e0] at q
    obtain ⟨v, ev, r⟩ := (s.sl i).own (by rw [e0]; exact fun z => by cases z)
    rw [e0] at r
    obtain ⟨p', vs, B, e1, e2, f0, hh, w⟩ := r
    subst e1
    refine ⟨_, ev, .inl ⟨rfl, vs, .inl (.inl hh)⟩, F, ρ, A, s, ?_⟩
    dsimp only at q
    cases e3 : t ρ with
    | bad => rw [e3] at q; exact q
    | err x ρ' => rw [e3] at q; exact q
    | ok ov ρ1 =>
      rw [e3] at q
      intro u F1 H1 A1 B1 s1 g1 r1 nd1 dj1
      dsimp only [Res.bind] at q
      cases ov with
      | b _ => exact q.elim
      | o ys =>
        dsimp only at q
        cases e4 : extO (gt ρ1 i) ys with
        | none => rw [e4] at q; exact q.elim
        | some o' =>
          rw [e4] at q
          unfold extO at e4
          split at e4
          · rename_i os1 ps e5
            split at e4
            · rename_i ds e6
              split at e4
              · rename_i hl
                cases e4
                obtain ⟨v1, ev1, r2⟩ := (s1.sl i).own (by rw [e5]; exact fun z => by cases z)
                rw [ev] at ev1
                cases ev1
                rw [e5] at r2
                obtain ⟨p2, vs2, B2, e7, e8, f2, hh2, w2⟩ := r2
                cases e7
                obtain ⟨b, zs, B3, eb, eB3, fb, hb, w3⟩ := r1
                obtain ⟨w4, e9⟩ := allFz_owns e6 w3
                have hlen := of_decide_eq_true hl
                have nd2 := s1.nd i
                rw [e8] at nd2
                refine ⟨p', b, vs2, zs, rfl, by rw [eb], hh2, hb, by rw [owns_length w2, reps_length w4, sizeLine_eq]; exact hlen, ?_⟩
                obtain ⟨s2, g2⟩ := s1.mut ev e8 (o' := .lst (os1 ++ fzs ds)) (ho := .lst (vs2 ++ zs)) ⟨p', _, B2, rfl, rfl, f2, upd_same, owns_appends (owns_upd w2 (List.nodup_cons.mp nd2).1) w4⟩
                refine q .non F1 _ A1 [] s2 (gr1 ((g1.sub fun b z => .inl z).trans g2)) ⟨rfl, rep_non⟩ List.nodup_nil fun b z => by cases z
              · cases e4
            · cases e4
          · cases e4
  | gone => rw [e0] at q; exact q.elim
  | fz _ => rw [e0] at q; exact q.elim
  | tup _ => rw [e0] at q; exact q.elim
  | dic _ => rw [e0] at q; exact q.elim
  | dct _ => rw [e0] at q; exact q.elim
  | ins _ _ => rw [e0] at q; exact q.elim
theorem ee_pop1 {i : Nat} (he : PE X e (tVar i)) (ha : EA X cl W [a] ts)
    (hbase : attributeBase e "pop" X.env (eval e X.env) = eval e X.env := by rfl) (hline : (apos.endLine == p.line) = true := by rfl) (hs : starEach [a] X.env = (false, eval a X.env) :: starEach [] X.env := by rfl) :
    EE X cl W (.Call (.Attribute e "pop" apos) [a] [] p) (evMut i (mLst gPop1) ts) :=
  ee_mut (fun h1 h2 => pe_bm PySem.F.plainAttrs_list PySem.F.slot_list_pop PySem.F.type_list_pop mt_popAt h1 h2 hbase (by rw [hs]; rfl) hline hs rfl) he mu_pop1 onL_lst ha
/-- the same without an argument -/
@[simp] def evMut0 (i : Nat) (f : OD → List D → Option (OD × D)) : Rho → Res OV := fun ρ => match gt ρ i with
  | .lst _ => (match f (gt ρ i) [] with
    | some (o', d) => .ok (.o (.fz d)) (ρ.set i o')
    | none => .bad)
  | _ => .bad
theorem ee_mut0 {p' : Expr} {i : Nat} {f : OD → List D → Option (OD × D)} {R : V → List V → Hp → VK → Prop} (hr : ∀ {to : TE}, PE X e to → PE X p' (fun σ H Q => to σ H fun x H1 => tyV X.K "list" x H1 ∧ R x [] H1 Q)) (he : PE X e (tVar i)) (mu : MutOk X.K cl f R) (hl : OnLst f) : EE X cl W p' (evMut0 i f) := by
  refine PE.imp (hr he) fun σ H Q ⟨F, ρ, A, s, q⟩ => ?_
  unfold evMut0 at q
  cases e0 : gt ρ i with
  | lst os =>
    rw [e0] at q
    obtain ⟨v, ev, r⟩ := (s.sl i).own (by rw [e0]; exact fun z => by cases z)
    rw [e0] at r
    have r0 := r
    obtain ⟨p, vs, B, e1, e2, f0, hh, w⟩ := r
    subst e1
    dsimp only at q
    cases e5 : f (.lst os) [] with
    | none => rw [e5] at q; exact q.elim
    | some z =>
      obtain ⟨o', d⟩ := z
      rw [e5] at q
      refine ⟨_, ev, .inl ⟨rfl, vs, .inl (.inl hh)⟩, mu F H (.lst os) p B [] [] o' d Q (by rw [← e2]; exact r0) (by rw [← e2]; exact s.nd i) s.sub rfl e5 fun ho v r2 r3 => ?_⟩
      obtain ⟨s2, g2⟩ := s.mut ev e2 r2
      exact q v F _ A [] s2 (gr1 g2) ⟨rfl, r3⟩ List.nodup_nil fun b z => by cases z
  | gone => rw [e0] at q; exact q.elim
  | fz _ => rw [e0] at q; exact q.elim
  | tup _ => rw [e0] at q; exact q.elim
  | dic _ => rw [e0] at q; exact q.elim
  | dct _ => rw [e0] at q; exact q.elim
  | ins _ _ => rw [e0] at q; exact q.elim
theorem ee_pop0 {i : Nat} (he : PE X e (tVar i)) (hbase : attributeBase e "pop" X.env (eval e X.env) = eval e X.env := by rfl) (hline : (apos.endLine == p.line) = true := by rfl) :
    EE X cl W (.Call (.Attribute e "pop" apos) [] [] p) (evMut0 i (mLst gPop0)) :=
  ee_mut0 (fun h1 => pe_bm0 PySem.F.plainAttrs_list PySem.F.slot_list_pop PySem.F.type_list_pop mt_pop h1 hbase hline) he mu_pop0 onL_lst
theorem ee_clear {i : Nat} (he : PE X e (tVar i)) (hbase : attributeBase e "clear" X.env (eval e X.env) = eval e X.env := by rfl) (hline : (apos.endLine == p.line) = true := by rfl) :
    EE X cl W (.Call (.Attribute e "clear" apos) [] [] p) (evMut0 i (mLst gClear)) :=
  ee_mut0 (fun h1 => pe_bm0 PySem.F.plainAttrs_list PySem.F.slot_list_clear PySem.F.type_list_clear mt_clear h1 hbase hline) he mu_clear onL_lst
/-! ### reading methods of a list: the receiver is a list ahead of its argument -/
theorem rs_sql {K : PySem.W.Frag} {F H : Hp} {σ : L2.St} {ρ : Rho} {A : Nat → List Addr} {x : Opd} {v : V} {ds : List D} (s : Sto K cl F H σ ρ A) (h : POk K cl F σ x v) (e : rs ρ x = some (.lst ds)) : ∃ a vs, v = .ref a ∧ SqL K H a vs := by
  have hL : ∀ a ∈ brw A [x], F a = none := fun a ha => (s.at_ (brw_own ha)).1
  have r := rs_rep (q := x) s hL h (fun i z a ha => by rw [z]; exact List.mem_append_left _ ha) e
  obtain ⟨a, vs, ev, hq, rr⟩ := r
  refine ⟨a, vs, ev, ?_⟩
  refine sb_sqL (F := plus F H (brw A [x])) (fun b o q => ?_) (SqL.of hq)
  by_cases z : b ∈ brw A [x]
  · rw [plus_in z] at q
    exact ⟨.inl q, fun _ => q⟩
  · rw [plus_out z] at q
    exact s.sub b o q
@[simp] def evLm (f : List D → Option OD) (ta tb : Rho → Res Opd) : Rho → Res OV := fun ρ => (ta ρ).bind fun x ρ1 => match rs ρ1 x with
  | some (.lst _) => (tb ρ1).bind fun y ρ2 => fin f [x, y] ρ2
  | _ => .bad
theorem ee_lm {e a b : Expr} {ta tb : Rho → Res Opd} {f : List D → Option OD} {R : V → List V → Hp → VK → Prop} (hr : ∀ {ua : TE} {ub : TA}, PE X a ua → PA X [b] ub → PE X e (tBM X.K "list" R ua ub)) (pr : PrimOk X.K cl f (fun vs H Q => ∃ x y, vs = [x, y] ∧ R x [y] H Q)) (ha : EP' X cl W a ta) (hb : EP' X cl W b tb) (hs : starEach [b] X.env = (false, eval b X.env) :: starEach [] X.env := by rfl) : EE X cl W e (evLm f ta tb) := by
  refine PE.imp (hr ha (pa_cons hb pa_nil hs)) fun σ H Q ⟨F, ρ, A, s, q⟩ => ⟨F, ρ, A, s, ?_⟩
  unfold evLm at q
  cases e1 : ta ρ with
  | bad => rw [e1] at q; exact q
  | err x ρ' => rw [e1] at q; exact q
  | ok x ρ1 =>
    rw [e1] at q
    intro v F1 H1 A1 s1 g1 p1
    dsimp only [Res.bind] at q
    cases e3 : rs ρ1 x with
    | none => rw [e3] at q; exact q.elim
    | some d =>
      rw [e3] at q
      cases d with
      | lst ds =>
        dsimp only at q
        obtain ⟨a0, vs, ev, hq⟩ := rs_sql s1 p1 e3
        refine ⟨by rw [ev]; exact .inl ⟨rfl, vs, hq⟩, F1, ρ1, A1, s1, ?_⟩
        cases e2 : tb ρ1 with
        | bad => rw [e2] at q; exact q
        | err x ρ' => rw [e2] at q; exact ErrQ.pre q g1
        | ok y ρ2 =>
          rw [e2] at q
          intro w F2 H2 A2 s2 g2 p2
          obtain ⟨_, _, e, h⟩ := fin_end pr s2 (g1.trans g2) (qs := [x, y]) (vs := [v, w]) ⟨v, _, rfl, p1.mono g2.ff, w, _, rfl, p2, rfl⟩ q
          cases e
          exact h
      | _ => exact q.elim
theorem ee_index (hu : X.A.units + 65 < cLine) (ha : EP' X cl W e ta) (hb : EP' X cl W b tb)
    (hbase : attributeBase e "index" X.env (eval e X.env) = eval e X.env := by rfl) (hline : (apos.endLine == p.line) = true := by rfl) (hs : starEach [b] X.env = (false, eval b X.env) :: starEach [] X.env := by rfl) :
    EE X cl W (.Call (.Attribute e "index" apos) [b] [] p) (evLm pIndex ta tb) :=
  ee_lm (fun h1 h2 => pe_bm PySem.F.plainAttrs_list PySem.F.slot_list_index PySem.F.type_list_index (mt_indexD hu) h1 h2 hbase (by rw [hs]; rfl) hline hs rfl) pr_index ha hb hs
/-! ### built-in calls -/
theorem ee_sum (hc : X.calm = true) (hg : Gl X "sum") (hm : X.mg "sum" = none) (ha : EA X cl W [a] ts) (he : starEach [a] X.env = (false, eval a X.env) :: starEach [] X.env := by rfl) : EE X cl W (.Call (.Name "sum" p) [a] [] pos) (evN pSum ts) :=
  ee_callB (cr_sum hc) pr_sum hg hm (by decide +kernel) ha (by decide) (by decide) he rfl
theorem ee_dictOf (hg : Gl X "dict") (hm : X.mg "dict" = none) (ha : EA X cl W [a] ts) (he : starEach [a] X.env = (false, eval a X.env) :: starEach [] X.env := by rfl) : EE X cl W (.Call (.Name "dict" p) [a] [] pos) (evN pDictOf ts) :=
  ee_callTy call_dictD pr_dictOf hg hm (by decide +kernel) ha (by decide) (by decide) he rfl
@[simp] def evNewT : Rho → Res OV := fun ρ => .ok (.o (.dct [])) ρ
theorem ee_newT : EE X cl W (.Dict [] [] pos) evNewT := PE.imp pe_dnewT fun σ H Q ⟨F, ρ, A, s, q⟩ => fun p hp =>
  vq_own (K := X.K) (cl := cl) (o := .dct []) hp s.sub ⟨p, [], [], rfl, rfl, sb_none s.sub hp, upd_same, rfl, rfl⟩ fun v F' H' B r nd sb g => q v F' H' A B (s.new sb g) ⟨fun b o e _ => g.keep b o e id, g.ff, fun b e _ => g.new b e id, fun b z => z.elim .inl fun z => (g.ow b z).elim (fun z => z.elim) .inr⟩ r nd fun b hb ⟨i, hi⟩ => by
    have h1 := (s.at_ ⟨i, hi⟩).2
    rcases g.ow b hb with z | z
    · exact z
    · rw [z] at h1; exact h1
/-! ### in -/
def anyP (p : PyData) (ps : List PyData) : Bool := ps.any fun z => PyData.eqv z p
@[simp] def fInD (neg : Bool) : List D → Option OD
  | [a, .lst ds] => match a.py with
    | none => none
    | some p => match pys ds with
      | none => none
      | some ps => if (SeqAt.shaped p && SeqAt.shaped (.list ps)) = true then some (.fz (.v (.bl (if neg then !anyP p ps else anyP p ps)))) else none
  | _ => none
end
end
end DL
/-! DL27: in of data; a written tuple of one text. -/
namespace DL
open PySem L2
noncomputable section
section
variable {K : PySem.W.Frag} {cl : Nat → Addr} {F F' H H' : Hp} {Q : VK}
theorem fInD_some {neg : Bool} {ds : List D} {o : OD} (h : fInD neg ds = some o) : ∃ a es p ps, ds = [a, .lst es] ∧ a.py = some p ∧ pys es = some ps ∧ SeqAt.shaped p = true ∧ SeqAt.shaped (.list ps) = true ∧ o = .fz (.v (.bl (if neg then !anyP p ps else anyP p ps))) := by
  unfold fInD at h
  split at h
  · split at h
    · cases h
    · split at h
      · cases h
      · split at h
        · rename_i hs
          obtain ⟨s1, s2⟩ := Bool.and_eq_true_iff.mp hs
          cases h
          exact ⟨_, _, _, _, rfl, by assumption, by assumption, s1, s2, rfl⟩
        · cases h
  · cases h
theorem pr_inD : PrimOk K cl (fInD false) (R2L (rInD K)) := fun F H ds vs o Q sb r e q => by
  obtain ⟨a, es, p, ps, rfl, e1, e2, s1, s2, rfl⟩ := fInD_some e
  obtain ⟨x, y, rfl, rx, ⟨b, us, ey, hq, rr⟩⟩ := reps2 r
  exact ⟨x, y, rfl, p, ps, py_dp sb _ _ _ e1 rx, by rw [ey]; exact .lst (sb_sqL sb (SqL.of hq)) (pys_dp sb es us ps e2 rr), s1, s2, vq_v trivial sb q⟩
theorem pr_notInD : PrimOk K cl (fInD true) (R2L (rNotInD K)) := fun F H ds vs o Q sb r e q => by
  obtain ⟨a, es, p, ps, rfl, e1, e2, s1, s2, rfl⟩ := fInD_some e
  obtain ⟨x, y, rfl, rx, ⟨b, us, ey, hq, rr⟩⟩ := reps2 r
  exact ⟨x, y, rfl, p, ps, py_dp sb _ _ _ e1 rx, by rw [ey]; exact .lst (sb_sqL sb (SqL.of hq)) (pys_dp sb es us ps e2 rr), s1, s2, vq_v trivial sb q⟩
@[simp] def fIn2 (neg : Bool) : List D → Option OD := alt (fIn neg) (fInD neg)
end
section
variable {X : Cx} {cl : Nat → Addr} {W : WX} {a b : Expr} {ta tb : Rho → Res Opd} {pos : Pos}
theorem cc_in2 (hu : X.A.units + 65 < cLine) (ha : EP' X cl W a ta) (hb : EP' X cl W b tb) (hm : behindInMarks .In b = false := by rfl) : CC X cl W (.Compare a [.In] [b] pos) (ev2 (fIn2 false) ta tb) :=
  cc_alt (cc_in (by omega) ha hb hm) (cc_cmp ⟨_, op_inD hu, pr_inD⟩ ha hb hm)
theorem cc_notin2 (hu : X.A.units + 65 < cLine) (ha : EP' X cl W a ta) (hb : EP' X cl W b tb) (hm : behindInMarks .NotIn b = false := by rfl) : CC X cl W (.Compare a [.NotIn] [b] pos) (ev2 (fIn2 true) ta tb) :=
  cc_alt (cc_notin (by omega) ha hb hm) (cc_cmp ⟨_, op_notInD hu, pr_notInD⟩ ha hb hm)
theorem hu65 {A : Around} {k : Nat} (r : Room k A) : A.units + 65 < cLine := by
  have := r.un
  omega
/-- a name of the module's that holds a written tuple of one text -/
def WTup (K : PySem.W.Frag) (mg : Str → Option Value) (x z : Str) : Prop := ∃ a o its n, mg x = some (.ref a) ∧ K.lookup a = some o ∧ o.cls = .type "tuple" ∧ o.data = .seq its n ∧ its.size ≤ sizeLine ∧ Vals [V.str z] its.toList
theorem wt_mk {K : PySem.W.Frag} {h : Heap} {mg : Str → Option Value} {x z : Str} {a : Addr} {od : Option Addr} {n : Nat} {t : Tok} {sl : Array (Option Value)} (X : K.In h) (G : h.Ns mainGlobals mg) (g : PySem.W.nsIn K mainGlobals x = some (some (.ref a)))
    (l : K.lookup a = some ⟨.type "tuple", od, .seq #[.str z t] n, sl⟩) : WTup K mg x z :=
  ⟨a, _, _, n, PySem.W.mg_of X G g, l, rfl, rfl, by rw [sizeLine_eq]; exact Nat.le_of_ble_eq_true rfl, .cons ⟨t, rfl⟩ .nil⟩
theorem ee_gwt {x z : Str} (hg : Gl X x) (h : WTup X.K X.mg x z) (hd : (x == ("__debug__" : Str)) = false := by decide) : EE X cl W (.Name x pos) (evC (.wtp [.v (.str z)])) := by
  obtain ⟨a, o, its, n, h1, h2, h3, h4, h5, h6⟩ := h
  refine PE.imp (pe_glob (v := .ref a) hg h1 rfl hd) fun σ H Q ⟨F, ρ, A, s, q⟩ => ?_
  exact ee_of (o := .fz (.wtp [.v (.str z)])) s ⟨rfl, a, [.str z], rfl, .inr ⟨o, its, n, h2, h3, h4, h5, h6⟩, _, _, rfl, ⟨rfl, trivial⟩, rfl⟩ q
end
end
end DL
/-! DL28: x = y where y is not read again: the owner moves. -/
namespace DL
open PySem L2
noncomputable section
section
variable {K : PySem.W.Frag} {cl : Nat → Addr}
theorem pr_ll : PrimOk K cl pLL (R2L rCat) := fun F H ds vs o Q sb r e q => by
  obtain ⟨a, b, rfl, hc, rfl⟩ := pLL_some e
  obtain ⟨x, y, rfl, ⟨p, xs, ex, hx, rx⟩, ⟨p', ys, ey, hy, ry⟩⟩ := reps2 r
  exact ⟨x, y, rfl, p, p', xs, ys, ex, ey, (sb _ _ hx).2 rfl, (sb _ _ hy).2 rfl, sz (by rw [reps_length rx, reps_length ry]; exact hc), vq_lst (reps_append rx ry) sb q⟩
@[simp] def fAdd2 : List D → Option OD := alt fAdd pLL
theorem op_Add2 {X : Cx} : ∃ r, OpR X (binaryOp .Add) r ∧ PrimOk X.K cl fAdd2 (R2L r) :=
  let ⟨_, h1, h2⟩ := op_Add (X := X) (cl := cl); ⟨_, h1.or op_cat, PrimOk.alt2 h2 pr_ll⟩
end
section
variable {X : Cx} {cl : Nat → Addr} {W : WX} {pn : List Nat}
@[simp] def sMov (i j : Nat) : Rho → Res Fl := fun ρ => if (i == j) = true then .bad else match gt ρ j with
  | .gone => .bad
  | o => if i < ρ.length then .ok .next ((ρ.set j .gone).set i o) else .bad
theorem es_movR {st : Stmt} {i j : Nat} (hp : i ∉ pn) (h : PS X st (tAsg (tVar j) (gName i))) : ES X cl pn W st (sMov i j) := by
  refine PS.imp h fun D σ H ⟨F, ρ, A, s, q⟩ => ?_
  unfold sMov at q
  by_cases hij : i = j
  · rw [if_pos (by rw [hij]; simp)] at q
    exact q.elim
  · rw [if_neg (by simpa using hij)] at q
    have n : gt ρ j ≠ .gone := fun z => by
      rw [z] at q
      exact q
    obtain ⟨v, hv, r⟩ := (s.sl j).own n
    refine ⟨v, hv, ?_⟩
    show D.nx (σ.set i (some v)) H
    have key : i < ρ.length ∧ ∀ σ' F' H' A', Sto X.K cl F' H' σ' ((ρ.set j .gone).set i (gt ρ j)) A' → Gr (ownd A) (ownd A') F H F' H' → (∀ i ∈ pn, σ'[i]? = σ[i]?) → D.nx σ' H' := by
      by_cases hi : i < ρ.length
      · refine ⟨hi, ?_⟩
        cases z : gt ρ j with
        | gone => exact absurd z n
        | _ => rw [z] at q; dsimp only at q; rw [if_pos hi] at q; exact q
      · exfalso
        cases z : gt ρ j with
        | gone => exact absurd z n
        | _ => rw [z] at q; dsimp only at q; rw [if_neg hi] at q; exact q
    obtain ⟨hi, q'⟩ := key
    have s1 := s.drop (i := j) (x := some v)
    rw [sigma_set_self hv] at s1
    refine q' _ F H (fun k => if k = i then A j else (if k = j then [] else A k)) (s1.put (by rw [List.length_set]; exact hi) r (s.nd j) fun b hb k hk hbk => ?_) (Gr.refl.sub fun b ⟨k, hk⟩ => ?_) (pn_set hp)
    · split at hbk
      · cases hbk
      · rename_i hkj
        exact s.dis j k (Ne.symm hkj) b hb hbk
    · try dsimp only at hk
      split at hk
      · exact ⟨j, hk⟩
      · split at hk
        · cases hk
        · exact ⟨k, hk⟩
theorem es_mov {i j : Nat} {x : Str} {e : Expr} {pos pos' : Pos} (hp : i ∉ pn) (hN : X.N.Nodup) (hi : X.N[i]? = some x) (hx : Loc X.env.scope x) (h : PE X e (tVar j)) (hs : swapsWith e (some (.Name x pos')) pos.line X.env = pure false := by rfl) (hf : X.fn x = true ∨ X.env.scope.names.lookup x = some .local := by first | exact .inl rfl | exact .inr rfl | assumption) :
    ES X cl pn W (.Assign [.Name x pos'] e pos) (sMov i j) := es_movR hp (ps_set hN hi hx h hs hf)
/-- what is new is frozen when it is handed on -/
@[simp] def evFr (t : Rho → Res OV) : Rho → Res OV := fun ρ => (evS t ρ).bind fun q ρ1 => match q with
  | .d d => .ok (.o (.fz d)) ρ1
  | .b _ => .bad
theorem ee_fr {e : Expr} {t : Rho → Res OV} (h : EE X cl W e t) : EE X cl W e (evFr t) := by
  refine PE.imp (ee_s h) fun σ H Q ⟨F, ρ, A, s, q⟩ => ⟨F, ρ, A, s, ?_⟩
  unfold evFr at q
  cases e1 : evS t ρ with
  | bad => rw [e1] at q; exact q
  | err x ρ' => rw [e1] at q; exact q
  | ok od ρ1 =>
    rw [e1] at q
    intro v F' H' A' s' g p
    cases od with
    | b _ => exact q.elim
    | d d => exact q v F' H' A' [] s' (gr1 g) ⟨rfl, p⟩ List.nodup_nil fun b hb => by cases hb
end
end
end DL
/-! DL29: tuples with parts of their own, made to be told and taken apart. -/
namespace DL
open PySem L2
noncomputable section
section
variable {K : PySem.W.Frag} {cl : Nat → Addr} {F H : Hp} {σ : L2.St} {ρ : Rho} {A : Nat → List Addr}
/-- what is taken out of the slots -/
@[simp] def takeO : List Opd → Rho → Option (List OD × Rho)
  | [], ρ => some ([], ρ)
  | .d d :: qs, ρ => match takeO qs ρ with
    | some (os, ρ') => some (.fz d :: os, ρ')
    | none => none
  | .b i :: qs, ρ => match gt ρ i with
    | .gone => none
    | o => match takeO qs (ρ.set i .gone) with
      | some (os, ρ') => some (o :: os, ρ')
      | none => none
theorem takeO_b {i : Nat} {qs : List Opd} {ρ ρ' : Rho} {os : List OD} (h : takeO (.b i :: qs) ρ = some (os, ρ')) : gt ρ i ≠ .gone ∧ ∃ os', takeO qs (ρ.set i .gone) = some (os', ρ') ∧ os = gt ρ i :: os' := by
  have n : gt ρ i ≠ .gone := fun z => by
    unfold takeO at h
    rw [z] at h
    cases h
  have h2 : (match takeO qs (ρ.set i .gone) with
      | some (os, ρ') => some (gt ρ i :: os, ρ')
      | none => none) = some (os, ρ') := by
    unfold takeO at h
    cases z : gt ρ i with
    | gone => exact absurd z n
    | _ => rw [z] at h; exact h
  refine ⟨n, ?_⟩
  cases e : takeO qs (ρ.set i .gone) with
  | none => rw [e] at h2; cases h2
  | some z =>
    obtain ⟨os', ρ''⟩ := z
    rw [e] at h2
    cases h2
    exact ⟨os', rfl, rfl⟩
theorem takeO_ok : ∀ {qs : List Opd} {vs : List V} {ρ ρ' : Rho} {A : Nat → List Addr} {os : List OD}, Sto K cl F H σ ρ A → POks K cl F σ qs vs → takeO qs ρ = some (os, ρ') →
    ∃ A' B, Sto K cl F H σ ρ' A' ∧ Owns K cl F H os vs B ∧ B.Nodup ∧ (∀ b ∈ B, ¬ ownd A' b) ∧ (∀ b, b ∈ B ∨ ownd A' b → ownd A b)
  | [], vs, ρ, ρ', A, os, s, p, e => by
    cases e
    exact ⟨A, [], s, ⟨p, rfl⟩, List.nodup_nil, fun b h => (by cases h), fun b h => h.elim (fun h => by cases h) id⟩
  | .d d :: qs, vs, ρ, ρ', A, os, s, ⟨u, us, ev, r, p⟩, e => by
    unfold takeO at e
    cases e1 : takeO qs ρ with
    | none => rw [e1] at e; cases e
    | some z =>
      obtain ⟨os', ρ''⟩ := z
      rw [e1] at e
      cases e
      obtain ⟨A', B, s', w, nd, dj, ow⟩ := takeO_ok s p e1
      exact ⟨A', B, s', ⟨u, us, [], B, ev, rfl, ⟨rfl, r⟩, w⟩, nd, dj, ow⟩
  | .b i :: qs, vs, ρ, ρ', A, os, s, ⟨u, us, ev, r, p⟩, e => by
    obtain ⟨n, os', e1, rfl⟩ := takeO_b e
    obtain ⟨v, hv, ro⟩ := (s.sl i).own n
    rw [show σ[i]? = some (some u) from r] at hv
    cases hv
    have s1 := s.drop (i := i) (x := some u)
    rw [sigma_set_self r] at s1
    obtain ⟨A', B, s', w, nd, dj, ow⟩ := takeO_ok s1 p e1
    have key : ∀ b, b ∈ B ∨ ownd A' b → ∃ j, j ≠ i ∧ b ∈ A j := fun b h => by
      obtain ⟨j, hj⟩ := ow b h
      dsimp only at hj
      split at hj
      · cases hj
      · rename_i hji
        exact ⟨j, hji, hj⟩
    have apart : ∀ b, b ∈ A i → ¬ (b ∈ B ∨ ownd A' b) := fun b hb h => by
      obtain ⟨j, hj, hbj⟩ := key b h
      exact s.dis i j (Ne.symm hj) b hb hbj
    refine ⟨A', A i ++ B, s', ⟨u, us, A i, B, ev, rfl, ro, w⟩, List.nodup_append.mpr ⟨s.nd i, nd, fun a ha c hc z => apart a ha (.inl (z ▸ hc))⟩, fun b hb hA => ?_, fun b h => ?_⟩
    · rcases List.mem_append.mp hb with z | z
      · exact apart b z (.inr hA)
      · exact dj b z hA
    · rcases h with h | h
      · rcases List.mem_append.mp h with z | z
        · exact ⟨i, z⟩
        · obtain ⟨j, _, hj⟩ := key b (.inl z)
          exact ⟨j, hj⟩
      · obtain ⟨j, _, hj⟩ := key b (.inr h)
        exact ⟨j, hj⟩
theorem newT {T : Addr} {vs : List V} (sb : Sb F H) (h : H T = none) : Sb (upd F T (.tup vs)) (upd H T (.tup vs)) ∧ Gr (fun _ => False) (fun _ => False) F H (upd F T (.tup vs)) (upd H T (.tup vs)) := by
  have fT := sb_none sb h
  have le : Le F (upd F T (.tup vs)) := fun a o q => by
    rw [upd_ne (fun z => by rw [z, fT] at q; cases q)]
    exact q
  refine ⟨fun a o q => ?_, fun b o q _ => ?_, le, fun b w _ => ?_, fun _ z => z.elim⟩
  · by_cases e : a = T
    · rw [e, upd_same] at q
      cases q
      rw [e]
      exact ⟨.inl upd_same, fun _ => upd_same⟩
    · rw [upd_ne e] at q
      have := sb a o q
      unfold Rd at this ⊢
      rw [upd_ne e]
      exact this
  · rw [upd_ne (fun z => by rw [z, h] at q; cases q)]
    exact q
  · rw [upd_ne (fun z => by rw [z, h] at w; exact w)]
end
section
variable {X : Cx} {cl : Nat → Addr} {W : WX} {pn : List Nat} {pos : Pos}
@[simp] def evTupO (ts : Rho → Res (List Opd × Rho)) : Rho → Res OV := fun ρ => (ts ρ).bind fun z ρ1 => match takeO z.1 (ρ1 ++ z.2) with
  | some (os, ρ2) => if decide (os.length ≤ 16777216) = true then .ok (.o (.tup os)) (ρ2.take ρ1.length) else .bad
  | none => .bad
theorem ee_tupO {es : List Expr} {k : Nat} {ts : Rho → Res (List Opd × Rho)} (h : EX X cl W es ts) : EE X cl W (.Tuple es k pos) (evTupO ts) := by
  refine PE.imp (pe_tup h) fun σ H Q ⟨F, ρ, A, s, q⟩ => ⟨F, ρ, A, s, ?_⟩
  unfold evTupO at q
  cases e1 : ts ρ with
  | bad => rw [e1] at q; exact q
  | err x ρ' => rw [e1] at q; exact q
  | ok z ρ1 =>
    rw [e1] at q
    intro vs tv F1 H1 A1 ht hl s1 g1 p1
    dsimp only [Res.bind] at q
    cases e2 : takeO z.1 (ρ1 ++ z.2) with
    | none => rw [e2] at q; exact q.elim
    | some y =>
      obtain ⟨os, ρ2⟩ := y
      rw [e2] at q
      dsimp only at q
      by_cases hz : decide (os.length ≤ 16777216) = true
      · rw [if_pos hz] at q
        obtain ⟨A2, B, s2, w, nd, dj, ow⟩ := takeO_ok s1 p1 e2
        refine ⟨by rw [owns_length w, sizeLine_eq]; exact of_decide_eq_true hz, fun p hp => ?_⟩
        obtain ⟨sb3, g3⟩ := newT (vs := vs) s2.sub hp
        have kp : ∀ b, (F1 b = none ∧ Wr (H1 b)) → upd F1 p (.tup vs) b = none ∧ ∀ y, H1 b = some y → upd H1 p (.tup vs) b = some y := fun b hb => by
          have ne : b ≠ p := fun z => by rw [z, hp] at hb; exact hb.2
          exact ⟨by rw [upd_ne ne]; exact hb.1, fun y hy => by rw [upd_ne ne]; exact hy⟩
        have s3 := s2.mono g3.ff sb3 fun b hb => kp b (s2.at_ hb)
        have w3 : Owns X.K cl (upd F1 p (.tup vs)) (upd H1 p (.tup vs)) os vs B := owns_mono g3.ff os vs B (fun a ha => kp a (owns_at os vs B w a ha)) w
        have s4 := Sto.cut s3
        rw [← hl] at s4
        refine q (.ref p) _ _ _ B s4 ⟨fun b o e n => ?_, g1.ff.trans g3.ff, fun b e n => ?_, fun b hb => ?_⟩ ⟨p, vs, rfl, upd_same, w3⟩ nd fun b hb z => dj b hb (cut_ownd z)
        · exact g3.keep b o (g1.keep b o e n) id
        · obtain ⟨o, ho⟩ := wr_some e
          have h1 := g1.keep b o ho n
          rw [g3.new b (by rw [h1, ← ho]; exact e) id]
          exact g1.new b e n
        · refine g1.ow b (ow b ?_)
          rcases hb with z | z
          · exact .inr (cut_ownd z)
          · exact .inl z
      · rw [if_neg hz] at q
        exact q.elim
/-! ### own tuples are taken apart -/
abbrev GO := OD → Rho → Option Rho
def LGo (K : PySem.W.Frag) (cl : Nat → Addr) (st : List Nat) (g : GO) : TG := fun v σ H Q => ∃ F ρ A o B, Sto K cl F H σ ρ A ∧ Own K cl F H o v B ∧ B.Nodup ∧ (∀ b ∈ B, ¬ ownd A b) ∧ match g o ρ with
  | some ρ' => ∀ σ' A', Sto K cl F H σ' ρ' A' → (∀ b, ownd A' b → ownd A b ∨ b ∈ B) → σ'.length = σ.length → (∀ i, i ∉ st → σ'[i]? = σ[i]?) → Q σ' H
  | none => False
def LGos (K : PySem.W.Frag) (cl : Nat → Addr) (st : List Nat) (g : List OD → Rho → Option Rho) : TGs := fun vs σ H Q => ∃ F ρ A os B, Sto K cl F H σ ρ A ∧ Owns K cl F H os vs B ∧ B.Nodup ∧ (∀ b ∈ B, ¬ ownd A b) ∧ match g os ρ with
  | some ρ' => ∀ σ' A', Sto K cl F H σ' ρ' A' → (∀ b, ownd A' b → ownd A b ∨ b ∈ B) → σ'.length = σ.length → (∀ i, i ∉ st → σ'[i]? = σ[i]?) → Q σ' H
  | none => False
def EGo (X : Cx) (cl : Nat → Addr) (st : List Nat) (tg : Expr) (g : GO) : Prop := PG X tg (LGo X.K cl st g)
def EGos (X : Cx) (cl : Nat → Addr) (st : List Nat) (tgs : List Expr) (g : List OD → Rho → Option Rho) : Prop := PGs X tgs (LGos X.K cl st g)
@[simp] def goSet (i : Nat) : GO := fun o ρ => if i < ρ.length then some (ρ.set i o) else none
@[simp] def gosNil : List OD → Rho → Option Rho := fun os ρ => match os with
  | [] => some ρ
  | _ => none
@[simp] def gosCons (g : GO) (gs : List OD → Rho → Option Rho) : List OD → Rho → Option Rho := fun os ρ => match os with
  | [] => none
  | o :: os => match g o ρ with
    | none => none
    | some ρ' => gs os ρ'
@[simp] def goTup (n : Nat) (gs : List OD → Rho → Option Rho) : GO := fun o ρ => match o with
  | .tup os => if os.length = n then gs os ρ else none
  | .fz (.tup ds) => if ds.length = n then gs (fzs ds) ρ else none
  | _ => none
theorem ego_name {i : Nat} {x : Str} (hN : X.N.Nodup) (hi : X.N[i]? = some x) (hx : Loc X.env.scope x) (hf : X.fn x = true ∨ X.env.scope.names.lookup x = some .local := by first | exact .inl rfl | exact .inr rfl | assumption) : EGo X cl [i] (.Name x pos) (goSet i) := by
  refine PG.imp (pg_name hN hi hx hf) fun v σ H Q ⟨F, ρ, A, o, B, s, r, nd, dj, q⟩ => ?_
  unfold goSet at q
  by_cases hl : i < ρ.length
  · rw [if_pos hl] at q
    refine q _ (fun j => if j = i then B else A j) (s.put hl r nd fun b hb j _ hj => dj b hb ⟨j, hj⟩) (fun b ⟨j, hj⟩ => ?_) List.length_set fun j hj => List.getElem?_set_ne fun e => hj (by rw [e]; exact List.mem_singleton_self _)
    dsimp only at hj
    split at hj
    · exact .inr hj
    · exact .inl ⟨j, hj⟩
  · rw [if_neg hl] at q
    exact q.elim
theorem egos_nil : EGos X cl [] [] gosNil := PGs.imp pgs_nil fun vs σ H Q ⟨F, ρ, A, os, B, s, r, nd, dj, q⟩ => by
  cases os with
  | nil => exact ⟨r.1, q σ A s (fun _ h => .inl h) rfl fun _ _ => rfl⟩
  | cons d ds => exact q.elim
theorem egos_cons {e : Expr} {es : List Expr} {st sts : List Nat} {g : GO} {gs : List OD → Rho → Option Rho} (h : EGo X cl st e g) (h' : EGos X cl sts es gs) (hs : (assignEach (e :: es) X.env).map (·.2) = assign e X.env :: (assignEach es X.env).map (·.2) := by rfl) : EGos X cl (st ++ sts) (e :: es) (gosCons g gs) := by
  refine PGs.imp (pgs_cons h h' hs) fun vs σ H Q ⟨F, ρ, A, os, B, s, r, nd, dj, q⟩ => ?_
  cases os with
  | nil => exact q.elim
  | cons o os =>
    obtain ⟨u, us, A1, A2, e, eB, r1, r2⟩ := r
    subst eB
    obtain ⟨n1, n2, n3⟩ := List.nodup_append.mp nd
    refine ⟨u, us, e, F, ρ, A, o, A1, s, r1, n1, fun b hb => dj b (List.mem_append_left _ hb), ?_⟩
    unfold gosCons at q
    dsimp only at q
    cases e1 : g o ρ with
    | none => rw [e1] at q; exact q.elim
    | some ρ1 =>
      rw [e1] at q
      intro σ1 A1' s1 w1 l1 p1
      refine ⟨F, ρ1, A1', os, A2, s1, r2, n2, fun b hb z => ?_, ?_⟩
      · rcases w1 b z with y | y
        · exact dj b (List.mem_append_right _ hb) y
        · exact n3 b y b hb rfl
      · dsimp only at q
        cases e2 : gs os ρ1 with
        | none => rw [e2] at q; exact q.elim
        | some ρ2 =>
          rw [e2] at q
          exact fun σ2 A2' s2 w2 l2 p2 => q σ2 A2' s2 (fun b hb => (w2 b hb).elim (fun z => (w1 b z).elim .inl fun y => .inr (List.mem_append_left _ y)) fun z => .inr (List.mem_append_right _ z)) (l2.trans l1) fun i hi => (p2 i fun z => hi (List.mem_append_right _ z)).trans (p1 i fun z => hi (List.mem_append_left _ z))
theorem ego_tup {es : List Expr} {k : Nat} {n : Nat} {st : List Nat} {gs : List OD → Rho → Option Rho} (hc : X.calm = true) (h : EGos X cl st es gs)
    (hn : (assignEach es X.env).length = n := by rfl) (hst : (assignEach es X.env).findIdx? (·.1) = none := by rfl) : EGo X cl st (.Tuple es k pos) (goTup n gs) := by
  refine PG.imp (pg_tup hc h hn hst) fun v σ H Q ⟨F, ρ, A, o, B, s, r, nd, dj, q⟩ => ?_
  unfold goTup at q
  cases o with
  | tup os =>
    dsimp only at q
    by_cases hl : os.length = n
    · rw [if_pos hl] at q
      obtain ⟨a, vs, e, hq, r⟩ := r
      exact ⟨a, vs, e, sb_sqT s.sub (SqT.of hq), (owns_length r).trans hl, F, ρ, A, os, B, s, r, nd, dj, q⟩
    · rw [if_neg hl] at q
      exact q.elim
  | fz d =>
    cases d with
    | tup ds =>
      dsimp only at q
      by_cases hl : ds.length = n
      · rw [if_pos hl] at q
        obtain ⟨rfl, a, vs, e, hq, r⟩ := r
        exact ⟨a, vs, e, sb_sqT s.sub (SqT.of hq), (reps_length r).trans hl, F, ρ, A, fzs ds, [], s, owns_fz r, nd, dj, q⟩
      · rw [if_neg hl] at q
        exact q.elim
    | _ => exact q.elim
  | _ => exact q.elim
@[simp] def sAsgO (g : GO) (t : Rho → Res OV) : Rho → Res Fl := fun ρ => match t ρ with
  | .ok (.o o) ρ1 => (match g o ρ1 with
    | some ρ2 => .ok .next ρ2
    | none => .bad)
  | .ok (.b _) _ => .bad
  | .err x ρ1 => .err x ρ1
  | .bad => .bad
theorem es_asgO {tg e : Expr} {st : List Nat} {g : GO} {t : Rho → Res OV} (h : EE X cl W e t) (hg : EGo X cl st tg g) (hst : (st.all fun i => !pn.contains i) = true := by decide) (hs : swapsWithSole [tg] e pos.line X.env = pure false := by rfl) (hw : swappedStores [tg] e X.env = pure none := by rfl)
    (h1 : (assignEach [tg] X.env).map (·.2) = [assign tg X.env] := by rfl) : ES X cl pn W (.Assign [tg] e pos) (sAsgO g t) := by
  refine PS.imp (ps_asg h hg hs hw h1) fun D σ H ⟨F, ρ, A, s, q⟩ => ⟨F, ρ, A, s, ?_⟩
  unfold sAsgO at q
  cases e1 : t ρ with
  | bad => rw [e1] at q; exact q
  | err x ρ' => rw [e1] at q; exact fun F' H' A' c a s' g' => q σ F' H' A' c a s' g' fun _ _ => rfl
  | ok ov ρ1 =>
    rw [e1] at q
    intro v F1 H1 A1 B s1 g1 p1 nd dj
    cases ov with
    | b i => exact q.elim
    | o o =>
      refine ⟨F1, ρ1, A1, o, B, s1, p1, nd, dj, ?_⟩
      dsimp only at q
      cases e2 : g o ρ1 with
      | none => rw [e2] at q; exact q.elim
      | some ρ2 =>
        rw [e2] at q
        exact fun σ2 A2 s2 w2 _ p2 => q σ2 F1 H1 A2 s2 (g1.sub w2) (pn_st hst p2)
end
end
end DL
/-! DL30: a look at the whole state, as if it were frozen, that tells True or False and leaves the state as it was. -/
namespace DL
open PySem L2
noncomputable section
@[simp] def frzO : OD → OD
  | .gone => .gone
  | o => .fz o.toD
section
variable {K : PySem.W.Frag} {cl : Nat → Addr} {F H : Hp} {σ : L2.St} {ρ : Rho} {A : Nat → List Addr}
theorem frzO_ne {o : OD} (h : o ≠ .gone) : frzO o = .fz o.toD := by
  cases o <;> first | exact absurd rfl h | rfl
theorem freezeN (s : Sto K cl F H σ ρ A) : ∀ k : Nat, k ≤ ρ.length → ∃ F' A', Sto K cl F' H σ ((ρ.take k).map frzO ++ ρ.drop k) A'
  | 0, _ => ⟨F, A, by simpa using s⟩
  | k + 1, h => by
    obtain ⟨F1, A1, s1⟩ := freezeN s k (by omega)
    have hk : k < ρ.length := by omega
    have hl : ((ρ.take k).map frzO).length = k := by rw [List.length_map, List.length_take]; omega
    have g1 : gt ((ρ.take k).map frzO ++ ρ.drop k) k = ρ[k] := by
      unfold gt
      rw [List.getD_eq_getElem?_getD, List.getElem?_append_right (by omega), hl, Nat.sub_self, List.drop_eq_getElem_cons hk]
      rfl
    have e1 : (ρ.take (k + 1)).map frzO ++ ρ.drop (k + 1) = ((ρ.take k).map frzO ++ ρ.drop k).set k (frzO ρ[k]) := by
      rw [List.set_append_right _ _ (by omega), hl, Nat.sub_self, List.drop_eq_getElem_cons hk, List.set_cons_zero, List.take_succ_eq_append_getElem hk, List.map_append, List.append_assoc]
      rfl
    rw [e1]
    by_cases n : ρ[k] = .gone
    · have e2 : ((ρ.take k).map frzO ++ ρ.drop k).set k (frzO ρ[k]) = (ρ.take k).map frzO ++ ρ.drop k := by
        rw [List.set_append_right _ _ (by omega), hl, Nat.sub_self, List.drop_eq_getElem_cons hk, List.set_cons_zero, n]
        rfl
      rw [e2]
      exact ⟨F1, A1, s1⟩
    · have n' : gt ((ρ.take k).map frzO ++ ρ.drop k) k ≠ .gone := by rw [g1]; exact n
      obtain ⟨v, ev, _⟩ := (s1.sl k).own n'
      obtain ⟨F2, A2, s2, _, _⟩ := freezeSlot s1 n' ev
      rw [g1] at s2
      rw [frzO_ne n]
      exact ⟨F2, A2, s2⟩
theorem freezeAll (s : Sto K cl F H σ ρ A) : ∃ F' A', Sto K cl F' H σ (ρ.map frzO) A' ∧ ∀ b, ¬ ownd A' b := by
  obtain ⟨F', A', s'⟩ := freezeN s ρ.length (Nat.le_refl _)
  rw [List.take_length, List.drop_length, List.append_nil] at s'
  refine ⟨F', A', s', fun b ⟨i, hi⟩ => ?_⟩
  have z := s'.sl i
  have g : gt (ρ.map frzO) i = frzO (gt ρ i) := by
    unfold gt
    rw [List.getD_eq_getElem?_getD, List.getD_eq_getElem?_getD, List.getElem?_map]
    cases ρ[i]? <;> rfl
  rw [g] at z
  by_cases n : gt ρ i = .gone
  · rw [n] at z
    have z' : A' i = [] := z
    rw [z'] at hi
    cases hi
  · rw [frzO_ne n] at z
    obtain ⟨v, _, e, _⟩ := z
    rw [e] at hi
    cases hi
end
/-- tells what t tells of the frozen state; the state stays -/
@[simp] def evView (t : Rho → Res OV) : Rho → Res OV := fun ρ => match t (ρ.map frzO) with
  | .ok (.o (.fz (.v (.bl b)))) _ => .ok (.o (.fz (.v (.bl b)))) ρ
  | _ => .bad
theorem ee_view {X : Cx} {cl : Nat → Addr} {W : WX} {e : Expr} {t : Rho → Res OV} (h : EE X cl W e t) : EE X cl W e (evView t) := by
  refine PE.imp h fun σ H Q ⟨F, ρ, A, s, q⟩ => ?_
  obtain ⟨F', A', s', no⟩ := freezeAll s
  refine ⟨F', _, A', s', ?_⟩
  by_cases e0 : ∃ b ρ', t (ρ.map frzO) = .ok (.o (.fz (.v (.bl b)))) ρ'
  · obtain ⟨b, ρ', e1⟩ := e0
    have e2 : evView t ρ = .ok (.o (.fz (.v (.bl b)))) ρ := by unfold evView; rw [e1]
    rw [e2] at q
    rw [e1]
    intro v F2 H2 A2 B s2 g2 r nd dj
    have keep : ∀ c o, H c = some o → H2 c = some o := fun c o hc => g2.keep c o hc (no c)
    refine q v F H2 A [] ⟨fun a o ha => ?_, s.len, fun i => ?_, s.dis, s.nd⟩ ⟨fun c o hc _ => keep c o hc, fun _ _ hc => hc, fun _ _ _ => rfl, fun c hc => hc.elim .inl fun z => by cases z⟩ ⟨rfl, r.2⟩ List.nodup_nil fun c hc => by cases hc
    · obtain ⟨r1, r2⟩ := s.sub a o ha
      refine ⟨?_, fun z => keep _ _ (r2 z)⟩
      rcases r1 with z | ⟨x, z⟩
      · exact .inl (keep _ _ z)
      · exact .inr ⟨x, keep _ _ z⟩
    · exact (s.sl i).mono (fun _ _ hc => hc) fun a ha => ⟨((s.sl i).at_ a ha).1, fun y hy => keep _ _ hy⟩
  · have e2 : evView t ρ = .bad := by
      unfold evView
      split
      · rename_i b ρ' e1
        exact absurd ⟨b, ρ', e1⟩ e0
      · rfl
    rw [e2] at q
    exact q.elim
end
end DL
/-! DL31: h.append((k, e)); k.append(c): the list of slot k is kept within the one of slot h, and changed once behind that. -/
namespace DL
open PySem L2
@[simp] def isL : OD → Bool
  | .lst _ => true
  | _ => false
@[simp] def sHold (h k : Nat) (z : Int) (t : Rho → Res Opd) : Rho → Res Fl := fun ρ =>
  if (isL (gt ρ h) && isL (gt ρ k)) = true then (match t ρ with
  | .ok (.d d) ρ1 => (match gt ρ1 k, gt ρ1 h with
    | .lst os, .lst hs => if (decide (h ≠ k) && decide (os.length < 16777216) && decide (hs.length < 16777216)) = true then
        .ok .next ((ρ1.set k (.fz (.lst (toDs (os ++ [.fz (.v (.int z))]))))).set h (.lst (hs ++ [.fz (.tup [.lst (toDs (os ++ [.fz (.v (.int z))])), d])]))) else .bad
    | _, _ => .bad)
  | _ => .bad) else .bad
section
variable {X : Cx} {cl : Nat → Addr} {W : WX} {pn : List Nat}
theorem own_lst {K : PySem.W.Frag} {F H : Hp} {o : OD} {v : V} {B : List Addr} (h : isL o = true) (r : Own K cl F H o v B) : ∃ os p vs B', o = .lst os ∧ v = .ref p ∧ B = p :: B' ∧ F p = none ∧ H p = some (.lst vs) ∧ Owns K cl F H os vs B' := by
  cases o with
  | lst os =>
    obtain ⟨p, vs, B', e1, e2, f0, hh, w⟩ := r
    exact ⟨os, p, vs, B', rfl, e1, e2, f0, hh, w⟩
  | gone => cases h
  | fz _ => cases h
  | tup _ => cases h
  | dic _ => cases h
  | dct _ => cases h
  | ins _ _ => cases h
theorem upd_comm {H : Hp} {a b : Addr} {o u : HO} (n : a ≠ b) : upd (upd H a o) b u = upd (upd H b u) a o := by
  funext c
  unfold upd
  by_cases h1 : c = a
  · subst h1
    rw [if_neg n, if_pos rfl, if_pos rfl]
  · by_cases h2 : c = b
    · subst h2
      rw [if_pos rfl, if_neg h1, if_pos rfl]
    · rw [if_neg h2, if_neg h1, if_neg h1, if_neg h2]
/-- a new frozen tuple, in a state -/
theorem Sto.tup {K : PySem.W.Frag} {F H : Hp} {σ : L2.St} {ρ : Rho} {A : Nat → List Addr} {ds : List D} {vs : List V} {p : Addr} (s : Sto K cl F H σ ρ A) (r : Reps K cl F ds vs) (hp : H p = none) :
    ∃ F', Sto K cl F' (upd H p (.tup vs)) σ ρ A ∧ Rep K cl F' (.tup ds) (.ref p) ∧ Gr (ownd A) (ownd A) F H F' (upd H p (.tup vs)) := by
  refine vq_tup (K := K) (cl := cl) (Q := fun v H' => v = .ref p → H' = upd H p (.tup vs) → ∃ F', Sto K cl F' (upd H p (.tup vs)) σ ρ A ∧ Rep K cl F' (.tup ds) (.ref p) ∧ Gr (ownd A) (ownd A) F H F' (upd H p (.tup vs))) r s.sub (fun v F' H' B rr nd sb g => ?_) p hp rfl rfl
  rintro rfl rfl
  exact ⟨F', s.new sb ⟨g.keep, g.ff, g.new, g.ow⟩, rr.2, ⟨fun b o e _ => g.keep b o e id, g.ff, fun b e _ => g.new b e id, fun b z => .inl z⟩⟩
theorem ss_hold {h k : Nat} {z : Int} {eh ek ek2 e2 : Expr} {rest : List Stmt} {t : Rho → Res Opd} {u : Rho → Res Fl} {p p' q1 q2 tp ap ap' : Pos} {x1 j1} {ip : Pos}
    (heh : PE X eh (tVar h)) (hek : PE X ek (tVar k)) (hek2 : PE X ek2 (tVar k)) (he : EP' X cl W e2 t) (hr : ESs X cl pn W rest u)
    (hb : attributeBase eh "append" X.env (eval eh X.env) = eval eh X.env := by rfl) (hl : (ap.endLine == p.line) = true := by rfl)
    (hb2 : attributeBase ek2 "append" X.env (eval ek2 X.env) = eval ek2 X.env := by rfl) (hl2 : (ap'.endLine == p'.line) = true := by rfl)
    (hs : starEach [.Tuple [ek, e2] x1 tp] X.env = (false, eval (.Tuple [ek, e2] x1 tp) X.env) :: starEach [] X.env := by rfl)
    (hs2 : starEach [.Constant (.int z) j1 ip] X.env = (false, eval (.Constant (.int z) j1 ip) X.env) :: starEach [] X.env := by rfl)
    (ht : starEach [ek, e2] X.env = (false, eval ek X.env) :: starEach [e2] X.env := by rfl) (ht2 : starEach [e2] X.env = (false, eval e2 X.env) :: starEach [] X.env := by rfl)
    (hw : swapsWith (.Call (.Attribute eh "append" ap) [.Tuple [ek, e2] x1 tp] [] p) none q1.line X.env = pure false := by rfl)
    (hw2 : swapsWith (.Call (.Attribute ek2 "append" ap') [.Constant (.int z) j1 ip] [] p') none q2.line X.env = pure false := by rfl) :
    ESs X cl pn W (.Expr (.Call (.Attribute eh "append" ap) [.Tuple [ek, e2] x1 tp] [] p) q1 :: .Expr (.Call (.Attribute ek2 "append" ap') [.Constant (.int z) j1 ip] [] p') q2 :: rest) (sSeq (sHold h k z t) u) := by
  have r1 : PE X (.Call (.Attribute eh "append" ap) [.Tuple [ek, e2] x1 tp] [] p) (tBM X.K "list" rAppend (tVar h) (tCons (tTup (tCons (tVar k) (tCons (LP X.K cl W t) tNil))) tNil)) :=
    pe_bm PySem.F.plainAttrs_list PySem.F.slot_list_append PySem.F.type_list_append mt_append heh (pa_cons (pe_tup (pa_cons hek (pa_cons he pa_nil ht2) ht)) pa_nil hs) hb (by rw [hs]; rfl) hl hs rfl
  have r2 : PE X (.Call (.Attribute ek2 "append" ap') [.Constant (.int z) j1 ip] [] p') (tBM X.K "list" rAppend (tVar k) (tCons (tC (.int z)) tNil)) :=
    pe_bm PySem.F.plainAttrs_list PySem.F.slot_list_append PySem.F.type_list_append mt_append hek2 (pa_cons pe_int pa_nil hs2) hb2 (by rw [hs2]; rfl) hl2 hs2 rfl
  refine PSs.imp (pss_cons (ps_expr r1 hw) (pss_cons (ps_expr r2 hw2) hr)) fun D σ H ⟨F, ρ, A, s, q⟩ => ?_
  unfold sSeq at q
  have c0 : (isL (gt ρ h) && isL (gt ρ k)) = true := by
    cases c : (isL (gt ρ h) && isL (gt ρ k)) with
    | true => rfl
    | false =>
      unfold sHold at q
      rw [c] at q
      exact q.elim
  obtain ⟨ch, ck⟩ := Bool.and_eq_true_iff.mp c0
  have nl : ∀ {o : OD}, isL o = true → o ≠ .gone := fun {o} h1 h2 => by rw [h2] at h1; cases h1
  obtain ⟨vh, evh, rh⟩ := (s.sl h).own (nl ch)
  obtain ⟨vk, evk, rk⟩ := (s.sl k).own (nl ck)
  obtain ⟨hs0, ph, vsh0, Bh0, _, eph, _, _, hh0, _⟩ := own_lst ch rh
  obtain ⟨ks0, pk, vsk0, Bk0, _, epk, _, _, hk0, _⟩ := own_lst ck rk
  subst eph
  subst epk
  show tBM X.K "list" rAppend (tVar h) _ σ H _
  refine ⟨_, evh, .inl ⟨rfl, vsh0, .inl (.inl hh0)⟩, ?_⟩
  refine ⟨_, evk, F, ρ, A, s, ?_⟩
  cases e1 : t ρ with
  | bad => unfold sHold at q; rw [if_pos c0, e1] at q; exact q.elim
  | err x ρ' => unfold sHold at q; rw [if_pos c0, e1] at q; exact q.elim
  | ok od ρ1 =>
    cases od with
    | b i => unfold sHold at q; rw [if_pos c0, e1] at q; exact q.elim
    | d d =>
      intro ve F1 H1 A1 s1 g1 p1
      have c1 : isL (gt ρ1 k) = true ∧ isL (gt ρ1 h) = true := by
        unfold sHold at q
        rw [if_pos c0, e1] at q
        dsimp only at q
        cases ek' : gt ρ1 k <;> cases eh' : gt ρ1 h <;> rw [ek', eh'] at q <;> first | exact ⟨rfl, rfl⟩ | exact q.elim
      obtain ⟨ck1, ch1⟩ := c1
      obtain ⟨vk1, evk1, rk1⟩ := (s1.sl k).own (nl ck1)
      obtain ⟨vh1, evh1, rh1⟩ := (s1.sl h).own (nl ch1)
      rw [evk] at evk1
      cases evk1
      rw [evh] at evh1
      cases evh1
      obtain ⟨os, pk', vsk, Bk, eok, ek1, ebk, fk, hk, wk⟩ := own_lst ck1 rk1
      cases ek1
      obtain ⟨hs', ph', vsh, Bh, eoh, eh1, ebh, fh, hh, wh⟩ := own_lst ch1 rh1
      cases eh1
      have c2 : (decide (h ≠ k) && decide (os.length < 16777216) && decide (hs'.length < 16777216)) = true := by
        cases c : (decide (h ≠ k) && decide (os.length < 16777216) && decide (hs'.length < 16777216)) with
        | true => rfl
        | false =>
          unfold sHold at q
          rw [if_pos c0, e1] at q
          dsimp only at q
          rw [eok, eoh] at q
          dsimp only at q
          rw [c] at q
          exact q.elim
      have q' : LS X.K cl pn W u D σ H → True := fun _ => trivial
      obtain ⟨c3, c5⟩ := Bool.and_eq_true_iff.mp c2
      obtain ⟨c3, c4⟩ := Bool.and_eq_true_iff.mp c3
      have c3 := of_decide_eq_true c3
      have c4 := of_decide_eq_true c4
      have c5 := of_decide_eq_true c5
      have nkh : pk ≠ ph := fun e => s1.dis h k c3 ph (by rw [ebh]; exact List.mem_cons_self) (by rw [ebk, e]; exact List.mem_cons_self)
      refine ⟨by simp [sizeLine_eq], fun pt hpt => ?_⟩
      have npk : pt ≠ pk := fun e => by rw [e, hk] at hpt; cases hpt
      have nph : pt ≠ ph := fun e => by rw [e, hh] at hpt; cases hpt
      refine ⟨ph, vsh, .ref pt, rfl, rfl, by rw [upd_ne nph.symm]; exact hh, by rw [owns_length wh, sizeLine_eq]; exact c5, ?_⟩
      have hk3 : upd (upd H1 pt (.tup [.ref pk, ve])) ph (.lst (vsh ++ [.ref pt])) pk = some (.lst vsk) := by rw [upd_ne nkh, upd_ne npk.symm]; exact hk
      show tBM X.K "list" rAppend (tVar k) _ σ _ _
      refine ⟨_, evk, .inl ⟨rfl, vsk, .inl (.inl hk3)⟩, ?_⟩
      refine ⟨pk, vsk, .int z, rfl, rfl, hk3, by rw [owns_length wk, sizeLine_eq]; exact c4, ?_⟩
      -- the same by data, in another order
      have nd1 : pk ∉ Bk := by
        have := s1.nd k
        rw [ebk] at this
        exact (List.nodup_cons.mp this).1
      have rz : Rep X.K cl F1 (.v (.int z)) (.int z) := ⟨rfl, trivial⟩
      have ow1 : Own X.K cl F1 (upd H1 pk (.lst (vsk ++ [.int z]))) (.lst (os ++ [.fz (.v (.int z))])) (.ref pk) (pk :: Bk) := ⟨pk, _, Bk, rfl, rfl, fk, upd_same, owns_append (owns_upd wk nd1) rz⟩
      obtain ⟨sA, gA⟩ := s1.mut evk ebk ow1
      have hkl : k < ρ1.length := by rw [s1.len]; exact (List.getElem?_eq_some_iff.mp evk).1
      have hhl : h < ρ1.length := by rw [s1.len]; exact (List.getElem?_eq_some_iff.mp evh).1
      have gkA : gt (ρ1.set k (.lst (os ++ [.fz (.v (.int z))]))) k = .lst (os ++ [.fz (.v (.int z))]) := by
        unfold gt
        rw [List.getD_eq_getElem?_getD, List.getElem?_set_self hkl]
        rfl
      obtain ⟨FB, AB, sB, rB, gB⟩ := freezeSlot sA (by rw [gkA]; exact fun e => by cases e) evk
      rw [gkA, List.set_set] at sB
      rw [gkA] at rB
      have hptA : upd H1 pk (.lst (vsk ++ [.int z])) pt = none := by rw [upd_ne npk]; exact hpt
      have rE : Rep X.K cl FB d ve := rep_mono gB.ff d ve (rep_mono gA.ff d ve p1)
      obtain ⟨FC, sC, rC, gC⟩ := sB.tup (ds := [(OD.lst (os ++ [.fz (.v (.int z))])).toD, d]) (vs := [.ref pk, ve]) ⟨_, _, rfl, rB, _, _, rfl, rE, rfl⟩ hptA
      have ghC : gt (ρ1.set k (.fz (OD.lst (os ++ [.fz (.v (.int z))])).toD)) h = .lst hs' := by
        unfold gt
        rw [List.getD_eq_getElem?_getD, List.getElem?_set_ne (Ne.symm c3), ← List.getD_eq_getElem?_getD]
        exact eoh
      obtain ⟨vh2, evh2, rh2⟩ := (sC.sl h).own (by rw [ghC]; exact fun e => by cases e)
      rw [evh] at evh2
      cases evh2
      rw [ghC] at rh2
      obtain ⟨ph2, vsh2, Bh2, e7, e8, fh2, hh2, wh2⟩ := rh2
      cases e7
      have hvs : vsh2 = vsh := by
        rw [upd_ne nph.symm, upd_ne nkh.symm, hh] at hh2
        cases hh2
        rfl
      subst hvs
      have nd2 : ph ∉ Bh2 := by
        have := sC.nd h
        rw [e8] at this
        exact (List.nodup_cons.mp this).1
      have ow2 : Own X.K cl FC (upd (upd (upd H1 pk (.lst (vsk ++ [.int z]))) pt (.tup [.ref pk, ve])) ph (.lst (vsh2 ++ [.ref pt]))) (.lst (hs' ++ [.fz (.tup [(OD.lst (os ++ [.fz (.v (.int z))])).toD, d])])) (.ref ph) (ph :: Bh2) := ⟨ph, _, Bh2, rfl, rfl, fh2, upd_same, owns_append (owns_upd wh2 nd2) rC⟩
      obtain ⟨sD, gD⟩ := sC.mut evh e8 ow2
      have eH : upd (upd (upd H1 pk (.lst (vsk ++ [.int z]))) pt (.tup [.ref pk, ve])) ph (.lst (vsh2 ++ [.ref pt])) = upd (upd (upd H1 pt (.tup [.ref pk, ve])) ph (.lst (vsh2 ++ [.ref pt]))) pk (.lst (vsk ++ [.int z])) := by
        rw [upd_comm (H := H1) npk.symm, upd_comm nkh]
      rw [eH] at sD gD
      refine LS.pre sD ((((g1.trans gA).trans gB).trans gC).trans gD) (fun _ _ => rfl) ?_
      unfold sHold at q
      rw [if_pos c0, e1] at q
      dsimp only at q
      rw [eok, eoh] at q
      dsimp only at q
      rw [if_pos c2] at q
      exact q
end
end DL
/-! DL32: tests on the state as if it were frozen; l.remove(int); h.append((k[0], e)); k[0].append(c) for an own tuple k. -/
namespace DL
open PySem L2
@[simp] def evViewT (t : Rho → Res Bool) : Rho → Res Bool := fun ρ => match t (ρ.map frzO) with
  | .ok b _ => .ok b ρ
  | _ => .bad
section
variable {X : Cx} {cl : Nat → Addr} {W : WX} {pn : List Nat}
theorem et_view {e : Expr} {t : Rho → Res Bool} (h : ET X cl W e t) : ET X cl W e (evViewT t) := by
  refine PT.imp h fun σ H Q ⟨F, ρ, A, s, q⟩ => ?_
  obtain ⟨F', A', s', no⟩ := freezeAll s
  refine ⟨F', _, A', s', ?_⟩
  unfold evViewT at q
  cases e1 : t (ρ.map frzO) with
  | bad => rw [e1] at q; exact q.elim
  | err x ρ' => rw [e1] at q; exact q.elim
  | ok b ρ' =>
    rw [e1] at q
    intro F2 H2 A2 s2 g2
    have keep : ∀ c o, H c = some o → H2 c = some o := fun c o hc => g2.keep c o hc (no c)
    refine q F H2 A ⟨fun a o ha => ?_, s.len, fun i => ?_, s.dis, s.nd⟩ ⟨fun c o hc _ => keep c o hc, fun _ _ hc => hc, fun _ _ _ => rfl, fun c hc => .inl hc⟩
    · obtain ⟨r1, r2⟩ := s.sub a o ha
      refine ⟨?_, fun z => keep _ _ (r2 z)⟩
      rcases r1 with z | ⟨x, z⟩
      · exact .inl (keep _ _ z)
      · exact .inr ⟨x, keep _ _ z⟩
    · exact (s.sl i).mono (fun _ _ hc => hc) fun a ha => ⟨((s.sl i).at_ a ha).1, fun y hy => keep _ _ hy⟩
/-! ### remove -/
@[simp] def intsO : List OD → Option (List Int)
  | [] => some []
  | .fz (.v (.int n)) :: os => match intsO os with
    | some ns => some (n :: ns)
    | none => none
  | _ :: _ => none
theorem intsO_map : ∀ ns : List Int, intsO (fzs (ns.map fun n => D.v (.int n))) = some ns
  | [] => rfl
  | n :: ns => by
    show (match intsO (fzs (ns.map fun n => D.v (.int n))) with
      | some ns => some (n :: ns)
      | none => none) = _
    rw [intsO_map ns]
theorem intsO_owns {K : PySem.W.Frag} {F H : Hp} : ∀ {os : List OD} {ns : List Int} {vs : List V} {B : List Addr}, intsO os = some ns → Owns K cl F H os vs B → vs = ns.map V.int ∧ B = []
  | [], ns, vs, B, e, ⟨e1, e2⟩ => by cases e; exact ⟨e1, e2⟩
  | o :: os, ns, vs, B, e, ⟨u, us, A1, A2, ev, eB, r, q⟩ => by
    unfold intsO at e
    split at e
    · rename_i hq
      cases hq
    · rename_i n os' hq
      cases hq
      cases e1 : intsO os with
      | none => rw [e1] at e; cases e
      | some ns' =>
        rw [e1] at e
        cases e
        obtain ⟨h1, h2⟩ := intsO_owns e1 q
        obtain ⟨eA, r1, _⟩ := r
        exact ⟨by rw [ev, h1, r1]; rfl, by rw [eB, eA, h2]; rfl⟩
    · cases e
theorem ints_owns {K : PySem.W.Frag} {F H : Hp} : ∀ ns : List Int, Owns K cl F H (fzs (ns.map fun n => D.v (.int n))) (ns.map V.int) []
  | [] => ⟨rfl, rfl⟩
  | n :: ns => ⟨.int n, ns.map V.int, [], [], rfl, rfl, ⟨rfl, rfl, trivial⟩, ints_owns ns⟩
@[simp] def evRem (i : Nat) (t : Rho → Res Opd) : Rho → Res OV := fun ρ => if isL (gt ρ i) = true then (match t ρ with
  | .ok (.d (.v (.int z))) ρ1 => (match gt ρ1 i with
    | .lst os => (match intsO os with
      | some ns => if z ∈ ns then .ok (.o (.fz (.v .non))) (ρ1.set i (.lst (fzs ((ns.erase z).map fun n => D.v (.int n))))) else .bad
      | none => .bad)
    | _ => .bad)
  | _ => .bad) else .bad
theorem ee_remove {i : Nat} {o e : Expr} {t : Rho → Res Opd} {apos cpos : Pos} (hc : X.calm = true) (tk : Takes X W) (ho : PE X o (tVar i)) (he : EP' X cl W e t) (hbase : attributeBase o "remove" X.env (eval o X.env) = eval o X.env := by rfl)
    (hfew : ((backTo cpos (starEach [e] X.env)).all (fun x => !x.1) && (backToKw cpos (keywordEach [] X.env)).all (fun x => x.1.isSome)
      && decide (([e] : List Expr).length + ([] : List Keyword).length + (if ([] : List Keyword).isEmpty then 0 else 1) < 30)) = true := by rfl)
    (hline : (apos.endLine == cpos.line) = true := by rfl) (hs : starEach [e] X.env = (false, eval e X.env) :: starEach [] X.env := by rfl) (hplain : (backTo cpos (starEach [] X.env)).any (·.1) = false := by rfl) :
    EE X cl W (.Call (.Attribute o "remove" apos) [e] [] cpos) (evRem i t) := by
  refine PE.imp (pe_remX hc tk ho he hbase hfew hline hs hplain) fun σ H Q ⟨F, ρ, A, s, q⟩ => ?_
  unfold evRem at q
  have c0 : isL (gt ρ i) = true := by
    cases c : isL (gt ρ i) with
    | true => rfl
    | false => rw [c] at q; exact q.elim
  rw [if_pos c0] at q
  have nl : ∀ {o : OD}, isL o = true → o ≠ .gone := fun {o} h1 h2 => by rw [h2] at h1; cases h1
  obtain ⟨v, ev, r⟩ := (s.sl i).own (nl c0)
  obtain ⟨os0, p, vs0, B0, _, ep, _, _, h0, _⟩ := own_lst c0 r
  subst ep
  refine ⟨_, ev, .inl ⟨rfl, vs0, .inl (.inl h0)⟩, F, ρ, A, s, ?_⟩
  cases e1 : t ρ with
  | bad => rw [e1] at q; exact q.elim
  | err x ρ' => rw [e1] at q; exact q.elim
  | ok od ρ1 =>
    cases od with
    | b j => rw [e1] at q; exact q.elim
    | d d =>
      intro ve F1 H1 A1 s1 g1 p1
      have hd : ∃ z, d = .v (.int z) := by
        rw [e1] at q
        cases d with
        | v x => cases x with
          | int z => exact ⟨z, rfl⟩
          | _ => exact q.elim
        | _ => exact q.elim
      obtain ⟨z, rfl⟩ := hd
      rw [e1] at q
      dsimp only at q
      have c1 : isL (gt ρ1 i) = true := by
        cases eo : gt ρ1 i with
        | lst os => rfl
        | _ => rw [eo] at q; exact q.elim
      obtain ⟨v1, ev1, r1⟩ := (s1.sl i).own (nl c1)
      rw [ev] at ev1
      cases ev1
      obtain ⟨os, p', vs, B, eo, ep1, eB, fp, hp, w⟩ := own_lst c1 r1
      cases ep1
      rw [eo] at q
      dsimp only at q
      cases e2 : intsO os with
      | none => rw [e2] at q; exact q.elim
      | some ns =>
        rw [e2] at q
        dsimp only at q
        by_cases hz : z ∈ ns
        · rw [if_pos hz] at q
          obtain ⟨evs, eBn⟩ := intsO_owns e2 w
          subst evs
          subst eBn
          refine ⟨p, ns, z, rfl, p1.1, hp, fun _ => ?_, fun h => absurd hz h⟩
          have ow : Own X.K cl F1 (upd H1 p (.lst ((ns.erase z).map V.int))) (.lst (fzs ((ns.erase z).map fun n => D.v (.int n)))) (.ref p) [p] := ⟨p, _, [], rfl, rfl, fp, upd_same, ints_owns _⟩
          obtain ⟨s2, g2⟩ := s1.mut ev eB ow
          exact q .non F1 _ A1 [] s2 (gr1 (g1.trans g2)) ⟨rfl, rfl, trivial⟩ List.nodup_nil fun b hb => by cases hb
        · rw [if_neg hz] at q
          exact q.elim
/-! ### the first part of an own tuple is kept and changed -/
theorem Sto.mutIn {K : PySem.W.Frag} {F H : Hp} {σ : L2.St} {ρ : Rho} {A : Nat → List Addr} {i : Nat} {p : Addr} {v : V} {ho : HO} {o' : OD} (s : Sto K cl F H σ ρ A) (hv : σ[i]? = some (some v)) (hp : p ∈ A i) (r : Own K cl F (upd H p ho) o' v (A i)) :
    Sto K cl F (upd H p ho) σ (ρ.set i o') A ∧ Gr (ownd A) (ownd A) F H F (upd H p ho) := by
  have hp' : ownd A p := ⟨i, hp⟩
  have fp : F p = none := (s.at_ hp').1
  have hi : i < ρ.length := by rw [s.len]; exact (List.getElem?_eq_some_iff.mp hv).1
  refine ⟨⟨fun a x e => ?_, by rw [List.length_set]; exact s.len, fun j => ?_, s.dis, s.nd⟩, fun b o e n => ?_, Le.refl _, fun _ _ _ => rfl, fun b z => .inl z⟩
  · have ne : a ≠ p := ne_of_none e fp
    obtain ⟨h1, h2⟩ := s.sub a x e
    refine ⟨?_, fun q => by rw [upd_ne ne]; exact h2 q⟩
    rcases h1 with z | ⟨ob, z⟩
    · exact .inl (by rw [upd_ne ne]; exact z)
    · exact .inr ⟨ob, by rw [upd_ne ne]; exact z⟩
  · by_cases e : j = i
    · subst e
      rw [gt_set hi]
      exact .mk hv r
    · rw [gt_ne e]
      refine (s.sl j).mono (Le.refl _) fun a ha => ⟨((s.sl j).at_ a ha).1, fun y hy => ?_⟩
      rw [upd_ne ?_]
      · exact hy
      · rintro rfl
        exact s.dis j i e a ha hp
  · rw [upd_ne (fun z => n (by rw [z]; exact hp'))]
    exact e
@[simp] def isT1 : OD → Bool
  | .tup (.lst _ :: _) => true
  | _ => false
@[simp] def pair2 (g : List OD → List OD → List OD → Res Fl) : OD → OD → Res Fl
  | .tup (.lst os :: rs), .lst hs => g os rs hs
  | _, _ => .bad
theorem pair2_ok {g : List OD → List OD → List OD → Res Fl} {a b : OD} (h : pair2 g a b ≠ .bad) : isT1 a = true ∧ isL b = true := by
  unfold pair2 at h
  split at h
  · exact ⟨rfl, rfl⟩
  · exact absurd rfl h
@[simp] def sHold2 (h k : Nat) (z : Int) (t : Rho → Res Opd) : Rho → Res Fl := fun ρ =>
  if (isL (gt ρ h) && isT1 (gt ρ k)) = true then (match t ρ with
  | .ok (.d d) ρ1 => pair2 (fun os rs hs => if (decide (h ≠ k) && decide (os.length < 16777216) && decide (hs.length < 16777216)) = true then
        .ok .next ((ρ1.set k (.fz (OD.tup (.lst (os ++ [.fz (.v (.int z))]) :: rs)).toD)).set h (.lst (hs ++ [.fz (.tup [.lst (toDs (os ++ [.fz (.v (.int z))])), d])]))) else .bad) (gt ρ1 k) (gt ρ1 h)
  | _ => .bad) else .bad
theorem own_t1 {K : PySem.W.Frag} {F H : Hp} {o : OD} {v : V} {B : List Addr} (h : isT1 o = true) (r : Own K cl F H o v B) : ∃ os rs pt vts pk vs us Bk Br, o = .tup (.lst os :: rs) ∧ v = .ref pt ∧ F pt = some (.tup vts) ∧ vts = .ref pk :: us ∧ B = (pk :: Bk) ++ Br ∧ F pk = none ∧ H pk = some (.lst vs) ∧ Owns K cl F H os vs Bk ∧ Owns K cl F H rs us Br := by
  cases o with
  | tup xs =>
    cases xs with
    | nil => cases h
    | cons x rs =>
      cases x with
      | lst os =>
        obtain ⟨pt, vts, e1, fp, u, us, A1, A2, ev, eB, ⟨pk, vs, Bk, e2, e3, fk, hk, w⟩, wr⟩ := r
        exact ⟨os, rs, pt, vts, pk, vs, us, Bk, A2, rfl, e1, fp, by rw [ev, e2], by rw [eB, e3], fk, hk, w, wr⟩
      | gone => cases h
      | fz _ => cases h
      | tup _ => cases h
      | dic _ => cases h
      | dct _ => cases h
      | ins _ _ => cases h
  | gone => cases h
  | fz _ => cases h
  | lst _ => cases h
  | dic _ => cases h
  | dct _ => cases h
  | ins _ _ => cases h
theorem at0_cons {v : V} {us : List V} : atI (v :: us) 0 = some v := by
  unfold atI ixN
  rw [if_pos (Int.le_refl 0), if_pos (by rw [List.length_cons]; omega)]
  rfl
theorem sqT_of {K : PySem.W.Frag} {F H : Hp} {a : Addr} {vs : List V} (sb : Sb F H) (h : F a = some (.tup vs)) : SqT K H a vs := sb_sqT sb (SqT.of h)
theorem ss_hold2 {h k : Nat} {z : Int} {eh ek ek2 e2 : Expr} {rest : List Stmt} {t : Rho → Res Opd} {u : Rho → Res Fl} {p p' q1 q2 tp ap ap' sp sp' : Pos} {x1 j1 j2 j3} {ip ip2 ip3 : Pos}
    (heh : PE X eh (tVar h)) (hek : PE X ek (tVar k)) (hek2 : PE X ek2 (tVar k)) (he : EP' X cl W e2 t) (hr : ESs X cl pn W rest u)
    (hb : attributeBase eh "append" X.env (eval eh X.env) = eval eh X.env := by rfl) (hl : (ap.endLine == p.line) = true := by rfl)
    (hb2 : attributeBase (.Subscript ek2 (.Constant (.int 0) j3 ip3) sp') "append" X.env (eval (.Subscript ek2 (.Constant (.int 0) j3 ip3) sp') X.env) = eval (.Subscript ek2 (.Constant (.int 0) j3 ip3) sp') X.env := by rfl) (hl2 : (ap'.endLine == p'.line) = true := by rfl)
    (hs : starEach [.Tuple [.Subscript ek (.Constant (.int 0) j2 ip2) sp, e2] x1 tp] X.env = (false, eval (.Tuple [.Subscript ek (.Constant (.int 0) j2 ip2) sp, e2] x1 tp) X.env) :: starEach [] X.env := by rfl)
    (hs2 : starEach [.Constant (.int z) j1 ip] X.env = (false, eval (.Constant (.int z) j1 ip) X.env) :: starEach [] X.env := by rfl)
    (ht : starEach [.Subscript ek (.Constant (.int 0) j2 ip2) sp, e2] X.env = (false, eval (.Subscript ek (.Constant (.int 0) j2 ip2) sp) X.env) :: starEach [e2] X.env := by rfl) (ht2 : starEach [e2] X.env = (false, eval e2 X.env) :: starEach [] X.env := by rfl)
    (hw : swapsWith (.Call (.Attribute eh "append" ap) [.Tuple [.Subscript ek (.Constant (.int 0) j2 ip2) sp, e2] x1 tp] [] p) none q1.line X.env = pure false := by rfl)
    (hw2 : swapsWith (.Call (.Attribute (.Subscript ek2 (.Constant (.int 0) j3 ip3) sp') "append" ap') [.Constant (.int z) j1 ip] [] p') none q2.line X.env = pure false := by rfl) :
    ESs X cl pn W (.Expr (.Call (.Attribute eh "append" ap) [.Tuple [.Subscript ek (.Constant (.int 0) j2 ip2) sp, e2] x1 tp] [] p) q1 :: .Expr (.Call (.Attribute (.Subscript ek2 (.Constant (.int 0) j3 ip3) sp') "append" ap') [.Constant (.int z) j1 ip] [] p') q2 :: rest) (sSeq (sHold2 h k z t) u) := by
  have i1 : PE X (.Subscript ek (.Constant (.int 0) j2 ip2) sp) (tOp (rIx X.K) (tVar k) (tC (.int 0))) := pe_ix ix_seq hek pe_int (fun _ _ => rfl)
  have i2 : PE X (.Subscript ek2 (.Constant (.int 0) j3 ip3) sp') (tOp (rIx X.K) (tVar k) (tC (.int 0))) := pe_ix ix_seq hek2 pe_int (fun _ _ => rfl)
  have r1 : PE X (.Call (.Attribute eh "append" ap) [.Tuple [.Subscript ek (.Constant (.int 0) j2 ip2) sp, e2] x1 tp] [] p) (tBM X.K "list" rAppend (tVar h) (tCons (tTup (tCons (tOp (rIx X.K) (tVar k) (tC (.int 0))) (tCons (LP X.K cl W t) tNil))) tNil)) :=
    pe_bm PySem.F.plainAttrs_list PySem.F.slot_list_append PySem.F.type_list_append mt_append heh (pa_cons (pe_tup (pa_cons i1 (pa_cons he pa_nil ht2) ht)) pa_nil hs) hb (by rw [hs]; rfl) hl hs rfl
  have r2 : PE X (.Call (.Attribute (.Subscript ek2 (.Constant (.int 0) j3 ip3) sp') "append" ap') [.Constant (.int z) j1 ip] [] p') (tBM X.K "list" rAppend (tOp (rIx X.K) (tVar k) (tC (.int 0))) (tCons (tC (.int z)) tNil)) :=
    pe_bm PySem.F.plainAttrs_list PySem.F.slot_list_append PySem.F.type_list_append mt_append i2 (pa_cons pe_int pa_nil hs2) hb2 (by rw [hs2]; rfl) hl2 hs2 rfl
  refine PSs.imp (pss_cons (ps_expr r1 hw) (pss_cons (ps_expr r2 hw2) hr)) fun D σ H ⟨F, ρ, A, s, q⟩ => ?_
  unfold sSeq at q
  have c0 : (isL (gt ρ h) && isT1 (gt ρ k)) = true := by
    cases c : (isL (gt ρ h) && isT1 (gt ρ k)) with
    | true => rfl
    | false =>
      unfold sHold2 at q
      rw [c] at q
      exact q.elim
  obtain ⟨ch, ck⟩ := Bool.and_eq_true_iff.mp c0
  have nl : ∀ {o : OD}, isL o = true → o ≠ .gone := fun {o} h1 h2 => by rw [h2] at h1; cases h1
  have nt : ∀ {o : OD}, isT1 o = true → o ≠ .gone := fun {o} h1 h2 => by rw [h2] at h1; cases h1
  obtain ⟨vh, evh, rh⟩ := (s.sl h).own (nl ch)
  obtain ⟨vk, evk, rk⟩ := (s.sl k).own (nt ck)
  obtain ⟨hs0, ph, vsh0, Bh0, _, eph, _, _, hh0, _⟩ := own_lst ch rh
  obtain ⟨ks0, rs0, pt0, vts0, pk, vsk0, us0, Bk0, Br0, _, ept, fpt0, evts, _, fk0, hk0, _, _⟩ := own_t1 ck rk
  subst eph
  subst ept
  have at0 : atI (V.ref pk :: us0) 0 = some (.ref pk) := at0_cons
  show tBM X.K "list" rAppend (tVar h) _ σ H _
  refine ⟨_, evh, .inl ⟨rfl, vsh0, .inl (.inl hh0)⟩, ?_⟩
  refine ⟨_, evk, .inr (.inl ⟨pt0, vts0, 0, .ref pk, rfl, rfl, sqT_of s.sub fpt0, by rw [evts]; exact at0, ?_⟩)⟩
  refine ⟨F, ρ, A, s, ?_⟩
  cases e1 : t ρ with
  | bad => unfold sHold2 at q; rw [if_pos c0, e1] at q; exact q.elim
  | err x ρ' => unfold sHold2 at q; rw [if_pos c0, e1] at q; exact q.elim
  | ok od ρ1 =>
    cases od with
    | b i => unfold sHold2 at q; rw [if_pos c0, e1] at q; exact q.elim
    | d d =>
      intro ve F1 H1 A1 s1 g1 p1
      have q0 := q
      unfold sHold2 at q0
      rw [if_pos c0, e1] at q0
      dsimp only at q0
      have c1 : isT1 (gt ρ1 k) = true ∧ isL (gt ρ1 h) = true := pair2_ok fun hbad => by
        rw [hbad] at q0
        exact q0
      obtain ⟨ck1, ch1⟩ := c1
      obtain ⟨vk1, evk1, rk1⟩ := (s1.sl k).own (nt ck1)
      obtain ⟨vh1, evh1, rh1⟩ := (s1.sl h).own (nl ch1)
      rw [evk] at evk1
      cases evk1
      rw [evh] at evh1
      cases evh1
      obtain ⟨os, rs, pt', vts, pk', vsk, us, Bk, Br, eok, ek1, fpt, evt1, ebk, fk, hk, wk, wr⟩ := own_t1 ck1 rk1
      cases ek1
      have e3 : vts = vts0 := by
        have := g1.ff _ _ fpt0
        rw [this] at fpt
        cases fpt
        rfl
      have epk : pk' = pk := by
        rw [evt1, evts] at e3
        cases e3
        rfl
      subst epk
      obtain ⟨hs', ph', vsh, Bh, eoh, eh1, ebh, fh, hh, wh⟩ := own_lst ch1 rh1
      cases eh1
      rw [eok, eoh] at q0
      dsimp only [pair2] at q0
      have c2 : (decide (h ≠ k) && decide (os.length < 16777216) && decide (hs'.length < 16777216)) = true := by
        cases c : (decide (h ≠ k) && decide (os.length < 16777216) && decide (hs'.length < 16777216)) with
        | true => rfl
        | false =>
          rw [c] at q0
          exact q0.elim
      obtain ⟨c3, c5⟩ := Bool.and_eq_true_iff.mp c2
      obtain ⟨c3, c4⟩ := Bool.and_eq_true_iff.mp c3
      have c3 := of_decide_eq_true c3
      have c4 := of_decide_eq_true c4
      have c5 := of_decide_eq_true c5
      have mk : pk' ∈ A1 k := by rw [ebk]; exact List.mem_append_left _ List.mem_cons_self
      have nkh : pk' ≠ ph := fun e => s1.dis h k c3 ph (by rw [ebh]; exact List.mem_cons_self) (by rw [← e]; exact mk)
      refine ⟨by simp [sizeLine_eq], fun pt hpt => ?_⟩
      have npk : pt ≠ pk' := fun e => by rw [e, hk] at hpt; cases hpt
      have nph : pt ≠ ph := fun e => by rw [e, hh] at hpt; cases hpt
      refine ⟨ph, vsh, .ref pt, rfl, rfl, by rw [upd_ne nph.symm]; exact hh, by rw [owns_length wh, sizeLine_eq]; exact c5, ?_⟩
      have hk3 : upd (upd H1 pt (.tup [.ref pk', ve])) ph (.lst (vsh ++ [.ref pt])) pk' = some (.lst vsk) := by rw [upd_ne nkh, upd_ne npk.symm]; exact hk
      -- the same by data, in another order
      have nd0 := s1.nd k
      rw [ebk] at nd0
      obtain ⟨nd1, nd2, nd3⟩ := List.nodup_append.mp nd0
      have nd1' : pk' ∉ Bk := (List.nodup_cons.mp nd1).1
      have nd4 : pk' ∉ Br := fun hm => nd3 pk' List.mem_cons_self pk' hm rfl
      have rz : Rep X.K cl F1 (.v (.int z)) (.int z) := ⟨rfl, trivial⟩
      have ow0 : Own X.K cl F1 (upd H1 pk' (.lst (vsk ++ [.int z]))) (.lst (os ++ [.fz (.v (.int z))])) (.ref pk') (pk' :: Bk) := ⟨pk', _, Bk, rfl, rfl, fk, upd_same, owns_append (owns_upd wk nd1') rz⟩
      have ow1 : Own X.K cl F1 (upd H1 pk' (.lst (vsk ++ [.int z]))) (.tup (.lst (os ++ [.fz (.v (.int z))]) :: rs)) (.ref pt0) (A1 k) := ⟨pt0, vts, rfl, fpt, .ref pk', us, pk' :: Bk, Br, evt1, ebk, ow0, owns_upd wr nd4⟩
      obtain ⟨sA, gA⟩ := s1.mutIn evk mk ow1
      have hkl : k < ρ1.length := by rw [s1.len]; exact (List.getElem?_eq_some_iff.mp evk).1
      have gkA : gt (ρ1.set k (.tup (.lst (os ++ [.fz (.v (.int z))]) :: rs))) k = .tup (.lst (os ++ [.fz (.v (.int z))]) :: rs) := by
        unfold gt
        rw [List.getD_eq_getElem?_getD, List.getElem?_set_self hkl]
        rfl
      obtain ⟨FB, AB, sB, rB, gB⟩ := freezeSlot sA (by rw [gkA]; exact fun e => by cases e) evk
      rw [gkA, List.set_set] at sB
      rw [gkA] at rB
      have rK : Rep X.K cl FB (.lst (toDs (os ++ [.fz (.v (.int z))]))) (.ref pk') := by
        obtain ⟨a, vs', ea, fa, u', us', ev', ru, _⟩ := rB
        cases ea
        have hf := gB.ff _ _ (gA.ff _ _ fpt)
        rw [hf] at fa
        cases fa
        rw [evt1] at ev'
        cases ev'
        exact ru
      have hptA : upd H1 pk' (.lst (vsk ++ [.int z])) pt = none := by rw [upd_ne npk]; exact hpt
      have rE : Rep X.K cl FB d ve := rep_mono gB.ff d ve (rep_mono gA.ff d ve p1)
      obtain ⟨FC, sC, rC, gC⟩ := sB.tup (ds := [.lst (toDs (os ++ [.fz (.v (.int z))])), d]) (vs := [.ref pk', ve]) ⟨_, _, rfl, rK, _, _, rfl, rE, rfl⟩ hptA
      have ghC : gt (ρ1.set k (.fz (OD.tup (.lst (os ++ [.fz (.v (.int z))]) :: rs)).toD)) h = .lst hs' := by
        unfold gt
        rw [List.getD_eq_getElem?_getD, List.getElem?_set_ne (Ne.symm c3), ← List.getD_eq_getElem?_getD]
        exact eoh
      obtain ⟨vh2, evh2, rh2⟩ := (sC.sl h).own (by rw [ghC]; exact fun e => by cases e)
      rw [evh] at evh2
      cases evh2
      rw [ghC] at rh2
      obtain ⟨ph2, vsh2, Bh2, e7, e8, fh2, hh2, wh2⟩ := rh2
      cases e7
      have hvs : vsh2 = vsh := by
        rw [upd_ne nph.symm, upd_ne nkh.symm, hh] at hh2
        cases hh2
        rfl
      subst hvs
      have nd5 : ph ∉ Bh2 := by
        have := sC.nd h
        rw [e8] at this
        exact (List.nodup_cons.mp this).1
      have ow2 : Own X.K cl FC (upd (upd (upd H1 pk' (.lst (vsk ++ [.int z]))) pt (.tup [.ref pk', ve])) ph (.lst (vsh2 ++ [.ref pt]))) (.lst (hs' ++ [.fz (.tup [.lst (toDs (os ++ [.fz (.v (.int z))])), d])])) (.ref ph) (ph :: Bh2) := ⟨ph, _, Bh2, rfl, rfl, fh2, upd_same, owns_append (owns_upd wh2 nd5) rC⟩
      obtain ⟨sD, gD⟩ := sC.mut evh e8 ow2
      have eH : upd (upd (upd H1 pk' (.lst (vsk ++ [.int z]))) pt (.tup [.ref pk', ve])) ph (.lst (vsh2 ++ [.ref pt])) = upd (upd (upd H1 pt (.tup [.ref pk', ve])) ph (.lst (vsh2 ++ [.ref pt]))) pk' (.lst (vsk ++ [.int z])) := by
        rw [upd_comm (H := H1) npk.symm, upd_comm nkh]
      rw [eH] at sD gD
      -- the tuple k still stands when the second statement reads it
      have sT : SqT X.K (upd (upd H1 pt (.tup [.ref pk', ve])) ph (.lst (vsh2 ++ [.ref pt]))) pt0 vts := by
        have n1 : pt0 ≠ pt := fun e => by
          have := s1.sub _ _ fpt
          have := this.2 rfl
          rw [e, hpt] at this
          cases this
        have n2 : pt0 ≠ ph := fun e => by
          rw [e, fh] at fpt
          cases fpt
        refine SqT.of ?_
        rw [upd_ne n2, upd_ne n1]
        exact (s1.sub _ _ fpt).2 rfl
      show tBM X.K "list" rAppend (tOp (rIx X.K) (tVar k) (tC (.int 0))) _ σ _ _
      refine ⟨_, evk, .inr (.inl ⟨pt0, vts, 0, .ref pk', rfl, rfl, sT, by rw [evt1]; exact at0_cons, ?_⟩)⟩
      refine ⟨.inl ⟨rfl, vsk, .inl (.inl hk3)⟩, ?_⟩
      refine ⟨pk', vsk, .int z, rfl, rfl, hk3, by rw [owns_length wk, sizeLine_eq]; exact c4, ?_⟩
      refine LS.pre sD ((((g1.trans gA).trans gB).trans gC).trans gD) (fun _ _ => rfl) ?_
      rw [if_pos c2] at q0
      exact q0
end
end DL
/-! DL33: x = [..] made from the state as if it were frozen: a new list of plain things, the state else as it was. -/
namespace DL
open PySem L2
@[simp] def evViewL (t : Rho → Res OV) : Rho → Res OV := fun ρ => match t (ρ.map frzO) with
  | .ok (.o (.lst os)) _ => (match allFz os with
    | some ds => if (flats ds).isSome = true then .ok (.o (.lst os)) ρ else .bad
    | none => .bad)
  | _ => .bad
section
variable {X : Cx} {cl : Nat → Addr} {W : WX} {pn : List Nat}
theorem flats_repF {K : PySem.W.Frag} {F F' : Hp} : ∀ {ds : List D} {vs : List V}, (flats ds).isSome = true → Reps K cl F ds vs → Reps K cl F' ds vs
  | [], vs, _, h => h
  | d :: ds, vs, e, ⟨u, us, ev, r, q⟩ => by
    unfold flats at e
    cases d with
    | v x =>
      dsimp only at e
      split at e
      · cases e1 : flats ds with
        | none => rw [e1] at e; cases e
        | some ws => exact ⟨u, us, ev, r, flats_repF (by rw [e1]; rfl) q⟩
      · cases e
    | _ => cases e
theorem allFz_eq : ∀ {os : List OD} {ds : List D}, allFz os = some ds → os = fzs ds
  | [], _, h => by cases h; rfl
  | .fz d :: os, _, h => by
    unfold allFz at h
    cases e5 : allFz os with
    | none => rw [e5] at h; cases h
    | some ds2 => rw [e5] at h; cases h; rw [fzs_cons, allFz_eq e5]
  | .gone :: _, _, h => by cases h
  | .tup _ :: _, _, h => by cases h
  | .lst _ :: _, _, h => by cases h
  | .dic _ :: _, _, h => by cases h
  | .dct _ :: _, _, h => by cases h
  | .ins _ _ :: _, _, h => by cases h
theorem le_viewL {K : PySem.W.Frag} {t : Rho → Res OV} {σ : L2.St} {H : Hp} {Q : VK} (h : LE K cl W (evViewL t) σ H Q) : LE K cl W t σ H Q := by
  obtain ⟨F, ρ, A, s, q⟩ := h
  obtain ⟨F', A', s', no⟩ := freezeAll s
  refine ⟨F', _, A', s', ?_⟩
  unfold evViewL at q
  cases e1 : t (ρ.map frzO) with
  | bad => rw [e1] at q; exact q.elim
  | err x ρ' => rw [e1] at q; exact q.elim
  | ok ov ρ' =>
    rw [e1] at q
    cases ov with
    | b i => exact q.elim
    | o o =>
      cases o with
      | lst os =>
        dsimp only at q
        cases e2 : allFz os with
        | none => rw [e2] at q; exact q.elim
        | some ds =>
          rw [e2] at q
          dsimp only at q
          by_cases hf : (flats ds).isSome = true
          · rw [if_pos hf] at q
            intro v F2 H2 A2 B s2 g2 r nd dj
            have keep : ∀ c o, H c = some o → H2 c = some o := fun c o hc => g2.keep c o hc (no c)
            obtain ⟨p, vs, B', ev, eB, fp, hp, w⟩ := r
            obtain ⟨rp, eB'⟩ := allFz_owns e2 w
            subst eB'
            subst eB
            have hnone : H p = none := (g2.ow p (.inr List.mem_cons_self)).elim (fun z => absurd z (no p)) id
            have ow : Own K cl F H2 (.lst os) v [p] := by
              refine ⟨p, vs, [], ev, rfl, sb_none s.sub hnone, hp, ?_⟩
              have eo : os = fzs ds := allFz_eq e2
              rw [eo]
              exact owns_fz (flats_repF hf rp)
            refine q v F H2 A [p] ⟨fun a o ha => ?_, s.len, fun i => ?_, s.dis, s.nd⟩ ⟨fun c o hc _ => keep c o hc, fun _ _ hc => hc, fun _ _ _ => rfl, fun c hc => hc.elim .inl fun z => .inr (by rw [List.mem_singleton.mp z]; exact hnone)⟩ ow (by simp) fun b hb hA => ?_
            · obtain ⟨r1, r2⟩ := s.sub a o ha
              refine ⟨?_, fun z => keep _ _ (r2 z)⟩
              rcases r1 with z | ⟨x, z⟩
              · exact .inl (keep _ _ z)
              · exact .inr ⟨x, keep _ _ z⟩
            · exact (s.sl i).mono (fun _ _ hc => hc) fun a ha => ⟨((s.sl i).at_ a ha).1, fun y hy => keep _ _ hy⟩
            · rw [List.mem_singleton.mp hb] at hA
              have := (s.at_ hA).2
              rw [hnone] at this
              exact this
          · rw [if_neg hf] at q
            exact q.elim
      | _ => exact q.elim
theorem es_setLcV {i : Nat} {y : Str} {py : Pos} {elt tg iter : Expr} {ifs : List Expr} {scope : Scope} {own : List (Str × Nat)} {st : List Nat} {pos spos : Pos} {t : Rho → Res (List D)} {g : GR} {c : Rho → Res Bool} {e : Rho → Res Opd} (hp : i ∉ pn) (hc : X.calm = true) (hN : X.N.Nodup) (hy : X.N[i]? = some y) (hyl : X.env.scope.names.lookup y = some .local)
    (hsw : swapsWith (.ListComp elt [⟨tg, iter, ifs, 0⟩] scope pos) (some (.Name y py)) spos.line X.env = pure true) (hi : EI X cl W tg iter t) (ok : BlkOk X.N X.env.scope scope own) (p : LcP X cl st scope tg ifs elt g c e)
    (nd : nodupB (own.map (·.2)) = true := by decide) (hst : (st.all fun i => (own.map (·.2)).contains i) = true := by decide) (hs : ∀ x, foldedSetIterable iter X.env x = pure x := by intro _; rfl) : ES X cl pn W (.Assign [.Name y py] (.ListComp elt [⟨tg, iter, ifs, 0⟩] scope pos) spos) (sSet i (evViewL (evLc t g c e (own.map (·.2))))) := by
  refine es_setR hp (ps_setLc (g := LG X.K cl st g) (tt := LT X.K cl nox c) (te := LP X.K cl nox e) hc hN hy hyl hsw hi ok p.g p.c p.e hs) fun σ H Q hq => ?_
  obtain ⟨F, ρ, A, s, q⟩ := le_viewL hq
  refine ⟨F, ρ, A, s, ?_⟩
  unfold evLc at q
  cases e1 : t ρ with
  | bad => rw [e1] at q; exact q
  | err x ρ' => rw [e1] at q; exact q
  | ok ds ρ1 =>
    rw [e1] at q
    exact fun J F1 H1 A1 s1 g1 it => lc_end (nodup_vs nd) (sub_vs hst) s1 g1 it q
end
end DL
/-! DL34: a caught exception stays in hand behind its except suite. -/
namespace DL
open PySem L2 PySem.Spec PyProof.Rows
theorem keptX_ok {P : Program} {w : World} {H : Hp} {h : Heap} {a : Addr} {cls : Value} {d : Option Addr} {oe : Obj} {vs : Array Value} (e : h.get? a = some oe) (z : Zc cls d oe) (dt : oe.data = .fields vs) : ObjOk P w H h a (keptX cls d a) :=
  ⟨⟨oe, vs, e, z, dt⟩, ⟨oe, e⟩, fun _ _ ⟨o, v, q, r⟩ k => ⟨o, v, k o q, r⟩⟩
section
variable {X : Cx} {pins : List (Addr × Obj)} {σ : L2.St} {H : Hp} {s : Shared}
/-- an object that nothing tracked is tracked from here on -/
theorem inv_track (I : Inv X pins σ H s) {a : Addr} {o : HO} (h0 : X.s_0.heap.get? a = none) (hn : H a = none) (hp : ∀ p ∈ X.pn ++ pins, p.1 ≠ a) (nL : a ≠ X.env.locals) (nC : ∀ x c, X.env.cells.lookup x = some c → c ≠ a) (new : ObjOk X.prog X.w (upd H a o) s.heap a o) : Inv X pins σ (upd H a o) s where
  ok := I.ok
  os := I.os
  bare := I.bare
  base := ⟨I.base.keep, I.base.slot, fun b u q n hx => by rw [upd_ne (fun z => by rw [z, h0] at q; cases q)]; exact I.base.free b u q n hx, I.base.there,
    fun b xs q => by have := I.base.tups b xs q; rw [upd_ne (ne_of_none this hn)]; exact this,
    fun b u xs q => by have := I.base.frzs b u xs q; rw [upd_ne (ne_of_none this hn)]; exact this,
    fun b ps q => by obtain ⟨more, e⟩ := I.base.tbls b ps q; exact ⟨more, by rw [upd_ne (ne_of_none e hn)]; exact e⟩⟩
  loc := I.loc
  cell := I.cell
  free := by rw [upd_ne (Ne.symm nL)]; exact I.free
  freeC := fun x c e => by rw [upd_ne (nC x c e)]; exact I.freeC x c e
  pin := fun p h => by
    obtain ⟨e, n, r⟩ := I.pin p h
    exact ⟨e, by rw [upd_ne (hp p h)]; exact n, r⟩
  hok := HOk.laidN I.hok (fun _ _ e => e) hn new
  len := I.len
end
open Classical in
/-- the dicts of S are let go -/
noncomputable def unl (S : Addr → Prop) (H : Hp) : Hp := fun b => match H b with
  | some (.frz x u) => if S b then some u else some (.frz x u)
  | r => r
theorem unl_ne {S : Addr → Prop} {H : Hp} {b : Addr} {o : HO} (h : H b = some o) (n : ∀ x u, o ≠ .frz x u) : unl S H b = some o := by
  unfold unl
  rw [h]
  cases o with
  | frz x u => exact absurd rfl (n x u)
  | _ => rfl
theorem unl_none {S : Addr → Prop} {H : Hp} {b : Addr} (h : H b = none) : unl S H b = none := by
  unfold unl
  rw [h]
theorem unl_old {S : Addr → Prop} {H : Hp} {b : Addr} {o : HO} (h : H b = some o) (h0 : ¬ S b) : unl S H b = some o := by
  unfold unl
  rw [h]
  cases o with
  | frz x u => exact if_neg h0
  | _ => rfl
theorem unl_new {S : Addr → Prop} {H : Hp} {b : Addr} {x : Obj} {u : HO} (h : H b = some (.frz x u)) (h0 : S b) : unl S H b = some u := by
  unfold unl
  rw [h]
  exact if_pos h0
theorem unl_tup {S : Addr → Prop} {H : Hp} {b : Addr} {xs : List V} (h : H b = some (.tup xs)) : unl S H b = some (.tup xs) := unl_ne h fun x u z => by cases z
theorem unl_own {S : Addr → Prop} {H : Hp} {b c : Addr} (h : H b = some (.own c)) : unl S H b = some (.own c) := unl_ne h fun x u z => by cases z
theorem inv_unl {X : Cx} {pins : List (Addr × Obj)} {σ : L2.St} {H : Hp} {S : Addr → Prop} {s : Shared} (I : Inv X pins σ H s) (h0 : ∀ b o u, X.H_0 b = some (.frz o u) → ¬ S b) : Inv X pins σ (unl S H) s where
  ok := I.ok
  os := I.os
  bare := I.bare
  base := ⟨I.base.keep, I.base.slot, fun b u q n hx => unl_none (I.base.free b u q n hx), I.base.there,
    fun b xs q => unl_tup (I.base.tups b xs q),
    fun b o u q => unl_old (I.base.frzs b o u q) (h0 b o u q),
    fun b ps q => by obtain ⟨more, e⟩ := I.base.tbls b ps q; exact ⟨more, unl_ne e fun x u z => by cases z⟩⟩
  loc := I.loc
  cell := I.cell
  free := unl_none I.free
  freeC := fun x c e => unl_none (I.freeC x c e)
  pin := fun p h => by
    obtain ⟨e, n, r⟩ := I.pin p h
    exact ⟨e, unl_none n, r⟩
  hok := fun b u e => by
    have st : ∀ {o : HO}, ObjOk X.prog X.w H s.heap b o → ObjOk X.prog X.w (unl S H) s.heap b o := fun {o} q => q.stay (fun c v _ z => z) (fun c z => unl_own z) fun c xs z => unl_tup z
    cases hb : H b with
    | none => rw [unl_none hb] at e; cases e
    | some o =>
      cases o with
      | frz x v =>
        by_cases hz : S b
        · rw [unl_new hb hz] at e
          cases e
          exact st (I.hok b _ hb).2
        · rw [unl_old hb hz] at e
          cases e
          exact st (I.hok b _ hb)
      | _ =>
        rw [unl_ne hb (fun x u z => by cases z)] at e
        cases e
        exact st (I.hok b _ hb)
  len := I.len
/-- what the clause 'except x as n' wishes of an exception of the body, where the suite ends as any statement does and the exception is kept behind it -/
def wKept (K : PySem.W.Frag) (c : Value) (i : Nat) (ts : Addr → Value → Option Addr → TS) (Wout : WX) (H0 : Hp) (D : Ends) : WX := fun cls d σ H =>
  ∃ b, PySem.W.exmOne K cls c = some b ∧ (b = true → ∀ a, H a = none → ts a cls d { nx := fun σ' H' => ∃ S : Addr → Prop, (∀ b, S b → ∀ x u, H0 b ≠ some (.frz x u)) ∧ D.nx (σ'.set i none) (unl S (upd H' a (keptX cls d a))), rt := fun _ _ => False } (σ.set i (some (.ref a))) H) ∧
    (b = false → Wout cls d σ H)
section
variable {X : Cx} {x n : Str} {c : Value} {i : Nat} {body suite : List Stmt} {b₀ : Stmt} {np pos pos' : Pos} {tb : WX → TS} {ts : Addr → Value → Option Addr → TS} {Wout : WX}
theorem ps_try_kept (hs : X.stack = X.env :: X.outer) (hf : X.env.frame = some X.env.locals) (hex : X.ex = []) (hN : X.N.Nodup) (hi : X.N[i]? = some n) (hln : X.env.kindOf n = some .local) (hc : Names X x c) (tk : Takes X Wout)
    (hb : ∀ (W : WX) (pn : List (Addr × Obj)) (xe : Value → Shared → Prop), Takes (X.tr pn xe) W → PassesOwn (model X.prog X.w) X.A X.env xe → PSs (X.tr pn xe) body (tb W))
    (hsu : ∀ (a : Addr) (oe : Obj) (cls : Value) (d : Option Addr) (pn : List (Addr × Obj)), Zc cls d oe → (∃ vs, oe.data = .fields vs) → PSs (X.suite a ((a, oe) :: pn)) (b₀ :: suite) (ts a cls d)) :
    PS X (.Try body [.ExceptHandler (some (.Name x np)) (some n) (b₀ :: suite) pos'] [] [] pos) (fun D σ H => tb (wKept X.K c i ts Wout H D) D σ H) := by
  refine ⟨fun pins s σ H D I h => ?_⟩
  have ok := I.ok
  have hfr : X.A.frames = some (X.env :: X.outer) := by rw [ok.frames, hs]
  have hloc : Loc X.env.scope n := .inl hln
  -- where the body ends without an exception
  have calm : ∀ (f : Flow) (s1 : Shared), SP (X.tr (X.pn ++ pins) (fun e s₁ => wpAny (model X.prog X.w) X.A (noteFrame e X.env) (fun _ s₂ => wpAny (model X.prog X.w) X.A (setFlight e none) (fun _ s₃ =>
      wpAny (model X.prog X.w) X.A (handleBy e X.env [.ExceptHandler (some (.Name x np)) (some n) (b₀ :: suite) pos']) (SP X pins D) X.xe s₃) X.xe s₂) X.xe s₁)) [] D f s1 → SP X pins D f s1 := fun f s1 hsp => by
    cases f with
    | next => obtain ⟨σ', H', J, q⟩ := hsp; exact ⟨σ', H', J.ofTry ok, q⟩
    | brk => obtain ⟨σ', H', J, q⟩ := hsp; exact ⟨σ', H', J.ofTry ok, q⟩
    | cont => obtain ⟨σ', H', J, q⟩ := hsp; exact ⟨σ', H', J.ofTry ok, q⟩
    | ret u => obtain ⟨v, σ', H', J, r, q⟩ := hsp; exact ⟨v, σ', H', J.ofTry ok, r, q⟩
  refine wpAny_Try_except (wpAny_mono ((hb (wKept X.K c i ts Wout H D) (X.pn ++ pins) (fun e s₁ => wpAny (model X.prog X.w) X.A (noteFrame e X.env) (fun _ s₂ => wpAny (model X.prog X.w) X.A (setFlight e none) (fun _ s₃ =>
    wpAny (model X.prog X.w) X.A (handleBy e X.env [.ExceptHandler (some (.Name x np)) (some n) (b₀ :: suite) pos']) (SP X pins D) X.xe s₃) X.xe s₂) X.xe s₁) (fun u s' xx => ?_) PassesOwn.looking).run [] s σ H D (I.toTry _) h) (fun f s1 hsp => ?_) (fun e s1 he => he))
  · obtain ⟨a, B, sI, pins', σ', H', cls, d, rfl, J', nb, up, sky, na, os, ag, b, hb1, hyes, hno⟩ := xx
    have J : Inv X pins σ' H' sI := J'.ofTry ok
    rw [hs] at sky
    show wpAny (model X.prog X.w) X.A (noteFrame (.ref a) X.env) _ _ _
    refine Sky.land Zc.steady hfr hf sky fun h3 fl3 up3 => ?_
    have land : ∀ h4, HandSPX.FlyingZ B (X.env :: X.outer) a (Zc cls d) h4 → sI.heap.UpToSlots h4 → Inv X pins σ' H' { s' with heap := h4 } := fun h4 fl4 u => J.landed nb fl4.1 u os ag
    have J3 := land h3 fl3 (up.trans up3)
    obtain ⟨oe3, vs3, he3, hz3, hd3⟩ := fl3.there
    have nB : B.get? a = none := fl3.2.1
    have nfr : a ∉ frs (X.env :: X.outer) := fun hm => by
      obtain ⟨_, o', e', hnf⟩ := fl3.2.2.1.mem hm
      rw [he3] at e'
      cases e'
      exact hnf _ hd3
    have nL : a ≠ X.env.locals := fun z => nfr (List.mem_filterMap.mpr ⟨X.env, List.mem_cons_self, by rw [hf, z]⟩)
    have nF : a ∉ X.fs := fun hm => by
      obtain ⟨e, he, q⟩ := List.mem_filterMap.mp hm
      exact nfr (List.mem_filterMap.mpr ⟨e, List.mem_cons_of_mem _ he, q⟩)
    have nI : sI.heap.get? a = none := by
      cases e : sI.heap.get? a with
      | none => rfl
      | some o =>
        have := nb a o e (by rw [hs]; exact nfr)
        rw [nB] at this
        cases this
    have n0 : X.s_0.heap.get? a = none := by
      cases e : X.s_0.heap.get? a with
      | none => rfl
      | some o =>
        obtain ⟨o', e'⟩ := J.base.there a o e (by rw [hex]; exact List.not_mem_nil)
        rw [nI] at e'
        cases e'
    have nP : ∀ p ∈ X.pn ++ pins, p.1 ≠ a := fun p hp z => by
      have := (J.pin p hp).1
      rw [z, nI] at this
      cases this
    have S3 := J3.suite he3 hd3 na nL nF
    have LT : PySem.W.Looks (model X.prog X.w) h3 (typeOf (.ref a)) cls := fun A Q E s k q => wpAny_typeOf_ref (k _ _ he3) (by rw [hz3.1]; exact q)
    have LM := PySem.W.exm_one (M := model X.prog X.w) (J3.kIn) LT hb1
    refine wpAny_handleBy_cons (codeAny_handlers_test ?_) (by intro q; cases q)
    have name : ∀ {Q : Value → Shared → Prop} {E : Value → Shared → Prop}, Q c { s' with heap := h3 } → wpAny (model X.prog X.w) (X.A.mark (some (.ref a))) (eval (.Name x np) X.env) Q E { s' with heap := h3 } := fun {Q E} q => by
      obtain ⟨hg, hdbg, hm | ⟨hm, hv, hnn⟩⟩ := hc
      · exact ld_glob (X := X.suite a ((a, oe3) :: (X.pn ++ pins))) S3 hg hm q hdbg
      · exact ld_blt (X := X.suite a ((a, oe3) :: (X.pn ++ pins))) S3 hg hm hv q hnn hdbg
    refine name (LM.here ?_)
    cases b with
    | true =>
      refine codeAny_handlers_suite_as (HandSPX.lands_againZ fl3 fun h4 fl4 up4 => ?_)
      have J4 := land h4 fl4 ((up.trans up3).trans up4)
      obtain ⟨oe4, vs4, he4, hz4, hd4⟩ := fl4.there
      refine store_ok (X := X.suite a ((a, oe4) :: (X.pn ++ pins))) (v := .ref a) (J4.suite he4 hd4 na nL nF) hN hi hloc rfl (fun s5 S5 => ?_) (.inr hln)
      refine wpAny_mono ((hsu a oe4 cls d (X.pn ++ pins) hz4 ⟨_, hd4⟩).run [] s5 _ H' _ S5 (hyes rfl a na)) (fun f s6 hsp => ?_) (fun _ _ z => False.elim z)
      cases f with
      | next =>
        obtain ⟨σ6, H6, S6, S, hS, q6⟩ := hsp
        obtain ⟨p1, p2, _⟩ := S6.pin (a, oe4) (by simp)
        have T6 : Inv X pins σ6 (upd H6 a (keptX cls d a)) s6 := inv_track (S6.unsuite ok) n0 p2 nP nL (fun y cc e z => by
          obtain ⟨v, hv⟩ := (S6.unsuite ok).cell y cc e
          obtain ⟨oc, ec, dc⟩ : ∃ oc, s6.heap.get? cc = some oc ∧ oc.data = .cell v := by
            obtain ⟨oc, ec, dc⟩ := hv
            exact ⟨oc, ec, dc⟩
          rw [z, p1] at ec
          cases ec
          rw [hd4] at dc
          cases dc) (keptX_ok p1 hz4 hd4)
        exact gone_ok (inv_unl (S := S) T6 fun b o u q z => hS b z o u (I.base.frzs b o u q)) hN hi hln fun s7 J7 => ⟨_, _, J7, q6⟩
      | brk => obtain ⟨σ6, H6, S6, q6⟩ := hsp; exact q6.elim
      | cont => obtain ⟨σ6, H6, S6, q6⟩ := hsp; exact q6.elim
      | ret u => obtain ⟨v6, σ6, H6, S6, r6, q6⟩ := hsp; exact q6.elim
    | false =>
      show wpAny _ X.A (handleBy (.ref a) X.env []) _ _ _
      refine wpAny_handleBy_nil ?_
      obtain ⟨k1, k2, k3, oe, vs, T, oT, ts', he, hz, hd, h1, hr⟩ := id fl3
      unfold PySem.passOn
      refine wpAny_bind (wpAny_field he hd h1 ?_)
      rw [if_neg (show ¬ ((Value.ref T == Value.none) = true) from by simp)]
      have out : wpAny (model X.prog X.w) X.A (setFlight (.ref a) X.env.frame) (fun _ s4 => wpAny (model X.prog X.w) X.A (throw (.ref a) : Sem Flow) (SP X pins D) X.xe s4) X.xe { s' with heap := h3 } := by
        rw [hf]
        refine HandSPX.setFlight_upZ fl3 fun h4 hh4 up4 => wpAny_throw (tk _ _ ?_)
        exact ⟨a, B, sI, pins, σ', H', cls, d, rfl, J, nb, (up.trans up3).trans up4, .inr (.inr (by rw [hs]; exact hh4)), na, os, ag, hno rfl⟩
      first
        | exact wpAny_bind (wpAny_pure (wpAny_bind out))
        | exact wpAny_bind out
  · have q := calm f s1 hsp
    cases f with
    | next => exact wpAny_execs_nil q
    | brk => exact q
    | cont => exact q
    | ret u => exact q
end
end DL
/-! DL35: try: .. except C as e: y = e; calls that may raise there. -/
namespace DL
open PySem L2 PySem.Spec PyProof.Rows
/-- the exceptions of the classes cs are caught and kept at slot j; slot i is e's -/
@[simp] def sTry (cs : List Nat) (i j : Nat) (t : Rho → Res Fl) : Rho → Res Fl := fun ρ => match t ρ with
  | .err x ρ1 => if (cs.contains x.c && decide (i < ρ1.length) && decide (j < ρ1.length)) = true then .ok .next ((ρ1.set j (.fz (.exc x.c x.fs))).set i .gone) else .bad
  | r => r
section
variable {X : Cx} {cl : Nat → Addr} {W : WX} {pn : List Nat}
theorem ee_callXS {e : Expr} {es : List Expr} {pos p : Pos} {S : FS} {ms : List Bool} {ts : Rho → Res (List Opd × Rho)} {k : Nat} {f : Addr} {fd : FuncData} {ps : List Str} {x : Str} (Fn : FnOk X.prog X.w X.K X.mg X.base (L2.CX X.prog X.w) k f fd ps (spD X.K cl S)) (hr : Room k X.A) (hg : Gl X x) (hm : X.mg x = some (.ref f)) (hk : PySem.W.keepIn X.K (.ref f) = true) (hb : Binds X.K fd ps [])
    (tk : Takes X W) (ha : EX X cl W (e :: es) ts) (hdb : (x == ("__debug__" : Str)) = false := by decide) (he : starEach (e :: es) X.env = (false, eval e X.env) :: starEach es X.env := by rfl) (hpl : (backTo pos (starEach es X.env)).any (·.1) = false := by rfl) :
    EE X cl W (.Call (.Name x p) (e :: es) [] pos) (evCallX S ms ts) := by
  refine PE.imp (pe_callS (E := WE W) Fn hr hg hm hk hb (fun σ => passAt tk σ) ha hdb he hpl) fun σ H Q ⟨F, ρ, A, s, q⟩ => ⟨F, ρ, A, s, ?_⟩
  unfold evCallX at q
  cases e1 : ts ρ with
  | bad => rw [e1] at q; exact q
  | err x ρ' => rw [e1] at q; exact q
  | ok z ρ1 =>
    rw [e1] at q
    intro vs tv F1 H1 A1 l1 l2 s1 g1 p1
    exact callX_sp (E := WE W σ) l2 s1 g1 p1 q
theorem set_twice {α : Type} {l : List α} {i j : Nat} (h : i ≠ j) (x y z : α) : ((l.set i x).set j y).set i z = (l.set j y).set i z := by
  rw [List.set_comm x y h, List.set_set]
theorem es_try {cs : List Nat} {i j : Nat} {n y x : Str} {c : Value} {body : List Stmt} {t : Rho → Res Fl} {np np2 yp ap pos pos' : Pos}
    (hs : X.stack = X.env :: X.outer) (hf : X.env.frame = some X.env.locals) (hex : X.ex = []) (hN : X.N.Nodup) (hi : X.N[i]? = some n) (hj : X.N[j]? = some y) (hln : X.env.kindOf n = some .local) (hlv : Vis X.env.scope n) (hy : X.env.scope.names.lookup y = some .local)
    (hc : Names X x c) (tk : Takes X W) (pi : i ∉ pn) (pj : j ∉ pn) (nij : i ≠ j) (nd : (n == ("__debug__" : Str)) = false) (nd2 : (n == ("__classdict__" : Str)) = false)
    (hcs : ∀ c0 ∈ cs, PySem.W.exmOne X.K (.ref (cl c0)) c = some true)
    (hsw : ∀ (a : Addr) (pn' : List (Addr × Obj)), swapsWithSole [.Name y yp] (.Name n np2) ap.line (X.suite a pn').env = pure false) (hst : ∀ (a : Addr) (pn' : List (Addr × Obj)), swappedStores [.Name y yp] (.Name n np2) (X.suite a pn').env = pure none)
    (hb : ∀ (W' : WX) (pn' : List (Addr × Obj)) (xe : Value → Shared → Prop), Takes (X.tr pn' xe) W' → PassesOwn (model X.prog X.w) X.A X.env xe → ESs (X.tr pn' xe) cl pn W' body t) :
    ES X cl pn W (.Try body [.ExceptHandler (some (.Name x np)) (some n) [.Assign [.Name y yp] (.Name n np2) ap] pos'] [] [] pos) (sTry cs i j t) := by
  refine PS.imp (ps_try_kept (tb := fun W' => LS X.K cl pn W' t) (ts := fun _ _ _ => tAsg (tVar i) (gName j)) hs hf hex hN hi hln hc tk hb fun a oe cls d pn' hz hd => pss_one (ps_asg (pe_var hi hlv nd nd2) (pg_name hN hj (.inl hy) (.inr hy)) (hsw a _) (hst a _))) fun D σ H ⟨F, ρ, A, s, q⟩ => ⟨F, ρ, A, s, ?_⟩
  unfold sTry at q
  cases e : t ρ with
  | bad => rw [e] at q; exact q.elim
  | ok fl ρ' =>
    rw [e] at q
    dsimp only at q ⊢
    cases fl <;> exact q
  | err x ρ1 =>
    rw [e] at q
    dsimp only at q
    by_cases hk : (cs.contains x.c && decide (i < ρ1.length) && decide (j < ρ1.length)) = true
    · rw [if_pos hk] at q
      obtain ⟨h1, hjl⟩ := Bool.and_eq_true_iff.mp hk
      obtain ⟨h1, hil⟩ := Bool.and_eq_true_iff.mp h1
      have hjl := of_decide_eq_true hjl
      have hil := of_decide_eq_true hil
      have hm : x.c ∈ cs := by simpa using h1
      intro σ' F' H' A' c0 a0 s' g' p' ex
      obtain ⟨ec, exf⟩ := ex
      refine ⟨true, by rw [ec]; exact hcs _ hm, fun _ a na => ?_, fun z => by cases z⟩
      have hiσ : i < σ'.length := by rw [← s'.len]; exact hil
      refine ⟨.ref a, List.getElem?_set_self hiσ, ?_⟩
      -- what is let go, and what is tracked
      let S : Addr → Prop := fun b => ∃ o, F b = some o ∧ isDi o = true ∧ H b = some o
      refine ⟨S, (fun b ⟨o, _, hd, ho⟩ x u z => by rw [ho] at z; cases z; cases hd), ?_⟩
      have fa' : F' a = none := sb_none s'.sub na
      have fr : ∀ {o : HO}, isDi o = true → ∀ {x : Obj} {u : HO}, o ≠ .frz x u := fun hd x u z => by rw [z] at hd; cases hd
      -- the exception's dict
      have h3 : ∃ (F3 : Hp) (vs : List (Str × V)), Le F' F3 ∧ (∀ b o, F3 b = some o → F' b = some o ∨ (H' b = some o ∧ ∃ vs, o = .xd vs)) ∧ ((x.fs = [] ∧ a0 = none) ∨ ∃ dx, a0 = some dx ∧ F3 dx = some (.xd vs)) ∧ RepA X.K cl F3 x.fs vs := by
        cases hx : x.fs with
        | nil =>
          rw [hx] at exf
          exact ⟨F', [], Le.refl _, fun b o h => .inl h, .inl ⟨rfl, exf⟩, rfl⟩
        | cons z zs =>
          rw [hx] at exf
          obtain ⟨d, vs, e1, e2, r⟩ := exf
          have le : Le F' (upd F' d (.xd vs)) := fun b o h => by
            by_cases z : b = d
            · rw [z] at h ⊢
              obtain ⟨rd, nd⟩ := s'.sub d o h
              have : o = .xd vs := by
                rcases rd with rd | ⟨y, rd⟩
                · rw [e2] at rd; cases rd; rfl
                · rw [e2] at rd; cases rd
              rw [this]
              exact upd_same
            · rw [upd_ne z]
              exact h
          refine ⟨upd F' d (.xd vs), vs, le, fun b o h => ?_, .inr ⟨d, e1, upd_same⟩, repA_mono le _ _ r⟩
          by_cases z : b = d
          · rw [z, upd_same] at h
            cases h
            exact .inr ⟨by rw [z]; exact e2, _, rfl⟩
          · rw [upd_ne z] at h
            exact .inl h
      obtain ⟨F3, vs, le3, of3, hxs, r3⟩ := h3
      have fa3 : F3 a = none := by
        cases z : F3 a with
        | none => rfl
        | some o =>
          rcases of3 a o z with z | ⟨z, _⟩
          · rw [fa'] at z; cases z
          · rw [na] at z; cases z
      let HO2 : HO := keptX (.ref (cl x.c)) a0 a
      let F2 : Hp := upd F3 a HO2
      let H2 : Hp := unl S (upd H' a HO2)
      have le2 : Le F3 F2 := fun b o h => by
        show upd F3 a HO2 b = some o
        rw [upd_ne (fun z => by rw [z, fa3] at h; cases h)]
        exact h
      have le : Le F' F2 := le3.trans le2
      have F2a : F2 a = some HO2 := upd_same
      have H2a : H2 a = some HO2 := unl_ne upd_same fun y u z => by
        have z : keptX (.ref (cl x.c)) a0 a = .frz y u := z
        cases z
      have ub : ∀ {b : Addr} {o : HO}, H' b = some o → upd H' a HO2 b = some o := fun {b o} q => by
        rw [upd_ne (fun z => by rw [z, na] at q; cases q)]
        exact q
      -- what no lock is stays
      have st : ∀ {b : Addr} {o : HO}, H' b = some o → (∀ x u, o ≠ .frz x u) → H2 b = some o := fun h n => unl_ne (ub h) n
      have sb2 : Sb F2 H2 := fun b o h => by
        by_cases za : b = a
        · rw [za] at h ⊢
          rw [F2a] at h
          cases h
          exact ⟨.inl H2a, fun _ => H2a⟩
        · have h : F3 b = some o := by
            have : upd F3 a HO2 b = some o := h
            rw [upd_ne za] at this
            exact this
          rcases of3 b o h with h | ⟨h, vs', eo⟩
          · obtain ⟨rd, nd⟩ := s'.sub b o h
            by_cases hd : isDi o = true
            · refine ⟨?_, fun z => by rw [hd] at z; cases z⟩
              rcases rd with rd | ⟨y, rd⟩
              · exact .inl (st rd fun x u => fr hd)
              · by_cases hb : S b
                · exact .inl (unl_new (ub rd) hb)
                · exact .inr ⟨y, unl_old (ub rd) hb⟩
            · have hd : isDi o = false := by simpa using hd
              have hb := ub (nd hd)
              have : H2 b = some o := by
                by_cases hs : S b
                · obtain ⟨o1, e1, d1, h1⟩ := hs
                  have e2 := g'.ff _ _ e1
                  rw [h] at e2
                  cases e2
                  rw [d1] at hd
                  cases hd
                · exact unl_old hb hs
              exact ⟨.inl this, fun _ => this⟩
          · have : H2 b = some o := st h fun x u z => by rw [eo] at z; cases z
            exact ⟨.inl this, fun _ => this⟩
      have wf : ∀ {b : Addr}, Wr (H' b) → ∀ o, H' b = some o → ∀ x u, o ≠ .frz x u := fun w o h x u z => by rw [h, z] at w; exact w
      have nw : ∀ {b : Addr}, b ≠ a → (∀ vs, H' b ≠ some (.xd vs)) → F2 b = F' b := fun {b} na' w => by
        show upd F3 a HO2 b = F' b
        rw [upd_ne na']
        cases z : F' b with
        | some o => exact le3 b o z
        | none =>
          cases z3 : F3 b with
          | none => rfl
          | some o =>
            rcases of3 b o z3 with h | ⟨h, vs', eo⟩
            · rw [z] at h; cases h
            · exact absurd (by rw [h, eo]) (w vs')
      have s2 : Sto X.K cl F2 H2 σ' ρ1 A' := s'.mono le sb2 fun b hb => by
        obtain ⟨f0, w⟩ := s'.at_ hb
        refine ⟨?_, fun y hy => st hy (wf w y hy)⟩
        rw [nw (fun z => by rw [z, na] at w; exact w) (fun vs z => by rw [z] at w; exact w)]
        exact f0
      have rp : Own X.K cl F2 H2 (.fz (.exc x.c x.fs)) (.ref a) [] := ⟨rfl, a, a0, vs, rfl, F2a, hxs.imp id fun ⟨dx, e1, e2⟩ => ⟨dx, e1, le2 _ _ e2⟩, repA_mono le2 _ _ r3⟩
      have s3 := (s2.put (i := j) hjl rp List.nodup_nil (fun b hb => by cases hb)).drop (i := i) (x := none)
      have key := q _ F2 H2 _ s3 ⟨fun b o h n => ?k, g'.ff.trans le, fun b w n => ?n, fun b h => g'.ow b ?o⟩ (fun k hk => ?p)
      · show D.nx (((σ'.set i (some (.ref a))).set j (some (.ref a))).set i none) (unl S (upd H' a (keptX c0 a0 a)))
        rw [set_twice nij, ec]
        exact key
      case k =>
        rcases g'.keep b o h n with z | ⟨f, d, y, z⟩
        · by_cases hs : S b
          · obtain ⟨o1, e1, d1, h1⟩ := id hs
            rw [h] at h1
            cases h1
            exact st z fun x u => fr d1
          · exact unl_old (ub z) hs
        · exact unl_new (ub z) ⟨o, f, d, h⟩
      case n =>
        obtain ⟨o, ho⟩ := wr_some w
        rw [ho] at w
        have hk := g'.keep b o ho n
        rw [nw, g'.new b (by rw [ho]; exact w) n]
        · intro z
          rw [z] at hk
          rcases hk with z | ⟨_, _, y, z⟩
          · rw [na] at z; cases z
          · rw [na] at z; cases z
        · intro vs z
          rcases hk with z' | ⟨_, _, y, z'⟩
          · rw [z] at z'; cases z'; exact w
          · rw [z] at z'; cases z'
      case o =>
        obtain ⟨k, hk⟩ := h
        dsimp only at hk
        by_cases e1 : k = i
        · rw [if_pos e1] at hk; cases hk
        · rw [if_neg e1] at hk
          by_cases e2 : k = j
          · rw [if_pos e2] at hk; cases hk
          · rw [if_neg e2] at hk; exact ⟨k, hk⟩
      case p =>
        have n1 : i ≠ k := fun z => pi (by rw [z]; exact hk)
        have n2 : j ≠ k := fun z => pj (by rw [z]; exact hk)
        rw [List.getElem?_set_ne n1, List.getElem?_set_ne n2]
        exact p' k hk
    · rw [if_neg hk] at q
      exact q.elim
end
end DL
/-! DL36: raise C('text'), raise C(e); a class of exceptions. -/
namespace DL
open PySem L2 PySem.Spec PyProof.Rows
/-- an exception class without own __init__ -/
structure ExcA (K : PySem.W.Frag) (mg : Str → Option Value) (x : Str) (C : Addr) : Prop where
  g : mg x = some (.ref C)
  k : PySem.W.keepIn K (.ref C) = true
  b : PySem.W.subIn K (.ref C) (.type "BaseException") = some true
  t : PySem.W.typeIn K (.ref C) = some (.type "type")
  q : ∃ bm, PySem.W.excIn K C bm "ValueError.__new__" = true ∧ bm = [.type "ValueError", .type "Exception", .type "BaseException", .type "object"]
/-- one whose __init__ stores one field -/
structure ExcI (K : PySem.W.Frag) (mg : Str → Option Value) (x f : Str) (C : Addr) (fI : Addr) : Prop where
  g : mg x = some (.ref C)
  T : OexC K C
  i : PySem.W.findIn K (.ref C) "__init__" = some (some (.ref fI))
  ti : PySem.W.typeIn K (.ref fI) = some (.type "function")
  no : PySem.W.findIn K (.ref C) f = some none
/-- the class above all, whose __init__ is ValueError's -/
structure DeE (K : PySem.W.Frag) (mg : Str → Option Value) (x : Str) (C : Addr) : Prop where
  g : mg x = some (.ref C)
  rd : PySem.W.readsIn K C (.type "type") = true
  sp : PySem.W.specialIn K (.ref C) "__getattribute__" = some (some (.builtin "type.__getattribute__"))
  e : PySem.W.findCls K (.ref C) (.type "type") "__init__" = some (.val (.builtin "ValueError.__init__"))
@[simp] def sRaise0 (c : Nat) : Rho → Res Fl := fun ρ => .err ⟨c, []⟩ ρ
@[simp] def sRaise1 (c : Nat) (f : Str) (t : Rho → Res (List Opd)) : Rho → Res Fl := fun ρ => match t ρ with
  | .ok [.d d] ρ1 => .err ⟨c, [(f, d)]⟩ ρ1
  | .ok _ _ => .bad
  | .err x ρ1 => .err x ρ1
  | .bad => .bad
def spExI (K : PySem.W.Frag) (C : Addr) (f : Str) : Sp := fun vs H Q _ => ∃ a y, vs = [.ref a, y] ∧ H a = some (exo a C none) ∧ ∀ dx, H dx = none → dx ≠ a → Q .non (upd (upd H dx (exd dx [(f, y)])) a (exo a C (some dx)))
def tExI (K : PySem.W.Frag) (C : Addr) (f : Str) : TS := fun D σ H => ∃ a y, σ[0]? = some (some (.ref a)) ∧ σ[1]? = some (some y) ∧ H a = some (exo a C none) ∧ ∀ dx, H dx = none → dx ≠ a → D.nx σ (upd (upd H dx (exd dx [(f, y)])) a (exo a C (some dx)))
section
variable {X : Cx} {cl : Nat → Addr} {W : WX} {pn : List Nat}
theorem es_raise0 {c : Nat} {x m : Str} {j : Nat} {p p2 pos pos2 : Pos} (hc : X.calm = true) (tk : Takes X W) (T : ExcA X.K X.mg x (cl c)) (hg : Gl X x) (hdb : (x == ("__debug__" : Str)) = false := by decide) :
    ES X cl pn W (.Raise (some (.Call (.Name x p) [.Constant (.str m) j p2] [] pos)) none pos2) (sRaise0 c) := by
  obtain ⟨bm, q, e⟩ := T.q
  subst e
  exact PS.imp (ps_raise hc tk (pmk_own PySem.F.excBase_ValueError q T.g T.k (raises_own T.b T.t) hg hdb)) fun D σ H ⟨F, ρ, A, s, q⟩ => q σ F H A _ none s Gr.refl.e (fun _ _ => rfl) ⟨rfl, rfl⟩
theorem passF {P : Program} {w : World} {X : Cx} : Passes (L2.CX P w) X (fun _ _ _ => False) := fun _ _ _ _ _ _ _ h => by
  obtain ⟨_, _, _, _, _, _, _, _, _, _, _, _, z⟩ := h
  exact z.elim
theorem es_raise1 {c : Nat} {x f : Str} {fI : Addr} {k : Nat} {fd : FuncData} {ps : List Str} {e : Expr} {es : List Expr} {ts : Rho → Res (List Opd)} {p pos pos2 : Pos} (hc : X.calm = true) (tk : Takes X W) (T : ExcI X.K X.mg x f (cl c) fI)
    (F1 : FnOk X.prog X.w X.K X.mg X.base (L2.CX X.prog X.w) k fI fd ps (spExI X.K (cl c) f)) (hr : Room (k + 1) X.A) (hb : Binds X.K fd ps []) (hg : Gl X x) (ha : EA X cl W (e :: es) ts)
    (hdb : (x == ("__debug__" : Str)) = false := by decide) (he : starEach (e :: es) X.env = (false, eval e X.env) :: starEach es X.env := by rfl) (hpl : (backTo pos (starEach es X.env)).any (·.1) = false := by rfl) :
    ES X cl pn W (.Raise (some (.Call (.Name x p) (e :: es) [] pos)) none pos2) (sRaise1 c f ts) := by
  refine PS.imp (ps_raise hc tk (pmk_oex T.T T.i T.ti F1 hr hb .nil passF hg T.g ha hdb he hpl)) fun D σ H ⟨F, ρ, A, s, q⟩ => ⟨F, ρ, A, s, ?_⟩
  unfold sRaise1 at q
  cases e1 : ts ρ with
  | bad => rw [e1] at q; exact q.elim
  | err y ρ' => rw [e1] at q; exact fun F' H' A' c a s' g' ex => q σ F' H' A' c a s' g' (fun _ _ => rfl) ex
  | ok qs ρ1 =>
    rw [e1] at q
    dsimp only at q ⊢
    match qs, q with
    | [.d d], q =>
      intro vs F1 H1 A1 s1 g1 p1
      obtain ⟨u, us, rfl, pd, rfl⟩ := p1
      refine ⟨by show 1 ≤ 1000; omega, fun a na => ⟨a, u, rfl, upd_same, fun dx nd ne => ?_⟩⟩
      have nd1 : H1 dx = none := by rw [upd_ne ne] at nd; exact nd
      refine ⟨rfl, dx, [(f, u)], upd_same, by rw [upd_ne ne]; exact upd_same, nd1, ?_⟩
      have e2 : upd (del (upd (upd (upd H1 a (exo a (cl c) none)) dx (exd dx [(f, u)])) a (exo a (cl c) (some dx))) a) dx (.xd [(f, u)]) = upd H1 dx (.xd [(f, u)]) := by
        funext b
        by_cases b1 : b = dx
        · rw [b1, upd_same, upd_same]
        · rw [upd_ne b1, upd_ne b1]
          by_cases b2 : b = a
          · rw [b2, del_same, na]
          · rw [del_ne b2, upd_ne b2, upd_ne b1, upd_ne b2]
      rw [e2]
      have f1 : F1 dx = none := sb_none s1.sub nd1
      have k : ∀ {b : Addr} {o : HO}, H1 b = some o → upd H1 dx (.xd [(f, u)]) b = some o := fun {b o} h => by rw [upd_ne (fun z => by rw [z, nd1] at h; cases h)]; exact h
      have s2 : Sto X.K cl F1 (upd H1 dx (.xd [(f, u)])) σ ρ1 A1 := s1.mono (Le.refl _) (fun b o h => by
          obtain ⟨r1, r2⟩ := s1.sub b o h
          refine ⟨?_, fun z => k (r2 z)⟩
          rcases r1 with r1 | ⟨y, r1⟩
          · exact .inl (k r1)
          · exact .inr ⟨y, k r1⟩) fun b hb => ⟨(s1.at_ hb).1, fun y hy => k hy⟩
      exact q σ F1 _ A1 _ (some dx) s2 ⟨fun b o h n => .inl (k (g1.keep b o h n)), g1.ff, g1.new, g1.ow⟩ (fun _ _ => rfl) ⟨rfl, dx, [(f, u)], rfl, upd_same, u, [], rfl, pd, rfl⟩
    | [], q => exact q.elim
    | [.b _], q => exact q.elim
    | .d _ :: _ :: _, q => exact q.elim
    | .b _ :: _ :: _, q => exact q.elim
section
variable {e : Expr} {es : List Expr} {ta : TA} {x : Str} {p1 p2 pos : Pos} {C : Addr}
theorem pe_clsinit {pl : Sem Bool} (D : DeE X.K X.mg x C) (hg : Gl X x) (ha : PA X (e :: es) ta)
    (hc : eval (.Call (.Attribute (.Name x p1) "__init__" p2) (e :: es) [] pos) X.env = (do
      let ov ← eval (.Name x p1) X.env
      standAt p2.atName
      let (f, first) ← holding [ov] (getMethod ov "__init__" pl)
      callWith pos f first (backTo pos (starEach (e :: es) X.env)) (backToKw pos (keywordEach [] X.env))) := by rfl)
    (hdb : (x == ("__debug__" : Str)) = false := by decide) (he : starEach (e :: es) X.env = (false, eval e X.env) :: starEach es X.env := by rfl) (hpl : (backTo pos (starEach es X.env)).any (·.1) = false := by rfl) :
    PE X (.Call (.Attribute (.Name x p1) "__init__" p2) (e :: es) [] pos) (tVeI X.K ta) := by
  refine ⟨fun pins s σ H Q I h => ?_⟩
  refine PySem.W.methodCall_KW (ld_glob I hg D.g ?_ hdb) hc
  refine PySem.W.method_cls I.kIn D.sp (PySem.W.cls_value I.kIn D.rd D.e (by decide +kernel) ?_)
  show wpAny _ _ (callWith pos (Value.builtin "ValueError.__init__") [] (backTo pos (starEach (e :: es) X.env)) []) _ _ _
  refine PyProof.Rows.callWith_method1 (thn (ha.run pos pins _ σ H _ (I.tok _) h) fun us s1 ⟨vs, H1, I1, r1, a, C, ws, ev, hl, T, ea, q⟩ => ?_) he hpl
  subst ev
  cases r1 with
  | @cons _ u0 _ ur ra rw' =>
    obtain rfl : u0 = Value.ref a := ra
    have hlen : ur.length ≤ sizeLine := by
      rw [← Paired.length rw', sizeLine_eq]
      omega
    exact oinit_ok T I1 ea hlen fun s' J => ⟨.non, H1, J, rfl, q⟩
end
theorem pss_exi {pl : Sem Bool} {C D : Addr} {x f m : Str} {s0 s1 e1 : Expr} {j : Nat} {p1 p2 p4 p5 p6 p8 p10 : Pos} (h0 : PE X s0 (tVar 0)) (h1 : PE X s1 (tVar 0)) (h2 : PE X e1 (tVar 1)) (d : DeE X.K X.mg x D) (T : OexC X.K C) (no : PySem.W.findIn X.K (.ref C) f = some none) (hg : Gl X x)
    (hc : eval (.Call (.Attribute (.Name x p1) "__init__" p2) [s0, .Constant (.str m) j p4] [] p5) X.env = (do
      let ov ← eval (.Name x p1) X.env
      standAt p2.atName
      let (f, first) ← holding [ov] (getMethod ov "__init__" pl)
      callWith p5 f first (backTo p5 (starEach [s0, .Constant (.str m) j p4] X.env)) (backToKw p5 (keywordEach [] X.env))) := by rfl)
    (hdb : (x == ("__debug__" : Str)) = false := by decide) (he : starEach [s0, .Constant (.str m) j p4] X.env = (false, eval s0 X.env) :: starEach [.Constant (.str m) j p4] X.env := by rfl)
    (hsw : swapsWith (.Call (.Attribute (.Name x p1) "__init__" p2) [s0, .Constant (.str m) j p4] [] p5) none p6.line X.env = pure false := by rfl) (hsw2 : swapsWith e1 (some (.Attribute s1 f p8)) p10.line X.env = pure false := by rfl) :
    PSs X [.Expr (.Call (.Attribute (.Name x p1) "__init__" p2) [s0, .Constant (.str m) j p4] [] p5) p6, .Assign [.Attribute s1 f p8] e1 p10] (tExI X.K C f) :=
  PSs.imp (pss_cons (ps_expr (pe_clsinit d hg (pa_cons h0 (pa_cons pe_str pa_nil) he) hc hdb he) hsw) (pss_one (ps_ost h1 h2 hsw2))) fun D σ H ⟨a, y, g0, g1, ha, q⟩ =>
    ⟨.ref a, g0, a, C, [.str m], rfl, by show 1 ≤ 1000; omega, T, ha, y, g1, .ref a, g0, a, C, rfl, T, no, .inl ⟨ha, q⟩⟩
end
section
variable {P : Program} {w : World} {K : PySem.W.Frag} {mg : Str → Option Value} {base : Heap}
theorem ok_exi {x qual f : Str} {st : Stmt} {fI C : Addr} {fd : FuncData} {N ps : List Str} (Fn : Fun K x qual st fI fd) (S : FnScope N ps (defScope st)) (hn : ps.length = 2) (hm : N.length = 2)
    (hb : ∀ (cdv : Value) (A : Around) (outer : List Env) (s : Shared) (H : Hp) (E : XK), PSs (cxOf (L2.CX P w) P w K mg base N qual (defScope st) fI cdv A outer s H E) (defBody st) (tExI K C f)) :
    FnOk P w K mg base (L2.CX P w) 1 fI fd ps (spExI K C f) := by
  refine Fn.okX S (fun vs H Q E ⟨a, y, h, _⟩ => by rw [h, hn]; rfl) fun cdv Ar outer s H vs Q E hr ⟨a, y, h, ha, q⟩ => ⟨_, hb cdv Ar outer s H E, a, y, ?_, ?_, ha, q⟩
  · subst h
    unfold L2.start
    rw [hm]
    rfl
  · subst h
    unfold L2.start
    rw [hm]
    rfl
end
end DL
/-! DL37: what is asked of a caught exception: its class, its field; list.count of bools. -/
namespace DL
open PySem L2 PySem.Spec PyProof.Rows
section
variable {X : Cx} {cl : Nat → Addr} {W : WX} {pn : List Nat}
/-! ### isinstance(e, C) -/
def rIsX (K : PySem.W.Frag) : List V → Hp → VK → Prop := fun xs H Q => ∃ (a D : Addr) (d : Option Addr) (c : V) (cv : Value) (b : Bool), xs = [.ref a, c] ∧ H a = some (keptX (.ref D) d a) ∧ (d = none ∨ ∃ dx vs, d = some dx ∧ H dx = some (.xd vs)) ∧ ExcC K D ∧ (∀ u, RelV c u → u = cv) ∧ PySem.W.kitOne K (.ref D) cv = some b ∧ Q (.bl b) H
theorem kept_at {P : Program} {w : World} {H : Hp} {h : Heap} {a D : Addr} {d : Option Addr} (hok : HOk P w H h) (e : H a = some (keptX (.ref D) d a)) (hd : d = none ∨ ∃ dx vs, d = some dx ∧ H dx = some (.xd vs)) : ∃ oe od, PySem.W.InstAt h a oe D od ∧ ∀ dx, d = some dx → ∃ o, od = some o ∧ h.get? dx = some o := by
  have x : ObjOk P w H h a (.ext fun h => ∃ (oe : Obj) (vs : Array Value), h.get? a = some oe ∧ Zc (.ref D) d oe ∧ oe.data = .fields vs) := hok a _ e
  obtain ⟨oe, vs, ho, hz, hv⟩ := x.1
  have no : PySem.W.notCls oe = true := by unfold PySem.W.notCls; rw [hv] <;> rfl
  rcases hd with hd | ⟨dx, ws, hd, hx⟩
  · subst hd
    exact ⟨oe, none, ⟨ho, hz.1, no, by rw [hz.2]; trivial⟩, fun dx z => by cases z⟩
  · subst hd
    obtain ⟨mA, hns, _⟩ := (show ObjOk P w H h dx (.xd ws) from hok dx _ hx)
    obtain ⟨od, ho2, _⟩ := lookIn_ns hns
    exact ⟨oe, some od, ⟨ho, hz.1, no, by rw [hz.2]; exact ho2⟩, fun dx' z => by cases z; exact ⟨od, rfl, ho2⟩⟩
theorem call_isX : CallR X (.builtin "isinstance") (rIsX X.K) := by
  intro pins s σ H xs us Q I r h
  obtain ⟨a, D, d, c, cv, b, rfl, ha, hd, C, hcv, e, q⟩ := h
  obtain ⟨u1, u2, rfl, r1, r2⟩ := vals2 r
  cases (show u1 = Value.ref a from r1)
  have e2 := hcv _ r2
  subst e2
  obtain ⟨oe, od, J, _⟩ := kept_at I.hok ha hd
  exact PySem.W.kia_one (PySem.W.kitx_exc (od := od) (ox := oe) (by obtain ⟨cd, hc, _⟩ := PySem.W.any_some C.hd; rw [hc]; rfl) C.hg C.hk C.hs C.ha C.hn C.ht C.hm) I.kIn J e (fun z => nomatch z) fun tk => ⟨.bl b, H, I.tok tk, rfl, q⟩
@[simp] def evIsx (tab : List (Nat × Bool)) (t : Rho → Res Opd) : Rho → Res OV := fun ρ => (t ρ).bind fun x ρ1 => match x with
  | .d (.exc c _) => (match tab.lookup c with
    | some b => .ok (ovB b) ρ1
    | none => .bad)
  | _ => .bad
theorem lookup_mem {c : Nat} {b : Bool} : ∀ {tab : List (Nat × Bool)}, tab.lookup c = some b → (c, b) ∈ tab
  | [], h => by cases h
  | (c', b') :: t, h => by
    rw [List.lookup_cons] at h
    by_cases z : c = c'
    · rw [z, beq_self_eq_true] at h
      cases h
      rw [z]
      exact List.mem_cons_self
    · have : (c == c') = false := by simpa using z
      rw [this] at h
      exact List.mem_cons_of_mem _ (lookup_mem h)
/-- a caught exception in hand -/
theorem exc_in {K : PySem.W.Frag} {F H : Hp} {c : Nat} {fs : List (Str × D)} {v : V} (sb : Sb F H) (r : Rep K cl F (.exc c fs) v) : ∃ a d vs, v = .ref a ∧ H a = some (keptX (.ref (cl c)) d a) ∧ ((fs = [] ∧ d = none) ∨ ∃ dx, d = some dx ∧ H dx = some (.xd vs)) ∧ RepA K cl F fs vs := by
  obtain ⟨a, d, vs, e, h, z, r⟩ := r
  refine ⟨a, d, vs, e, (sb a _ h).2 rfl, z.imp id fun ⟨dx, e1, e2⟩ => ⟨dx, e1, (sb dx _ e2).2 rfl⟩, r⟩
def IsTab (K : PySem.W.Frag) (cl : Nat → Addr) (tab : List (Nat × Bool)) (cv : Value) : Prop := ∀ p ∈ tab, ExcC K (cl p.1) ∧ PySem.W.kitOne K (.ref (cl p.1)) cv = some p.2
theorem it_nil {K : PySem.W.Frag} {cv : Value} : IsTab K cl [] cv := fun p h => by cases h
theorem it_cons {K : PySem.W.Frag} {cv : Value} {c : Nat} {b : Bool} {t : List (Nat × Bool)} (h1 : ExcC K (cl c)) (h2 : PySem.W.kitOne K (.ref (cl c)) cv = some b) (h : IsTab K cl t cv) : IsTab K cl ((c, b) :: t) cv := fun p hp => (List.mem_cons.mp hp).elim (fun z => by rw [z]; exact ⟨h1, h2⟩) (h p)
theorem ee_isx {a b : Expr} {c : V} {cv : Value} {p pos : Pos} {tab : List (Nat × Bool)} {t : Rho → Res Opd} (hg : Gl X "isinstance") (hm : X.mg "isinstance" = none) (ha : EP' X cl W a t) (hb : PE X b (tC c)) (hcv : ∀ u, RelV c u → u = cv) (ht : IsTab X.K cl tab cv)
    (he : starEach [a, b] X.env = (false, eval a X.env) :: starEach [b] X.env := by rfl) (hs : starEach [b] X.env = (false, eval b X.env) :: starEach [] X.env := by rfl) (hpl : (backTo pos (starEach [b] X.env)).any (·.1) = false := by rfl) : EE X cl W (.Call (.Name "isinstance" p) [a, b] [] pos) (evIsx tab t) := by
  refine PE.imp (pe_callB call_isX hg hm (by decide +kernel) (pa_cons ha (pa_cons hb pa_nil hs) he) (by decide) (by decide) he hpl) fun σ H Q ⟨F, ρ, A, s, q⟩ => ⟨F, ρ, A, s, ?_⟩
  unfold evIsx at q
  cases e1 : t ρ with
  | bad => rw [e1] at q; exact q.elim
  | err x ρ' => rw [e1] at q; exact q
  | ok x ρ1 =>
    rw [e1] at q
    intro v F1 H1 A1 s1 g1 p1
    dsimp only [Res.bind] at q
    match x, q, p1 with
    | .d (.exc c1 fs), q, p1 =>
      dsimp only at q
      cases e2 : tab.lookup c1 with
      | none => rw [e2] at q; exact q.elim
      | some b1 =>
        rw [e2] at q
        obtain ⟨h1, h2⟩ := ht _ (lookup_mem e2)
        obtain ⟨a1, d1, vs1, ev, h3, h4, h5⟩ := exc_in s1.sub p1
        refine ⟨a1, cl c1, d1, c, cv, b1, by rw [ev], h3, h4.elim (fun z => .inl z.2) fun ⟨dx, z1, z2⟩ => .inr ⟨dx, vs1, z1, z2⟩, h1, hcv, h2, ?_⟩
        exact q _ F1 H1 A1 [] s1 (gr1 g1) (own_mk (H := H1)) List.nodup_nil fun b z => by cases z
    | .d (.v _), q, _ => exact q.elim
    | .d (.tup _), q, _ => exact q.elim
    | .d (.wtp _), q, _ => exact q.elim
    | .d (.lst _), q, _ => exact q.elim
    | .d (.wls _), q, _ => exact q.elim
    | .d (.dic _), q, _ => exact q.elim
    | .d (.dct _), q, _ => exact q.elim
    | .d (.ins _ _), q, _ => exact q.elim
    | .b _, q, _ => exact q.elim
/-! ### e.f -/
def tXfH (K : PySem.W.Frag) (f : Str) (te : TE) : TE := fun σ H Q => te σ H fun x H1 => ∃ a D dd fs v, x = .ref a ∧ H1 a = some (keptX (.ref D) (some dd) a) ∧ ExcC K D ∧ PySem.W.findIn K (.ref D) f = some none ∧ H1 dd = some (.xd fs) ∧ fs.lookup f = some v ∧ Q v H1
theorem pe_xfh {e : Expr} {te : TE} {f : Str} {pos : Pos} (he : PE X e te) (hb : attributeBase e f X.env (eval e X.env) = eval e X.env := by rfl) : PE X (.Attribute e f pos) (tXfH X.K f te) := by
  refine ⟨fun pins s σ H Q I h => ?_⟩
  refine attr_of hb (thn (he.run pins s σ H _ I h) fun u s1 hh => ?_)
  obtain ⟨x, H1, I1, rx, a, D, dd, fs, v, ex, ha, C, hno, hd, l, q⟩ := hh
  subst ex
  obtain rfl : u = Value.ref a := rx
  obtain ⟨mA, hns, hr⟩ := (show ObjOk X.prog X.w H1 s1.heap dd (.xd fs) from I1.hok dd _ hd)
  obtain ⟨od, ho, hl⟩ := lookIn_ns hns
  obtain ⟨u, hu, ru⟩ := RelO.some_of (v := v) (o := mA f) (by rw [← l]; exact hr f)
  have x : ObjOk X.prog X.w H1 s1.heap a (.ext fun h => ∃ (oe : Obj) (vs : Array Value), h.get? a = some oe ∧ Zc (.ref D) (some dd) oe ∧ oe.data = .fields vs) := I1.hok a _ ha
  obtain ⟨oe, vs, h1, hz, hv⟩ := x.1
  have J : PySem.W.InstAt s1.heap a oe D (some od) := ⟨h1, hz.1, by unfold PySem.W.notCls; rw [hv] <;> rfl, by rw [hz.2]; exact ho⟩
  exact HandSPX.exc_get I1.kIn J C.hg C.hk C.hs (PySem.W.findObj_own C.hd hno rfl (by rw [hl, hu])) (handed_of ru) ⟨v, H1, I1.tok _, ru, q⟩
@[simp] def evXf (cs : List Nat) (f : Str) (t : Rho → Res Opd) : Rho → Res OV := fun ρ => (t ρ).bind fun x ρ1 => match x with
  | .d (.exc c fs) => if cs.contains c = true then (match aval fs f with
    | some d => .ok (.o (.fz d)) ρ1
    | none => .bad) else .bad
  | _ => .bad
theorem ee_xf {e : Expr} {cs : List Nat} {f : Str} {pos : Pos} {t : Rho → Res Opd} (ha : EP' X cl W e t) (ok : ∀ c ∈ cs, ExcC X.K (cl c) ∧ PySem.W.findIn X.K (.ref (cl c)) f = some none) (hb : attributeBase e f X.env (eval e X.env) = eval e X.env := by rfl) : EE X cl W (.Attribute e f pos) (evXf cs f t) := by
  refine PE.imp (pe_xfh ha hb) fun σ H Q ⟨F, ρ, A, s, q⟩ => ⟨F, ρ, A, s, ?_⟩
  unfold evXf at q
  cases e1 : t ρ with
  | bad => rw [e1] at q; exact q.elim
  | err x ρ' => rw [e1] at q; exact q
  | ok x ρ1 =>
    rw [e1] at q
    intro v F1 H1 A1 s1 g1 p1
    dsimp only [Res.bind] at q
    match x, q, p1 with
    | .d (.exc c1 fs), q, p1 =>
      dsimp only at q
      by_cases hc : cs.contains c1 = true
      · rw [if_pos hc] at q
        have hm : c1 ∈ cs := by simpa using hc
        obtain ⟨k1, k2⟩ := ok c1 hm
        cases e2 : aval fs f with
        | none => rw [e2] at q; exact q.elim
        | some d =>
          rw [e2] at q
          obtain ⟨a1, d1, vs1, ev, h3, h4, h5⟩ := exc_in s1.sub p1
          obtain ⟨w, hw, rw'⟩ := aval_rep h5 e2
          rcases h4 with ⟨z, _⟩ | ⟨dx, z1, z2⟩
          · rw [z] at e2
            cases e2
          · refine ⟨a1, cl c1, dx, vs1, w, ev, by rw [← z1]; exact h3, k1, k2, z2, hw, ?_⟩
            exact q w F1 H1 A1 [] s1 (gr1 g1) ⟨rfl, rw'⟩ List.nodup_nil fun b z => by cases z
      · rw [if_neg hc] at q
        exact q.elim
    | .d (.v _), q, _ => exact q.elim
    | .d (.tup _), q, _ => exact q.elim
    | .d (.wtp _), q, _ => exact q.elim
    | .d (.lst _), q, _ => exact q.elim
    | .d (.wls _), q, _ => exact q.elim
    | .d (.dic _), q, _ => exact q.elim
    | .d (.dct _), q, _ => exact q.elim
    | .d (.ins _ _), q, _ => exact q.elim
    | .b _, q, _ => exact q.elim
/-! ### list.count of bools -/
def eqb (k : Bool) (v : Value) : Bool := match v with
  | .bool b => b == k
  | _ => false
theorem bools_vals : ∀ {bs : List Bool} {us : List Value}, Vals (bs.map V.bl) us → us = bs.map Value.bool
  | [], _, .nil => rfl
  | b :: bs, _, .cons r t => by
    rw [bools_vals t]
    rw [show _ = Value.bool b from r]
    rfl
theorem eqb_count (k : Bool) : ∀ bs : List Bool, (bs.map Value.bool).countP (eqb k) = bs.count k
  | [] => rfl
  | b :: bs => by
    rw [List.map_cons, List.countP_cons, List.count_cons, eqb_count k bs]
    rfl
def rCntB (K : PySem.W.Frag) : V → List V → Hp → VK → Prop := fun x xs H Q => ∃ (p : Addr) (bs : List Bool) (k : Bool), x = .ref p ∧ xs = [.bl k] ∧ SqL K H p (bs.map V.bl) ∧ Q (.int (bs.count k : Nat)) H
theorem mt_lcountB : MtR X "list.count" (rCntB X.K) := by
  intro pins s σ H x xs v us Q I rx rxs h
  obtain ⟨p, bs, k, rfl, rfl, hs, q⟩ := h
  cases rx
  obtain ⟨u, rfl, ru⟩ := rxs.one
  cases (show u = Value.bool k from ru)
  obtain ⟨its, rv, ⟨⟨cls, dd, data, sl⟩, n, ho, hc, hdn, hd⟩, hlen⟩ := I.list hs
  simp only at hc hd
  subst hc hd
  have hi := bools_vals rv
  refine call_meets PySem.F.slot_list_count ⟨_, ho, rfl⟩ PySem.F.entry_list_count (PySem.F.args_list_count_2 _ _)
    (SeqAt.list_countAt p its.toArray n dd sl (.bool k) (eqb k)) ⟨ho, fun y hy => ?_, ?_⟩
  · have hy : y ∈ its := by simpa using hy
    rw [hi] at hy
    obtain ⟨b, _, rfl⟩ := List.mem_map.mp hy
    exact SeqAt.EqAt.bool_bool b k
  · have ec : its.toArray.toList.countP (eqb k) = bs.count k := by
      show its.countP (eqb k) = _
      rw [hi]
      exact eqb_count k bs
    refine ⟨.int (bs.count k : Nat), H, I.tok _, ⟨s.toks, ?_⟩, q⟩
    show Value.int ((its.toArray.toList.countP (eqb k) : Nat) : Int) s.toks = Value.int ((bs.count k : Nat) : Int) s.toks
    rw [ec]
@[simp] def boolsOf : List D → Option (List Bool)
  | [] => some []
  | .v (.bl b) :: ds => (match boolsOf ds with
    | some bs => some (b :: bs)
    | none => none)
  | _ => none
theorem boolsOf_rep {K : PySem.W.Frag} {F : Hp} : ∀ {ds : List D} {bs : List Bool} {vs : List V}, boolsOf ds = some bs → Reps K cl F ds vs → vs = bs.map V.bl
  | [], _, _, h, r => by cases h; exact r
  | .v (.bl b) :: ds, bs, vs, h, r => by
    obtain ⟨u, us, rfl, ru, rr⟩ := r
    unfold boolsOf at h
    cases e : boolsOf ds with
    | none => rw [e] at h; cases h
    | some bs' =>
      rw [e] at h
      cases h
      rw [boolsOf_rep e rr, ru.1]
      rfl
@[simp] def pCntB : List D → Option OD
  | [.lst ds, .v (.bl k)] => (match boolsOf ds with
    | some bs => some (.fz (.v (.int (bs.count k))))
    | none => none)
  | _ => none
theorem pr_cntB {K : PySem.W.Frag} : PrimOk K cl pCntB (fun vs H Q => ∃ x y, vs = [x, y] ∧ rCntB K x [y] H Q) := fun F H ds vs o Q sb r e q => by
  unfold pCntB at e
  split at e
  · rename_i l k
    cases e2 : boolsOf l with
    | none => rw [e2] at e; cases e
    | some bs =>
      rw [e2] at e
      cases e
      obtain ⟨x, y, rfl, ⟨a, us, ex, hq, rr⟩, ry⟩ := reps2 r
      have ev := boolsOf_rep e2 rr
      subst ev
      exact ⟨x, y, rfl, a, bs, k, ex, by rw [ry.1], sb_sqL sb (SqL.of hq), vq_v trivial sb q⟩
  · cases e
theorem ee_countB {e b : Expr} {ta tb : Rho → Res Opd} {apos p : Pos} (ha : EP' X cl W e ta) (hb : EP' X cl W b tb)
    (hbase : attributeBase e "count" X.env (eval e X.env) = eval e X.env := by rfl) (hline : (apos.endLine == p.line) = true := by rfl) (hs : starEach [b] X.env = (false, eval b X.env) :: starEach [] X.env := by rfl) :
    EE X cl W (.Call (.Attribute e "count" apos) [b] [] p) (evLm pCntB ta tb) :=
  ee_lm (fun h1 h2 => pe_bm PySem.F.plainAttrs_list PySem.F.slot_list_count PySem.F.type_list_count mt_lcountB h1 h2 hbase (by rw [hs]; rfl) hline hs rfl) pr_cntB ha hb hs
end
end DL
/-! DL38: methods and classes called where what they raise is wished of by the slots (a try body). -/
namespace DL
open PySem L2 PySem.Spec PyProof.Rows
def tMethS (C : Addr) (m : Str) (sp : Sp) (E : L2.St → XK) (ta : TE) (t : TA) : TE := fun σ H Q => ta σ H fun x H1 => ∃ a dx fs, x = .ref a ∧ H1 a = some (.ins C dx fs) ∧ fs.lookup m = none ∧ t σ H1 fun vs H2 => sp ((x :: vs) ++ []) H2 Q (E σ)
def tMakeS (C : Addr) (sp : Sp) (E : L2.St → XK) (t : TA) : TE := fun σ H Q => t σ H fun vs H1 => ∀ x dx, H1 x = none → H1 dx = none → dx ≠ x → sp (.ref x :: (vs ++ [])) (upd (upd H1 dx (.own x)) x (.ins C dx [])) (fun v H2 => v = .non ∧ Q (.ref x) H2) (E σ)
section
variable {X : Cx} {k : Nat} {f C : Addr} {fd : FuncData} {ps : List Str} {sp : Sp} {W : WX} {x m : Str} {p pos apos : Pos} {e o : Expr} {es : List Expr} {ta : TE} {t : TA}
theorem pe_methS {pl : Sem Bool} (he : PE X o ta) (c : Cls X.K C) (hm : Meth X.K C m f) (F : FnOk X.prog X.w X.K X.mg X.base (L2.CX X.prog X.w) k f fd ps sp) (hr : Room k X.A) (hb : Binds X.K fd ps []) (tk : Takes X W) (ha : PA X (e :: es) t)
    (hst : starEach (e :: es) X.env = (false, eval e X.env) :: starEach es X.env := by rfl) (hpl : (backTo pos (starEach es X.env)).any (·.1) = false := by rfl)
    (ht : eval (.Call (.Attribute o m apos) (e :: es) [] pos) X.env = (do
      let ov ← eval o X.env
      standAt apos.atName
      let (f, first) ← holding [ov] (getMethod ov m pl)
      callWith pos f first (backTo pos (starEach (e :: es) X.env)) (backToKw pos (keywordEach [] X.env))) := by rfl) :
    PE X (.Call (.Attribute o m apos) (e :: es) [] pos) (tMethS C m sp (WE W) ta t) := by
  refine ⟨fun pins s σ H Q I h => ?_⟩
  refine PySem.W.methodCall_KW (pl := pl) (thn (he.run pins s σ H _ I h) fun u s1 ⟨x, H1, I1, rx, a, dx, fs, ex, ea, l, q⟩ => ?_) ht
  subst ex
  obtain rfl : u = Value.ref a := rx
  refine getmeth_ok I1 ea c hm l ?_
  refine PySem.W.callWith_K (first := [.ref a]) (h₀ := X.base) I.ok.mod.kin hm.kp (thn (ha.run pos pins s1 σ H1 _ I1 q) fun us s2 ⟨vs, H2, I2, r, q2⟩ => ⟨I2.kIn, ?_⟩) hst hpl
  exact run_fnS (E := WE W) (us := .ref a :: us) (vs := .ref a :: vs) F hr hb (passAt tk σ) I2 (.cons rfl r) (by dsimp only at q2; rw [List.append_nil] at q2; exact q2)
theorem pe_meth0S {pl : Sem Bool} (he : PE X o ta) (c : Cls X.K C) (hm : Meth X.K C m f) (F : FnOk X.prog X.w X.K X.mg X.base (L2.CX X.prog X.w) k f fd ps sp) (hr : Room k X.A) (hb : Binds X.K fd ps []) (tk : Takes X W)
    (ht : eval (.Call (.Attribute o m apos) [] [] pos) X.env = (do
      let ov ← eval o X.env
      standAt apos.atName
      let (f, first) ← holding [ov] (getMethod ov m pl)
      callWith pos f first (backTo pos (starEach [] X.env)) (backToKw pos (keywordEach [] X.env))) := by rfl) :
    PE X (.Call (.Attribute o m apos) [] [] pos) (tMethS C m sp (WE W) ta tNil) := by
  refine ⟨fun pins s σ H Q I h => ?_⟩
  refine PySem.W.methodCall_KW (pl := pl) (thn (he.run pins s σ H _ I h) fun u s1 ⟨x, H1, I1, rx, a, dx, fs, ex, ea, l, q⟩ => ?_) ht
  subst ex
  obtain rfl : u = Value.ref a := rx
  refine getmeth_ok I1 ea c hm l ?_
  exact PySem.W.callWith_K0 (first := [.ref a]) I1.kIn hm.kp (run_fnS (E := WE W) (us := [.ref a]) (vs := [.ref a]) F hr hb (passAt tk σ) I1 (.cons rfl .nil) q)
theorem pe_makeS (M : Mk X.K C f) (F : FnOk X.prog X.w X.K X.mg X.base (L2.CX X.prog X.w) k f fd ps sp) (hr : Room (k + 1) X.A) (hg : Gl X x) (hm : X.mg x = some (.ref C)) (hb : Binds X.K fd ps []) (tk : Takes X W)
    (ha : PA X (e :: es) t) (hdb : (x == ("__debug__" : Str)) = false := by decide) (he : starEach (e :: es) X.env = (false, eval e X.env) :: starEach es X.env := by rfl) (hpl : (backTo pos (starEach es X.env)).any (·.1) = false := by rfl) :
    PE X (.Call (.Name x p) (e :: es) [] pos) (tMakeS C sp (WE W) t) := by
  refine ⟨fun pins s σ H Q I h => ?_⟩
  refine wpAny_Call_Name_kw (ld_glob I hg hm ?_ hdb)
  refine PySem.W.callWith_K (h₀ := X.base) I.ok.mod.kin M.kp (thn (ha.run pos pins s σ H _ I h) fun us s1 ⟨vs, H1, I1, r, q⟩ => ⟨I1.kIn, ?_⟩) he hpl
  have hq := q (s1.heap.objs.size + 1) s1.heap.objs.size (I1.hok.fresh (Nat.le_succ _)) (I1.hok.fresh (Nat.le_refl _)) (Nat.ne_of_lt (Nat.lt_succ_self _))
  have I2 := Inv.made (C := C) I1
  have r2 : Vals (V.ref (s1.heap.objs.size + 1) :: (vs ++ [])) (Value.ref (s1.heap.objs.size + 1) :: (us ++ [])) := .cons rfl (r.append .nil)
  have hl : (Value.ref (s1.heap.objs.size + 1) :: us ++ []).length = ps.length := by
    have e := r2.length
    rw [F.len _ _ _ _ hq] at e
    exact e.symm
  refine wpAny_call (make_map (f := f) I1.kIn M.makes M.init (beq_iff_eq.mp M.fn) (codeAny_mono (F.run _ X.stack _ _ ⟨Value.ref (s1.heap.objs.size + 1) :: us, []⟩ (Value.ref (s1.heap.objs.size + 1) :: (us ++ [])) _ _ (WE W σ) (hr.make C us [])
    (I2.env0.make C us []) (by have z := hb _ (Value.ref (s1.heap.objs.size + 1) :: us) I2.kIn hl; rw [List.cons_append] at z; exact z) r2 hq) fun r s' hq' => ?_))
  cases r with
  | error e => exact passAt tk σ pins _ _ e s' I2 hq'
  | ok fl =>
    cases fl with
    | ret u =>
      obtain ⟨v, H', I3, rv, ev, q3⟩ := I2.after hq'
      subst ev
      exact ⟨rv, ⟨V.ref (s1.heap.objs.size + 1), H', I3, rfl, q3⟩⟩
    | next => exact False.elim hq'
    | brk => exact False.elim hq'
    | cont => exact False.elim hq'
end
section
variable {X : Cx} {cl : Nat → Addr} {W : WX} {e o : Expr} {es : List Expr} {pos p apos : Pos}
theorem ee_makeS {c : Nat} {S : FS} {ms : List Bool} {ts : Rho → Res (List Opd × Rho)} {k : Nat} {f : Addr} {fd : FuncData} {ps : List Str} {x : Str} (M : Mk X.K (cl c) f) (Fn : FnOk X.prog X.w X.K X.mg X.base (L2.CX X.prog X.w) k f fd ps (spD X.K cl S)) (hr : Room (k + 1) X.A) (hg : Gl X x) (hm : X.mg x = some (.ref (cl c))) (hb : Binds X.K fd ps [])
    (tk : Takes X W) (ha : EX X cl W (e :: es) ts) (hdb : (x == ("__debug__" : Str)) = false := by decide) (he : starEach (e :: es) X.env = (false, eval e X.env) :: starEach es X.env := by rfl) (hpl : (backTo pos (starEach es X.env)).any (·.1) = false := by rfl) :
    EE X cl W (.Call (.Name x p) (e :: es) [] pos) (evMake c S ms ts) := by
  refine PE.imp (pe_makeS M Fn hr hg hm hb tk ha hdb he hpl) fun σ H Q ⟨F, ρ, A, s, q⟩ => ⟨F, ρ, A, s, ?_⟩
  unfold evMake at q
  cases e1 : ts ρ with
  | bad => rw [e1] at q; exact q
  | err x ρ' => rw [e1] at q; exact q
  | ok z ρ1 =>
    rw [e1] at q
    intro vs tv F1 H1 A1 l1 l2 s1 g1 p1 x0 dx hx0 hdx ne
    rw [List.append_nil]
    dsimp only [Res.bind] at q
    have fx : F1 x0 = none := by
      cases y : F1 x0 with
      | none => rfl
      | some o =>
        obtain ⟨w, hw⟩ := rd_some (s1.sub _ _ y).1
        rw [hx0] at hw
        cases hw
    have fd0 : F1 dx = none := by
      cases y : F1 dx with
      | none => rfl
      | some o =>
        obtain ⟨w, hw⟩ := rd_some (s1.sub _ _ y).1
        rw [hdx] at hw
        cases hw
    have look : ∀ b o, H1 b = some o → upd (upd H1 dx (.own x0)) x0 (.ins (cl c) dx []) b = some o := fun b o h => by
      rw [upd_ne (fun y => by rw [y, hx0] at h; cases h), upd_ne (fun y => by rw [y, hdx] at h; cases h)]
      exact h
    have s2 : Sto X.K cl F1 (upd (upd H1 dx (.own x0)) x0 (.ins (cl c) dx [])) (σ ++ tv.map some) (ρ1 ++ z.2) A1 := s1.mono (Le.refl _) (fun a o h => by
      obtain ⟨h1, h2⟩ := s1.sub a o h
      refine ⟨?_, fun w => look _ _ (h2 w)⟩
      rcases h1 with y | ⟨w, y⟩
      · exact .inl (look _ _ y)
      · exact .inr ⟨w, look _ _ y⟩) fun b hb => ⟨(s1.at_ hb).1, fun y hy => look _ _ hy⟩
    have nx : ¬ ownd A1 x0 := fun y => by
      have := (s1.at_ y).2
      rw [hx0] at this
      exact this
    have s3 := s2.push (o := .ins c []) (v := .ref x0) (B := [x0]) ⟨x0, dx, [], [], rfl, rfl, fx, upd_same, rfl, rfl⟩ (by simp) fun b hb => by rw [List.mem_singleton.mp hb]; exact nx
    have el : (ρ1 ++ z.2).length = ρ1.length + z.2.length := List.length_append
    rw [el] at s3
    have lσ : (σ ++ tv.map some).length = ρ1.length + z.2.length := by rw [List.length_append, List.length_map, l1, l2]
    have gA : Gr (ownd A) (ownd fun i => if i = ρ1.length + z.2.length then [x0] else A1 i) F H F1 (upd (upd H1 dx (.own x0)) x0 (.ins (cl c) dx [])) := by
      refine ⟨fun b o h n => look _ _ (g1.keep b o h n), g1.ff, g1.new, fun b ⟨i, hi⟩ => ?_⟩
      dsimp only at hi
      split at hi
      · rw [List.mem_singleton.mp hi]
        by_cases pb : ownd A x0
        · exact .inl pb
        · cases y : H x0 with
          | none => exact .inr rfl
          | some o =>
            have := g1.keep x0 o y pb
            rw [hx0] at this
            cases this
      · exact g1.ow b ⟨i, hi⟩
    have atn : (σ ++ tv.map some ++ [some (V.ref x0)])[ρ1.length + z.2.length]? = some (some (V.ref x0)) := by
      rw [← lσ, List.getElem?_append_right (Nat.le_refl _), Nat.sub_self]
      rfl
    refine call_sp (S := S) (ms := true :: ms) (qs := .b (ρ1.length + z.2.length) :: z.1) (σ := σ ++ tv.map some ++ [some (V.ref x0)]) (E := WE W σ) s3 gA ⟨_, _, rfl, atn, POks.app p1⟩ ?_
    cases e2 : callR S (true :: ms) (.b (ρ1.length + z.2.length) :: z.1) (ρ1 ++ z.2 ++ [.ins c []]) with
    | bad => rw [e2] at q; exact q
    | err x' ρ' =>
      rw [e2] at q
      intro F' H' A' c' a s' g' ex
      rw [List.append_assoc] at s'
      have s2 := s'.cut
      rw [← l2] at s2
      exact q F' H' _ c' a s2 (g'.sub fun b h => cut_ownd h) ex
    | ok ov ρ2 =>
      obtain ⟨o, rfl⟩ := callR_o e2
      rw [e2] at q
      unfold endMake at q
      split at q
      · rename_i ov' ρ3 e4
        split at e4
        · rename_i ρ4 e5
          cases e5
          intro v F' H' A' B s' g' r nd dj
          obtain ⟨rB, rv⟩ := r
          have n : gt ρ2 (ρ1.length + z.2.length) ≠ .gone := fun y => by rw [y] at e4; cases e4
          have eo : ov' = .o (gt ρ2 (ρ1.length + z.2.length)) ∧ ρ3 = ρ2.take ρ1.length := by
            cases y : gt ρ2 (ρ1.length + z.2.length) with
            | gone => exact absurd y n
            | _ => rw [y] at e4; cases e4; exact ⟨rfl, rfl⟩
          obtain ⟨rfl, rfl⟩ := eo
          obtain ⟨v', ev, ro⟩ := (s'.sl (ρ1.length + z.2.length)).own n
          rw [atn] at ev
          cases ev
          have sA := s'
          rw [List.append_assoc] at sA
          have s2 := sA.cut
          rw [← l2] at s2
          refine ⟨rv.1, q (.ref x0) F' H' _ (A' (ρ1.length + z.2.length)) s2 (g'.sub fun b h => h.elim (fun h => .inl (cut_ownd h)) fun h => .inl ⟨_, h⟩) ro (s'.nd _) fun b hb ⟨i, hi⟩ => ?_⟩
          dsimp only at hi
          split at hi
          · rename_i hlt
            exact s'.dis i (ρ1.length + z.2.length) (by omega) b hi hb
          · cases hi
        · cases e4
        · cases e4
        · cases e4
      · rename_i x' ρ3 e4
        split at e4
        · split at e4 <;> cases e4
        · cases e4
        · rename_i e5; cases e5
        · cases e4
      · exact q.elim
theorem ee_methS {pl : Sem Bool} {c : Nat} {m : Str} {S : FS} {ms : List Bool} {t : Rho → Res OV} {ts : Rho → Res (List Opd × Rho)} {k : Nat} {f : Addr} {fd : FuncData} {ps : List Str} (ho : EE X cl W o t) (C : Cls X.K (cl c)) (M : Meth X.K (cl c) m f) (Fn : FnOk X.prog X.w X.K X.mg X.base (L2.CX X.prog X.w) k f fd ps (spD X.K cl S)) (hr : Room k X.A) (hb : Binds X.K fd ps [])
    (tk : Takes X W) (ha : EX X cl W (e :: es) ts) (hst : starEach (e :: es) X.env = (false, eval e X.env) :: starEach es X.env := by rfl) (hpl : (backTo pos (starEach es X.env)).any (·.1) = false := by rfl)
    (ht : eval (.Call (.Attribute o m apos) (e :: es) [] pos) X.env = (do
      let ov ← eval o X.env
      standAt apos.atName
      let (f, first) ← holding [ov] (getMethod ov m pl)
      callWith pos f first (backTo pos (starEach (e :: es) X.env)) (backToKw pos (keywordEach [] X.env))) := by rfl) :
    EE X cl W (.Call (.Attribute o m apos) (e :: es) [] pos) (evMeth c m S ms t ts) := by
  refine PE.imp (pe_methS ho C M Fn hr hb tk ha hst hpl ht) fun σ H Q ⟨F, ρ, A, s, q⟩ => ⟨F, ρ, A, s, ?_⟩
  unfold evMeth at q
  cases e1 : t ρ with
  | bad => rw [e1] at q; exact q
  | err x ρ' => rw [e1] at q; exact q
  | ok ov ρ1 =>
    rw [e1] at q
    intro v F1 H1 A1 B s1 g1 r1 nd dj
    dsimp only [Res.bind] at q
    by_cases hc : ovCls m ρ1 ov = some c
    · rw [if_pos hc] at q
      obtain ⟨a, dx, vs, ev, hh, hl⟩ := ovCls_at s1 r1 hc
      refine ⟨a, dx, vs, ev, hh, hl, xc_sem (A := A) (F := F) (H := H) (Q := fun us H2 => spD X.K cl S (us ++ []) H2 Q (WE W σ)) s1 g1 r1 nd dj ?_⟩
      cases e2 : xc ov ts ρ1 with
      | bad => rw [e2] at q; exact q
      | err x ρ' => rw [e2] at q; exact q
      | ok z ρ2 =>
        rw [e2] at q
        intro us tv F2 H2 A2 l1 l2 s2 g2 p2
        rw [List.append_nil]
        exact callX_sp (E := WE W σ) l2 s2 g2 p2 q
    · rw [if_neg hc] at q
      exact q.elim
theorem ee_meth0S {pl : Sem Bool} {c : Nat} {m : Str} {S : FS} {ms : List Bool} {t : Rho → Res OV} {k : Nat} {f : Addr} {fd : FuncData} {ps : List Str} (ho : EE X cl W o t) (C : Cls X.K (cl c)) (M : Meth X.K (cl c) m f) (Fn : FnOk X.prog X.w X.K X.mg X.base (L2.CX X.prog X.w) k f fd ps (spD X.K cl S)) (hr : Room k X.A) (hb : Binds X.K fd ps [])
    (tk : Takes X W)
    (ht : eval (.Call (.Attribute o m apos) [] [] pos) X.env = (do
      let ov ← eval o X.env
      standAt apos.atName
      let (f, first) ← holding [ov] (getMethod ov m pl)
      callWith pos f first (backTo pos (starEach [] X.env)) (backToKw pos (keywordEach [] X.env))) := by rfl) :
    EE X cl W (.Call (.Attribute o m apos) [] [] pos) (evMeth c m S ms t evXNil) := by
  refine PE.imp (pe_meth0S ho C M Fn hr hb tk ht) fun σ H Q ⟨F, ρ, A, s, q⟩ => ⟨F, ρ, A, s, ?_⟩
  unfold evMeth at q
  cases e1 : t ρ with
  | bad => rw [e1] at q; exact q
  | err x ρ' => rw [e1] at q; exact q
  | ok ov ρ1 =>
    rw [e1] at q
    intro v F1 H1 A1 B s1 g1 r1 nd dj
    dsimp only [Res.bind] at q
    by_cases hc : ovCls m ρ1 ov = some c
    · rw [if_pos hc] at q
      obtain ⟨a, dx, vs, ev, hh, hl⟩ := ovCls_at s1 r1 hc
      have key : LX X.K cl W evXNil σ H1 fun us H2 => spD X.K cl S ((v :: us) ++ []) H2 Q (WE W σ) := xc_sem (A := A) (F := F) (H := H) (Q := fun us H2 => spD X.K cl S (us ++ []) H2 Q (WE W σ)) s1 g1 r1 nd dj (by
        cases e2 : xc ov evXNil ρ1 with
        | bad => rw [e2] at q; exact q
        | err x ρ' => rw [e2] at q; exact q
        | ok z ρ2 =>
          rw [e2] at q
          intro us tv F2 H2 A2 l1 l2 s2 g2 p2
          rw [List.append_nil]
          exact callX_sp (E := WE W σ) l2 s2 g2 p2 q)
      obtain ⟨F2, ρ2, A2, s2, q2⟩ := key
      have := q2 [] [] F2 H1 A2 rfl s2.len (by simpa using s2) Gr.refl rfl
      exact ⟨a, dx, vs, ev, hh, hl, this⟩
    · rw [if_neg hc] at q
      exact q.elim
end
end DL
/-! DL39: facts of exception classes. -/
namespace DL
open PySem L2 PySem.Spec PyProof.Rows
/-- an exception class with its own __init__ -/
structure ExcAt (K : PySem.W.Frag) (mg : Str → Option Value) (x f qual : Str) (st : Stmt) (ps : List Str) (C fI : Addr) (fd : FuncData) : Prop where
  I : ExcI K mg x f C fI
  F : Fun K "__init__" qual st fI fd
  b : Binds K fd ps []
section
variable {K : PySem.W.Frag} {h : Heap} {mg : Str → Option Value} {x : Str} {C : Addr}
theorem exa_mk (X : K.In h) (G : h.Ns mainGlobals mg) (a : PySem.W.nsIn K mainGlobals x = some (some (.ref C))) (k : PySem.W.keepIn K (.ref C) = true) (b : PySem.W.subIn K (.ref C) (.type "BaseException") = some true) (t : PySem.W.typeIn K (.ref C) = some (.type "type"))
    (q : PySem.W.excIn K C [.type "ValueError", .type "Exception", .type "BaseException", .type "object"] "ValueError.__new__" = true) : ExcA K mg x C := ⟨PySem.W.mg_of X G a, k, b, t, _, q, rfl⟩
theorem dee_mk (X : K.In h) (G : h.Ns mainGlobals mg) (a : PySem.W.nsIn K mainGlobals x = some (some (.ref C))) (rd : PySem.W.readsIn K C (.type "type") = true) (sp : PySem.W.specialIn K (.ref C) "__getattribute__" = some (some (.builtin "type.__getattribute__")))
    (e : PySem.W.findCls K (.ref C) (.type "type") "__init__" = some (.val (.builtin "ValueError.__init__"))) : DeE K mg x C := ⟨PySem.W.mg_of X G a, rd, sp, e⟩
theorem exm_mk {cls : Value} (h1 : PySem.W.subIn K (.ref C) (.type "BaseException") = some true) (h2 : PySem.W.isClsIn K C = true) (ht : PySem.W.typeIn K (.ref C) = some (.type "type")) (h4 : PySem.W.subIn K cls (.ref C) = some true) : PySem.W.exmOne K cls (.ref C) = some true := by
  have e1 : (PySem.W.subIn K (.ref C) (.type "BaseException") == some true) = true := by rw [h1] <;> rfl
  have e2 : ((PySem.W.clsIn K C).isSome && PySem.W.typeIn K (.ref C) == some (.type "type")) = true := by
    have : (PySem.W.clsIn K C).isSome = true := h2
    rw [this, ht] <;> rfl
  show (if (PySem.W.subIn K (.ref C) (.type "BaseException") == some true) = true then (if ((PySem.W.clsIn K C).isSome && PySem.W.typeIn K (.ref C) == some (.type "type")) = true then PySem.W.subIn K cls (.ref C) else none) else none) = some true
  rw [if_pos e1, if_pos e2]
  exact h4
/-- isinstance asks an own class -/
theorem kit_ref {D : Addr} {b : Bool} (n : (D == C) = false) (h2 : PySem.W.isClsIn K C = true) (ht : PySem.W.typeIn K (.ref C) = some (.type "type")) (h4 : PySem.W.subIn K (.ref D) (.ref C) = some b) : PySem.W.kitOne K (.ref D) (.ref C) = some b := by
  have e2 : ((PySem.W.clsIn K C).isSome && PySem.W.typeIn K (.ref C) == some (.type "type")) = true := by
    have : (PySem.W.clsIn K C).isSome = true := h2
    rw [this, ht] <;> rfl
  have e0 : ¬ ((Value.ref D == Value.ref C) = true) := fun z => by
    have := Value.ref.inj (beq_iff_eq.mp z)
    rw [this, beq_self_eq_true] at n
    cases n
  show (if (Value.ref D == Value.ref C) = true then some true else PySem.W.kitCls K (.ref D) (.ref C)) = some b
  rw [if_neg e0]
  show (if ((PySem.W.clsIn K C).isSome && PySem.W.typeIn K (.ref C) == some (.type "type")) = true then PySem.W.subIn K (.ref D) (.ref C) else none) = some b
  rw [if_pos e2]
  exact h4
theorem kit_self : PySem.W.kitOne K (.ref C) (.ref C) = some true := if_pos (beq_self_eq_true _)
theorem kit_type {D : Addr} {T : String} {b : Bool} (m : PySem.W.kitMeta T = true) (h4 : PySem.W.subIn K (.ref D) (.type T) = some b) : PySem.W.kitOne K (.ref D) (.type T) = some b := by
  have e0 : ¬ ((Value.ref D == Value.type T) = true) := fun z => by
    have := beq_iff_eq.mp z
    cases this
  show (if (Value.ref D == Value.type T) = true then some true else PySem.W.kitCls K (.ref D) (.type T)) = some b
  rw [if_neg e0]
  show (if PySem.W.kitMeta T = true then PySem.W.subIn K (.ref D) (.type T) else none) = some b
  rw [if_pos m]
  exact h4
theorem exi_mk {nm q sn sub ab col dd k0 k1 k2 k3 k5} {N : Addr} {bs bm : List Value} {f qual : Str} {st : Stmt} {ps : List Str} {fI : Addr} {od an : Option Addr} {sl : Array (Option Value)} {oc kV dc pm cd ct : Value} (X : K.In h) (G : h.Ns mainGlobals mg) (a : PySem.W.nsIn K mainGlobals x = some (some (.ref C)))
    (xL : K.lookup C = some (excClassObj nm q C N bs bm true sn sub ab col dd k0 k1 k2 k3 k5 "ValueError.__new__")) (rf : PySem.HandSPX.refsVE bm = true)
    (sa : PySem.W.findIn K (.ref C) "__setattr__" = some (some (.builtin "object.__setattr__"))) (exC : PySem.W.subIn K (.ref C) (.type "BaseException") = some true) (tyC : PySem.W.typeIn K (.ref C) = some (.type "type")) (kC : PySem.W.keepIn K (.ref C) = true)
    (i : PySem.W.findIn K (.ref C) "__init__" = some (some (.ref fI))) (ti : PySem.W.typeIn K (.ref fI) = some (.type "function")) (no : PySem.W.findIn K (.ref C) f = some none)
    (l : K.lookup fI = some ⟨oc, od, .func (PySem.W.fnOf "__init__" qual (defArgs st) (defBody st) (defScope st) .none kV dc pm an cd ct), sl⟩)
    (c : PySem.W.codeIn K cd qual = true) (k : PySem.W.keepIn K (.ref fI) = true)
    (hb : ∀ (kV doc pm : Value) (an : Option Addr) (cdv ct : Value) (us : List Value), us.length = ps.length → bindArgs (PySem.W.fnOf "__init__" qual (defArgs st) (defBody st) (defScope st) .none kV doc pm an cdv ct) ⟨us, []⟩ = pure (ps.zip us)) :
    ∃ fI fd, ExcAt K mg x f qual st ps C fI fd :=
  have F1 := fun_mk (st := st) l c k
  ⟨fI, _, ⟨PySem.W.mg_of X G a, ⟨⟨_, _, _, _, _, _, _, _, _, _, _, _, _, _, _, xL, rf⟩, sa, exC, tyC, kC⟩, i, ti, no⟩, F1, F1.binds (ps := ps) hb⟩
theorem xm_cons {p : Nat → Prop} {c : Nat} {cs : List Nat} (h : p c) (t : ∀ c ∈ cs, p c) : ∀ x ∈ c :: cs, p x := fun x hx => (List.mem_cons.mp hx).elim (fun z => by rw [z]; exact h) (t x)
end
end DL
/-! DL40: list * int. -/
namespace DL
open PySem L2
section
variable {K : PySem.W.Frag} {cl : Nat → Addr}
def repL {α : Type} (n : Nat) (xs : List α) : List α := (List.replicate n xs).flatten
theorem repL_zero {α : Type} (xs : List α) : repL 0 xs = [] := rfl
theorem repL_succ {α : Type} (n : Nat) (xs : List α) : repL (n + 1) xs = xs ++ repL n xs := by
  unfold repL
  rw [List.replicate_succ, List.flatten_cons]
theorem reps_rep {F : Hp} {ds : List D} {vs : List V} (r : Reps K cl F ds vs) : ∀ n : Nat, Reps K cl F (repL n ds) (repL n vs)
  | 0 => rfl
  | n + 1 => by
    rw [repL_succ, repL_succ]
    exact reps_append r (reps_rep r n)
@[simp] def pRepL : List D → Option OD
  | [.lst ds, .v (.int k)] => if (decide (0 ≤ k) && decide (k ≤ 1000) && decide (ds.length ≤ 1000)) = true then some (.lst (fzs (repL k.toNat ds))) else none
  | _ => none
theorem pr_repL : PrimOk K cl pRepL (R2L rRep) := fun F H ds vs o Q sb r e q => by
  unfold pRepL at e
  split at e
  · rename_i ds k
    by_cases hc : (decide (0 ≤ k) && decide (k ≤ 1000) && decide (ds.length ≤ 1000)) = true
    · rw [if_pos hc] at e
      cases e
      obtain ⟨h1, h3⟩ := Bool.and_eq_true_iff.mp hc
      obtain ⟨h1, h2⟩ := Bool.and_eq_true_iff.mp h1
      have h1 := of_decide_eq_true h1
      have h2 := of_decide_eq_true h2
      have h3 := of_decide_eq_true h3
      obtain ⟨x, y, rfl, ⟨p, xs, ex, hx, rx⟩, ry⟩ := reps2 r
      refine ⟨x, y, rfl, p, k, xs, ex, by rw [ry.1], (sb _ _ hx).2 rfl, by omega, by omega, ?_, ?_⟩
      · rw [reps_length rx]
        refine sz (decide_eq_true (Nat.le_trans (Nat.mul_le_mul h3 (show k.toNat ≤ 1000 by omega)) (show 1000 * 1000 ≤ 16777216 by decide)))
      · exact vq_lst (reps_rep rx k.toNat) sb q
    · rw [if_neg hc] at e
      cases e
  · cases e
@[simp] def fMul2 : List D → Option OD := alt fMul pRepL
theorem op_Mul2 {X : Cx} : ∃ r, OpR X (binaryOp .Mult) r ∧ PrimOk X.K cl fMul2 (R2L r) :=
  let ⟨_, h1, h2⟩ := op_Mul (X := X) (cl := cl); ⟨_, h1.or op_rep, PrimOk.alt2 h2 pr_repL⟩
end
end DL
/-! DL41: sorted of pairs of whole numbers, of whole numbers, of texts. -/
namespace DL
open PySem L2 PySem.Spec PyProof.Rows
/-! ### pairs -/
@[simp] def pairsOf : List D → Option (List (Int × Int))
  | [] => some []
  | .tup [.v (.int a), .v (.int b)] :: ds => match pairsOf ds with
    | some ps => some ((a, b) :: ps)
    | none => none
  | _ :: _ => none
abbrev pairD (p : Int × Int) : D := .tup [.v (.int p.1), .v (.int p.2)]
def leP (p q : Int × Int) : Bool := !SrtO.lexB q p
theorem leP_iff {p q : Int × Int} : leP p q = true ↔ p.1 < q.1 ∨ (p.1 = q.1 ∧ p.2 ≤ q.2) := by
  unfold leP SrtO.lexB
  by_cases h : q.1 = p.1
  · rw [if_pos h]
    simp
    omega
  · rw [if_neg h]
    simp
    omega
theorem leP_trans (a b c : Int × Int) (h1 : leP a b = true) (h2 : leP b c = true) : leP a c = true := by
  rw [leP_iff] at *
  omega
theorem leP_total (a b : Int × Int) : (leP a b || leP b a) = true := by
  rw [Bool.or_eq_true, leP_iff, leP_iff]
  omega
theorem leP_anti {a b : Int × Int} (h1 : leP a b = true) (h2 : leP b a = true) : a = b := by
  rw [leP_iff] at *
  obtain ⟨a1, a2⟩ := a
  obtain ⟨b1, b2⟩ := b
  dsimp only at *
  have e1 : a1 = b1 := by omega
  have e2 : a2 = b2 := by omega
  rw [e1, e2]
def sortP (ps : List (Int × Int)) : List (Int × Int) := ps.mergeSort leP
theorem sortP_eq {ps qs : List (Int × Int)} (h : qs.Perm ps) (s : qs.Pairwise fun a b => leP a b = true) : sortP ps = qs :=
  ((List.mergeSort_perm ps leP).trans h.symm).eq_of_pairwise (fun a b _ _ h1 h2 => leP_anti h1 h2) (List.pairwise_mergeSort leP_trans leP_total ps) s
@[simp] def pSortP : List D → Option OD
  | [.lst ds] => match pairsOf ds with
    | some ps => some (.lst (fzs ((sortP ps).map pairD)))
    | none => none
  | _ => none
section
variable {K : PySem.W.Frag} {cl : Nat → Addr} {F H : Hp}
def keyPV (F : Hp) : V → Int × Int
  | .ref t => match F t with
    | some (.tup [.int i, .int j]) => (i, j)
    | _ => (0, 0)
  | _ => (0, 0)
theorem pairs_rep : ∀ {ds : List D} {ps : List (Int × Int)} {vs : List V}, pairsOf ds = some ps → Reps K cl F ds vs → vs.map (keyPV F) = ps ∧ ∀ x ∈ vs, ∃ t, x = .ref t ∧ F t = some (.tup [.int (keyPV F x).1, .int (keyPV F x).2])
  | [], ps, vs, e, r => by cases e; rw [show vs = [] from r]; exact ⟨rfl, fun x h => by cases h⟩
  | d :: ds, ps, vs, e, ⟨u, us, ev, r, q⟩ => by
    unfold pairsOf at e
    split at e
    · rename_i he
      cases he
    · rename_i a b ds' he
      cases he
      split at e
      · rename_i ps' e1
        cases e
        obtain ⟨h1, h2⟩ := pairs_rep e1 q
        obtain ⟨t, ws, eu, hF, x1, y1, ew, r1, r2⟩ := r
        obtain ⟨y, rfl, ry⟩ := reps1 r2
        cases r1.1
        cases ry.1
        subst ew eu ev
        have kx : keyPV F (.ref t) = (a, b) := by unfold keyPV; dsimp only; rw [hF]
        refine ⟨by rw [List.map_cons, kx, h1], fun x hx => ?_⟩
        rcases List.mem_cons.mp hx with rfl | z
        · exact ⟨t, rfl, by rw [kx]; exact hF⟩
        · exact h2 x z
      · cases e
    · cases e
theorem pairs_reps : ∀ {ys : List V}, (∀ x ∈ ys, ∃ t, x = .ref t ∧ F t = some (.tup [.int (keyPV F x).1, .int (keyPV F x).2])) → Reps K cl F ((ys.map (keyPV F)).map pairD) ys
  | [], _ => rfl
  | y :: ys, h => by
    obtain ⟨t, ey, hF⟩ := h y List.mem_cons_self
    refine ⟨y, ys, rfl, ⟨t, _, ey, hF, .int _, _, rfl, ⟨rfl, trivial⟩, .int _, _, rfl, ⟨rfl, trivial⟩, rfl⟩, pairs_reps fun x hx => h x (List.mem_cons_of_mem _ hx)⟩
theorem pr_sortP : PrimOk K cl pSortP (rSortedPO K) := fun F H ds vs o Q sb r e q => by
  unfold pSortP at e
  split at e
  · split at e
    · rename_i ps e1
      cases e
      obtain ⟨x, rfl, a, us, rfl, hq, rr⟩ := reps1 r
      obtain ⟨h1, h2⟩ := pairs_rep e1 rr
      refine ⟨a, us, keyPV F, rfl, sb_sqL sb (SqL.of hq), fun x hx => ?_, fun ys p hs hb hp => ?_⟩
      · obtain ⟨t, ex, hF⟩ := h2 x hx
        exact ⟨t, ex, (sb t _ hF).2 rfl⟩
      · have e2 : sortP ps = ys.map (keyPV F) := sortP_eq (by rw [← h1]; exact hb.perm.map _) (List.pairwise_map.mpr (hs.imp fun {x y} h => by unfold leP; rw [show SrtO.lexB (keyPV F y) (keyPV F x) = false from h]; rfl))
        rw [e2] at q
        exact vq_lst (pairs_reps fun x hx => h2 x (hb.perm.mem_iff.mp hx)) sb q p hp
    · cases e
  · cases e
/-! ### whole numbers -/
@[simp] def intsOf : List D → Option (List Int)
  | [] => some []
  | .v (.int a) :: ds => match intsOf ds with
    | some ps => some (a :: ps)
    | none => none
  | _ :: _ => none
def sortI (ns : List Int) : List Int := ns.mergeSort fun a b => decide (a ≤ b)
theorem sortI_eq {ps qs : List Int} (h : qs.Perm ps) (s : qs.Pairwise (· ≤ ·)) : sortI ps = qs := by
  refine ((List.mergeSort_perm ps _).trans h.symm).eq_of_pairwise (le := fun a b => decide (a ≤ b) = true) (fun a b _ _ h1 h2 => ?_) (List.pairwise_mergeSort (fun a b c h1 h2 => ?_) (fun a b => ?_) ps) (s.imp fun h => decide_eq_true h)
  · have := of_decide_eq_true h1
    have := of_decide_eq_true h2
    omega
  · have := of_decide_eq_true h1
    have := of_decide_eq_true h2
    exact decide_eq_true (by omega)
  · rw [Bool.or_eq_true, decide_eq_true_eq, decide_eq_true_eq]
    omega
@[simp] def pSortI : List D → Option OD
  | [.lst ds] => match intsOf ds with
    | some ps => some (.lst (fzs ((sortI ps).map fun n => .v (.int n))))
    | none => none
  | _ => none
theorem ints_rep : ∀ {ds : List D} {ps : List Int} {vs : List V}, intsOf ds = some ps → Reps K cl F ds vs → vs = ps.map V.int
  | [], ps, vs, e, r => by cases e; exact r
  | d :: ds, ps, vs, e, ⟨u, us, ev, r, q⟩ => by
    unfold intsOf at e
    split at e
    · rename_i he
      cases he
    · rename_i a ds' he
      cases he
      split at e
      · rename_i ps' e1
        cases e
        rw [ev, ints_rep e1 q, r.1]
        rfl
      · cases e
    · cases e
theorem ints_reps : ∀ ns : List Int, Reps K cl F (ns.map fun n => .v (.int n)) (ns.map V.int)
  | [] => rfl
  | n :: ns => ⟨_, _, rfl, ⟨rfl, trivial⟩, ints_reps ns⟩
theorem pr_sortI : PrimOk K cl pSortI (rSortedI K) := fun F H ds vs o Q sb r e q => by
  unfold pSortI at e
  split at e
  · split at e
    · rename_i ps e1
      cases e
      obtain ⟨x, rfl, a, us, rfl, hq, rr⟩ := reps1 r
      have h1 := ints_rep e1 rr
      subst h1
      refine ⟨a, ps, rfl, sb_sqL sb (SqL.of hq), fun ys p hb hs hp => ?_⟩
      rw [sortI_eq hb hs] at q
      exact vq_lst (ints_reps ys) sb q p hp
    · cases e
  · cases e
end
section
variable {X : Cx} {cl : Nat → Addr} {W : WX} {a : Expr} {ts : Rho → Res (List Opd)} {pos p : Pos}
theorem ee_sorted (hg : Gl X "sorted") (hm : X.mg "sorted" = none) (ha : EA X cl W [a] ts) (he : starEach [a] X.env = (false, eval a X.env) :: starEach [] X.env := by rfl) : EE X cl W (.Call (.Name "sorted" p) [a] [] pos) (evN (alt pSortP pSortI) ts) :=
  ee_altN (ee_callB cr_sortedPO pr_sortP hg hm (by decide +kernel) ha (by decide) (by decide) he rfl) (ee_callB cr_sortedI pr_sortI hg hm (by decide +kernel) ha (by decide) (by decide) he rfl)
end
end DL
/-! DL42: list(reversed(x)); isinstance(x, an own class). -/
namespace DL
open PySem L2 PySem.Spec PyProof.Rows
theorem lri_nolen : typeLookup (.type "list_reverseiterator") "__len__" = pure none := by rw [typeLookup_type, builtinLookup_eq_fast]; kernel_rfl
theorem lri_hint : typeLookup (.type "list_reverseiterator") "__length_hint__" = pure (some (.builtin "list_reverseiterator.__length_hint__")) := by rw [typeLookup_type, builtinLookup_eq_fast]; kernel_rfl
section
variable {prog : Program} {w : World} {A : Around} {E : Value → Shared → Prop} {s : Shared}
theorem hint_lri {r : Addr} {Q : Bool → Shared → Prop} (hT : s.TypeIs (.ref r) "list_reverseiterator") (h : Q false s) : wpAny (model prog w) A (Builtin.List.listLengthHint (.ref r)) Q E s := by
  unfold Builtin.List.listLengthHint
  refine wpAny_bind (wpAny_specialOf hT lri_nolen ?_)
  simp only []
  refine wpAny_ite_split (fun hab => absurd hab (by first | exact Bool.false_ne_true | decide)) (fun _ => ?_)
  refine wpAny_ite_split (fun hab => absurd hab (by first | exact Bool.false_ne_true | decide)) (fun _ => ?_)
  refine wpAny_bind (wpAny_specialOf hT lri_hint ?_)
  generalize hid : ("list_reverseiterator.__length_hint__" : String) = id0
  wp_delta
  rw [show splitId id0 = some ("list_reverseiterator", "__length_hint__") from by subst hid; decide +kernel]
  subst hid
  refine wpAny_bind (wpAny_isInstance (T := "list_reverseiterator") (b := true) hT (by rw [isSubtype_type]; kernel_rfl) ?_)
  refine wpAny_ite_split (fun hab => absurd hab (by decide)) (fun _ => ?_)
  refine wpAny_ite_split (fun _ => ?_) (fun hab => absurd (by decide +kernel) hab)
  refine wpAny_ite_split (fun hab => absurd hab (by decide +kernel)) (fun _ => ?_)
  exact wpAny_pure h
theorem list_of_rev {it l : Addr} {items : Array Value} {Q : Value → Shared → Prop} (hh : A.handled = none) (hit : s.heap.IsRevIter it l ((items.size : Int) - 1)) (hl : s.heap.IsList l items) (hne : l ≠ it) (hn : items.size ≤ sizeLine)
    (hQ : ∀ (h' : Heap) (tk : Nat) (acc : Array Value) (c : Nat), (∀ b o, b ≠ it → s.heap.get? b = some o → h'.get? b = some o) → h'.get? s.heap.objs.size = some { cls := .type "list", data := .seq acc c } → ItemsOf (fun i v => items[items.size - 1 - i]? = some v) acc items.size →
      Q (.ref s.heap.objs.size) { s with heap := h', toks := tk }) : wpAny (model prog w) A (call (.type "list") [.ref it]) Q E s := by
  refine callType_codes (Q₁ := fun obj s₁ => obj = .ref s.heap.objs.size ∧ s₁ = { s with heap := s.heap.push { cls := .type "list", data := .seq #[] } }) PySem.F.called_list (PySem.F.typeCall_list_1 _) PySem.F.entry_list_init
    (code_list_new _ ⟨rfl, rfl⟩) fun obj s₁ h₁ => ?_
  obtain ⟨rfl, rfl⟩ := h₁
  have hS : (s.heap.push { cls := .type "list", data := .seq #[] }).get? s.heap.objs.size = some { cls := .type "list", data := .seq #[] } := Heap.get?_push_size _ rfl
  obtain ⟨oi, hoi, _⟩ := id hit
  obtain ⟨ol, hol, _⟩ := id hl
  have hSr : s.heap.objs.size ≠ it := Nat.ne_of_gt (Heap.lt_size hoi)
  have hSl : s.heap.objs.size ≠ l := Nat.ne_of_gt (Heap.lt_size hol)
  refine ⟨⟨_, hS, rfl⟩, PySem.F.args_list_init_2 _ _, ?_⟩
  show wpAny _ A.in1.in1 (do let old ← Builtin.List.listItems (.ref s.heap.objs.size); Builtin.List.listUpdate (.ref s.heap.objs.size) (fun _ => #[]); letGo old.toList.reverse; Builtin.List.listExtendWith (.ref s.heap.objs.size) (.ref it) .none) _ _ _
  refine wpAny_bind ?_
  unfold Builtin.List.listItems
  refine wpAny_bind (wpAny_seqItems hS rfl (wpAny_pure ?_))
  show wpAny _ _ (updateSeq s.heap.objs.size (fun _ => #[]) >>= fun _ => letGo (#[] : Array Value).toList.reverse >>= fun _ => Builtin.List.listExtendWith (.ref s.heap.objs.size) (.ref it) .none) _ _ _
  refine wpAny_bind (wpAny_updateSeq hS rfl ?_)
  have hS2 := Heap.get?_update_self (Obj.mapSeq (fun _ => (#[] : Array Value))) hS rfl
  have k2 : ∀ b o, b ≠ s.heap.objs.size → s.heap.get? b = some o → ((s.heap.push { cls := .type "list", data := .seq #[] }).update s.heap.objs.size (Obj.mapSeq (fun _ => (#[] : Array Value)))).get? b = some o :=
    fun b o hb e => (Heap.get?_update_other _ _ (Ne.symm hb)).trans (Heap.get?_push_of_some _ e)
  refine wpAny_bind (wpAny_letGo ?_)
  generalize (s.heap.push { cls := .type "list", data := .seq #[] }).update s.heap.objs.size (Obj.mapSeq (fun _ => (#[] : Array Value))) = h2 at hS2 k2 ⊢
  have hit2 : h2.IsRevIter it l ((items.size : Int) - 1) := hit.at fun o e => k2 it o (Ne.symm hSr) e
  have hl2 : h2.IsList l items := hl.at fun o e => k2 l o (Ne.symm hSl) e
  have W := Walks.listRev (prog := prog) (w := w) (A := A.in1.in1) hh it l hne items
  have hSf : s.heap.objs.size ∉ [it, l] := by simp only [List.mem_cons, List.not_mem_nil, or_false, not_or]; exact ⟨hSr, hSl⟩
  have key : ∀ (h : Heap) (c₁ tk : Nat), (∀ b o, b ≠ s.heap.objs.size → h2.get? b = some o → h.get? b = some o) → h.get? s.heap.objs.size = some { cls := .type "list", data := .seq #[] c₁ } →
      codeAny (model prog w) A.in1 (.builtin "list.extend.loop" ⟨[.ref s.heap.objs.size, .ref it, .none], []⟩) (wants (fun r s₂ => r = Value.none ∧ Q (.ref s.heap.objs.size) s₂) E) { s with heap := h, toks := tk } := by
    intro h c₁ tk hk hS1
    refine codeAny_extend_loopS W.toS hn s.heap.objs.size hSf .none items.size 0 _ #[] c₁ rfl (Nat.zero_le _) ⟨Nat.zero_le _, ?_, hl2.at fun o e => hk l o (Ne.symm hSl) e⟩ hS1 (ItemsOf.nil _) fun s' acc c' hm hS' hacc => ?_
    · have e0 : (items.size : Int) - 1 - ((0 : Nat) : Int) = (items.size : Int) - 1 := by omega
      rw [e0]
      exact hit2.at fun o e => hk it o (Ne.symm hSr) e
    · rw [Moved.eq_with hm]
      refine ⟨rfl, hQ s'.heap s'.toks acc c' (fun b o hb e => ?_) hS' hacc⟩
      have hbs : b ≠ s.heap.objs.size := Nat.ne_of_lt (Heap.lt_size e)
      refine hm.heap b o (fun hmem => ?_) (hk b o hbs (k2 b o hbs e))
      rcases List.mem_cons.mp hmem with e' | hmem
      · exact hbs e'
      · exact hb (List.mem_singleton.mp hmem)
  unfold Builtin.List.listExtendWith
  refine wpAny_bind (wpAny_typeOf (T := "list_reverseiterator") hit2.typeIs ?_)
  have h1 : Builtin.List.listSameRef (.ref s.heap.objs.size) (.ref it) = false := by simp [Builtin.List.listSameRef, hSr]
  simp only [h1, show (Value.type "list_reverseiterator" == Value.type "list") = false from by decide, show (Value.type "list_reverseiterator" == Value.type "tuple") = false from by decide, Bool.or_false, Bool.false_eq_true, if_false]
  refine wpAny_bind (wpAny_pyIter_revIter hit2 ?_)
  refine wpAny_bind (wpAny_holding (hint_lri hit2.typeIs ?_))
  refine wpAny_ite_split (fun _ => ?_) (fun _ => wpAny_pure ⟨plainId_quiet PySem.F.plain_extend_loop _, key _ _ _ (fun b o _ e => e) hS2⟩)
  refine wpAny_bind (wpAny_rule ?_)
  refine wpAny_bind ?_
  show wpAny _ _ (updateSeq s.heap.objs.size (·.push .none) >>= fun _ => updateSeq s.heap.objs.size (·.pop)) _ _ _
  refine wpAny_bind (wpAny_updateSeq hS2 rfl ?_)
  have hS3 := Heap.get?_update_self (Obj.mapSeq (·.push Value.none)) hS2 rfl
  refine wpAny_updateSeq (hz := by seq_fits) hS3 rfl ?_
  have hS4 := Heap.get?_update_self (Obj.mapSeq (·.pop)) hS3 rfl
  exact wpAny_pure ⟨plainId_quiet PySem.F.plain_extend_loop _, key _ _ _ (fun b o hb e => (Heap.get?_update_other _ _ (Ne.symm hb)).trans ((Heap.get?_update_other _ _ (Ne.symm hb)).trans e)) hS4⟩
end
section
variable {X : Cx} {cl : Nat → Addr} {W : WX} {pos p p2 pos2 : Pos}
theorem ee_1 {a e : Expr} {ta : Rho → Res Opd} {f : List D → Option OD} {r : V → Hp → VK → Prop} (ho : ∀ {u : TE}, PE X a u → PE X e (fun σ H Q => u σ H fun v H1 => r v H1 Q)) (pr : PrimOk X.K cl f (fun vs H Q => ∃ x, vs = [x] ∧ r x H Q)) (ha : EP' X cl W a ta) : EE X cl W e (ev1 f ta) := by
  refine PE.imp (ho ha) fun σ H Q ⟨F, ρ, A, s, q⟩ => ⟨F, ρ, A, s, ?_⟩
  unfold ev1 at q
  cases e1 : ta ρ with
  | bad => rw [e1] at q; exact q
  | err x ρ' => rw [e1] at q; exact q
  | ok x ρ1 =>
    rw [e1] at q
    intro v F1 H1 A1 s1 g1 p1
    obtain ⟨_, e, h⟩ := fin_end pr s1 g1 (qs := [x]) (vs := [v]) ⟨v, _, rfl, p1, rfl⟩ q
    cases e
    exact h
/-! ### list(reversed(x)) -/
def rLrev (K : PySem.W.Frag) : V → Hp → VK → Prop := fun v H Q => ∃ (a : Addr) (xs : List V), v = .ref a ∧ SqL K H a xs ∧ ∀ q, H q = none → Q (.ref q) (upd H q (.lst xs.reverse))
theorem pe_listRev {e : Expr} {te : TE} (hc : X.calm = true) (hg : Gl X "list") (hm : X.mg "list" = none) (hg2 : Gl X "reversed") (hm2 : X.mg "reversed" = none) (he : PE X e te)
    (hs : starEach [e] X.env = (false, eval e X.env) :: starEach [] X.env := by rfl)
    (hs2 : starEach [.Call (.Name "reversed" p2) [e] [] pos2] X.env = (false, eval (.Call (.Name "reversed" p2) [e] [] pos2) X.env) :: starEach [] X.env := by rfl) :
    PE X (.Call (.Name "list" p) [.Call (.Name "reversed" p2) [e] [] pos2] [] pos) (fun σ H Q => te σ H fun v H1 => rLrev X.K v H1 Q) := by
  refine ⟨fun pins s σ H Q I h => ?_⟩
  refine Call_ (ld_blt I hg hm (show PySem.bootBuiltins (Str.ofString "list") = some (Value.type "list") by decide +kernel) (PyProof.Rows.callWith_type1 (args_cons (Call_ (ld_blt I hg2 hm2 PyProof.Rows.boot_reversed (PyProof.Rows.callWith_type1 (args_cons (thn (he.run pins s σ H _ I h) fun u s1 ⟨v, H1, I1, r1, q1⟩ => args_nil ?_) hs) hs rfl))) hs2) hs2 rfl))
  obtain ⟨a, xs, ev, hq, q⟩ := q1
  subst ev
  obtain rfl : u = Value.ref a := r1
  obtain ⟨its, rv, p', hz⟩ := I1.list hq
  refine call_reversed_list p'.isList (args_nil ?_)
  have hl := p'.isList
  obtain ⟨ol, hol, _⟩ := id hl
  have hne : a ≠ s1.heap.objs.size := Nat.ne_of_lt (Heap.lt_size hol)
  have hn : its.toArray.size ≤ sizeLine := by rw [List.size_toArray, ← rv.length]; exact hz
  refine list_of_rev (s := { s1 with heap := s1.heap.push (revObj a ((its.toArray.size : Int) - 1)) }) (I1.ok.hd hc) ⟨_, Heap.get?_push_size _ rfl, rfl, rfl⟩ (hl.push _) hne hn fun h' tk acc c hk hD hi => ?_
  have hsz : s1.heap.objs.size ≤ (s1.heap.push (revObj a ((its.toArray.size : Int) - 1))).objs.size := by rw [Heap.size_push]; omega
  refine ⟨.ref _, upd H1 (s1.heap.push (revObj a ((its.toArray.size : Int) - 1))).objs.size (.lst xs.reverse), I1.laid (t' := tk) (fun b o e => hk b o (Nat.ne_of_lt (Heap.lt_size e)) (Heap.get?_push_of_some _ e)) hsz (show ObjOk X.prog X.w _ _ _ (.lst xs.reverse) from ⟨by rw [List.length_reverse]; exact hz, acc.toList, c, RT.vals_rev rv hi, ?_⟩), rfl, q _ (I1.hok.fresh hsz)⟩
  rw [Array.toArray_toList]
  exact hD
@[simp] def pListRev : List D → Option OD
  | [.lst ds] => some (.lst (fzs ds.reverse))
  | _ => none
theorem reps_snoc {K : PySem.W.Frag} {F : Hp} {d : D} {v : V} : ∀ {ds : List D} {vs : List V}, Reps K cl F ds vs → Rep K cl F d v → Reps K cl F (ds ++ [d]) (vs ++ [v])
  | [], _, h, r => by cases (show _ = [] from h); exact ⟨v, [], rfl, r, rfl⟩
  | e :: ds, _, ⟨u, us, e1, r1, q1⟩, r => by cases e1; exact ⟨u, us ++ [v], rfl, r1, reps_snoc q1 r⟩
theorem reps_rev {K : PySem.W.Frag} {F : Hp} : ∀ {ds : List D} {vs : List V}, Reps K cl F ds vs → Reps K cl F ds.reverse vs.reverse
  | [], _, h => by cases (show _ = [] from h); exact rfl
  | e :: ds, _, ⟨u, us, e1, r1, q1⟩ => by cases e1; rw [List.reverse_cons, List.reverse_cons]; exact reps_snoc (reps_rev q1) r1
theorem pr_listRev {K : PySem.W.Frag} : PrimOk K cl pListRev (fun xs H Q => ∃ x, xs = [x] ∧ rLrev K x H Q) := fun F H ds vs o Q sb r e q => by
  unfold pListRev at e
  split at e
  · cases e
    obtain ⟨x, rfl, a, us, rfl, hq, rr⟩ := reps1 r
    exact ⟨_, rfl, a, us, rfl, sb_sqL sb (SqL.of hq), vq_lst (reps_rev rr) sb q⟩
  · cases e
theorem ee_listRev {a : Expr} {ta : Rho → Res Opd} (hc : X.calm = true) (hg : Gl X "list") (hm : X.mg "list" = none) (hg2 : Gl X "reversed") (hm2 : X.mg "reversed" = none) (ha : EP' X cl W a ta)
    (hs : starEach [a] X.env = (false, eval a X.env) :: starEach [] X.env := by rfl)
    (hs2 : starEach [.Call (.Name "reversed" p2) [a] [] pos2] X.env = (false, eval (.Call (.Name "reversed" p2) [a] [] pos2) X.env) :: starEach [] X.env := by rfl) :
    EE X cl W (.Call (.Name "list" p) [.Call (.Name "reversed" p2) [a] [] pos2] [] pos) (ev1 pListRev ta) :=
  ee_1 (fun h => pe_listRev hc hg hm hg2 hm2 h hs hs2) pr_listRev ha
/-! ### isinstance(x, C), C an own class, x made by it -/
@[simp] def pIsC (c : Nat) : List D → Option OD
  | [.ins c' _] => if c' = c then some (.fz (.v (.bl true))) else none
  | _ => none
theorem pr_isC {K : PySem.W.Frag} {c : Nat} : PrimOk K cl (pIsC c) (fun xs H Q => ∃ x, xs = [x] ∧ ∃ a dx fs, x = .ref a ∧ H a = some (.ins (cl c) dx fs) ∧ Q (.bl true) H) := fun F H ds vs o Q sb r e q => by
  unfold pIsC at e
  split at e
  · split at e
    · rename_i z
      cases e
      subst z
      obtain ⟨x, rfl, a, dx, us, rfl, hq, rr⟩ := reps1 r
      exact ⟨_, rfl, a, dx, us, rfl, (sb _ _ hq).2 rfl, vq_v trivial sb q⟩
    · cases e
  · cases e
theorem ee_isC {a b : Expr} {c : Nat} {t : Rho → Res Opd} (hg : Gl X "isinstance") (hm : X.mg "isinstance" = none) (ha : EP' X cl W a t) (hb : PE X b (tC (.ref (cl c)))) (ic : C8.InsC X.K (cl c))
    (he : starEach [a, b] X.env = (false, eval a X.env) :: starEach [b] X.env := by rfl) (hs : starEach [b] X.env = (false, eval b X.env) :: starEach [] X.env := by rfl) (hpl : (backTo pos (starEach [b] X.env)).any (·.1) = false := by rfl) : EE X cl W (.Call (.Name "isinstance" p) [a, b] [] pos) (ev1 (pIsC c) t) :=
  ee_1 (fun h => PE.imp (pe_callB (C8.call_isC ic) hg hm (by decide +kernel) (pa_cons h (pa_cons hb pa_nil hs) he) (by decide) (by decide) he hpl) fun σ H Q q => by
    unfold tCB tCons tC tNil
    refine Eq.mp (congrArg _ (funext fun v => funext fun H1 => propext ⟨fun ⟨a, dx, fs, e, h⟩ => ⟨a, dx, fs, by rw [e], h⟩, fun ⟨a, dx, fs, e, h⟩ => ⟨a, dx, fs, by cases e; rfl, h⟩⟩)) q) pr_isC ha
theorem insc_mk {K : PySem.W.Frag} {C : Addr} (c : Cls K C) (ha : PySem.W.findIn K (.ref C) "__class__" = some (some (.builtin "object.__class__"))) (hn : PySem.W.specialIn K (.builtin "object.__class__") "__get__" = some (some (.builtin "getset_descriptor.__get__")))
    (ht : PySem.W.takesIn K (.builtin "object.__class__") = some true) (hm : PySem.W.mroIn K C (.type "object") = some true) : C8.InsC K C := ⟨c, ha, hn, ht, hm, kit_self⟩
end
end DL
/-! DL43: what changes an own list that lies within an own object: x[j].append(e), x[i][j].pop(), x[j].clear(). -/
namespace DL
open PySem L2
noncomputable section
def oget : OD → List Nat → Option OD
  | o, [] => some o
  | .tup xs, j :: js => match xs[j]? with
    | some x => oget x js
    | none => none
  | .lst xs, j :: js => match xs[j]? with
    | some x => oget x js
    | none => none
  | _, _ :: _ => none
def oput : OD → List Nat → OD → OD
  | _, [], x => x
  | .tup xs, j :: js, x => .tup (xs.set j (oput (xs.getD j .gone) js x))
  | .lst xs, j :: js, x => .lst (xs.set j (oput (xs.getD j .gone) js x))
  | o, _ :: _, _ => o
def vget (H : Hp) : V → List Nat → Option V
  | v, [] => some v
  | .ref p, j :: js => match H p with
    | some (.tup vs) => (match vs[j]? with
      | some u => vget H u js
      | none => none)
    | some (.lst vs) => (match vs[j]? with
      | some u => vget H u js
      | none => none)
    | _ => none
  | _, _ :: _ => none
section
variable {K : PySem.W.Frag} {cl : Nat → Addr} {F F1 H H1 : Hp} {σ : L2.St} {ρ ρ1 : Rho} {A A1 : Nat → List Addr}
theorem owns_get : ∀ {xs : List OD} {vs : List V} {B : List Addr} {j : Nat} {x : OD}, Owns K cl F H xs vs B → B.Nodup → xs[j]? = some x → ∃ u Bm, vs[j]? = some u ∧ (∀ b ∈ Bm, b ∈ B) ∧ Bm.Nodup ∧ Own K cl F H x u Bm ∧
    ∀ (H1 : Hp) (x1 : OD), (∀ b ∈ B, b ∉ Bm → H1 b = H b) → Own K cl F H1 x1 u Bm → Owns K cl F H1 (xs.set j x1) vs B
  | [], vs, B, j, x, _, _, e => by simp at e
  | y :: ys, vs, B, 0, x, ⟨u, us, A1, A2, e1, e2, h1, h2⟩, nd, e => by
    simp at e
    subst e e1 e2
    have nd' := List.nodup_append.mp nd
    refine ⟨u, A1, rfl, fun b hb => List.mem_append_left _ hb, nd'.1, h1, fun H1 x1 k o => ⟨u, us, A1, A2, rfl, rfl, o, ?_⟩⟩
    refine owns_mono (Le.refl _) ys us A2 (fun a ha => ⟨(owns_at ys us A2 h2 a ha).1, fun z hz => ?_⟩) h2
    rw [k a (List.mem_append_right _ ha) fun z => nd'.2.2 a z a ha rfl]
    exact hz
  | y :: ys, vs, B, j + 1, x, ⟨u, us, A1, A2, e1, e2, h1, h2⟩, nd, e => by
    subst e1 e2
    have nd' := List.nodup_append.mp nd
    obtain ⟨w, Bm, g1, g2, g3, g4, g5⟩ := owns_get h2 nd'.2.1 (by simpa using e)
    refine ⟨w, Bm, by simpa using g1, fun b hb => List.mem_append_right _ (g2 b hb), g3, g4, fun H1 x1 k o => ⟨u, us, A1, A2, rfl, rfl, ?_, g5 H1 x1 (fun b hb hn => k b (List.mem_append_right _ hb) hn) o⟩⟩
    refine own_mono (Le.refl _) y u A1 (fun a ha => ⟨(own_at y u A1 h1 a ha).1, fun z hz => ?_⟩) h1
    rw [k a (List.mem_append_left _ ha) fun z => nd'.2.2 a ha a (g2 a z) rfl]
    exact hz
/-- the part of an own object -/
theorem own_path (sb : Sb F H) : ∀ (js : List Nat) {o : OD} {v : V} {B : List Addr} {o' : OD}, Own K cl F H o v B → B.Nodup → oget o js = some o' → ∃ v' B', (∀ H1 : Hp, (∀ b x, H b = some x → (b ∈ B ∨ ∃ y, F b = some y) → H1 b = some x) → vget H1 v js = some v') ∧ (∀ b ∈ B', b ∈ B) ∧ B'.Nodup ∧ Own K cl F H o' v' B' ∧
    ∀ (H1 : Hp) (o1 : OD), (∀ b ∈ B, b ∉ B' → H1 b = H b) → Own K cl F H1 o1 v' B' → Own K cl F H1 (oput o js o1) v B
  | [], o, v, B, o', r, nd, e => by
    cases (show some o = some o' from by rw [← e]; cases o <;> rfl)
    refine ⟨v, B, fun _ _ => by cases v <;> rfl, fun b hb => hb, nd, r, fun H1 o1 _ h => ?_⟩
    rw [show oput o [] o1 = o1 from by cases o <;> rfl]
    exact h
  | j :: js, .tup xs, v, B, o', ⟨p, vs, ev, hF, w⟩, nd, e => by
    subst ev
    have hp : H p = some (.tup vs) := (sb _ _ hF).2 rfl
    unfold oget at e
    cases ex : xs[j]? with
    | none => rw [ex] at e; cases e
    | some x =>
      rw [ex] at e
      obtain ⟨u, Bm, g1, g2, g3, g4, g5⟩ := owns_get w nd ex
      obtain ⟨v', B', k1, k2, k3, k4, k5⟩ := own_path sb js g4 g3 e
      refine ⟨v', B', fun H1 kp => ?_, fun b hb => g2 b (k2 b hb), k3, k4, fun H1 o1 kp o => ?_⟩
      · unfold vget
        rw [kp p _ hp (.inr ⟨_, hF⟩)]
        dsimp only
        rw [g1]
        exact k1 H1 fun b x hx hb => kp b x hx (hb.imp (g2 b) id)
      · refine ⟨p, vs, rfl, hF, ?_⟩
        have ed : xs.getD j .gone = x := by rw [List.getD_eq_getElem?_getD, ex]; rfl
        rw [ed]
        exact g5 H1 _ (fun b hb hn => kp b hb fun z => hn (k2 b z)) (k5 H1 o1 (fun b hb hn => kp b (g2 b hb) hn) o)
  | j :: js, .lst xs, v, B, o', ⟨p, vs, B0, ev, eB, f0, hp, w⟩, nd, e => by
    subst ev eB
    obtain ⟨np, nd0⟩ := List.nodup_cons.mp nd
    unfold oget at e
    cases ex : xs[j]? with
    | none => rw [ex] at e; cases e
    | some x =>
      rw [ex] at e
      obtain ⟨u, Bm, g1, g2, g3, g4, g5⟩ := owns_get w nd0 ex
      obtain ⟨v', B', k1, k2, k3, k4, k5⟩ := own_path sb js g4 g3 e
      refine ⟨v', B', fun H1 kp => ?_, fun b hb => List.mem_cons_of_mem _ (g2 b (k2 b hb)), k3, k4, fun H1 o1 kp o => ?_⟩
      · unfold vget
        rw [kp p _ hp (.inl List.mem_cons_self)]
        dsimp only
        rw [g1]
        exact k1 H1 fun b x hx hb => kp b x hx (hb.imp (fun z => List.mem_cons_of_mem _ (g2 b z)) id)
      · have ed : xs.getD j .gone = x := by rw [List.getD_eq_getElem?_getD, ex]; rfl
        show Own K cl F H1 (.lst (xs.set j (oput (xs.getD j .gone) js o1))) _ _
        rw [ed]
        refine ⟨p, vs, B0, rfl, rfl, f0, ?_, g5 H1 _ (fun b hb hn => kp b (List.mem_cons_of_mem _ hb) fun z => hn (k2 b z)) (k5 H1 o1 (fun b hb hn => kp b (List.mem_cons_of_mem _ (g2 b hb)) hn) o)⟩
        rw [kp p List.mem_cons_self fun z => np (g2 p (k2 p z))]
        exact hp
  | j :: js, .gone, _, _, _, _, _, e => by simp [oget] at e
  | j :: js, .fz _, _, _, _, _, _, e => by simp [oget] at e
  | j :: js, .dic _, _, _, _, _, _, e => by simp [oget] at e
  | j :: js, .dct _, _, _, _, _, _, e => by simp [oget] at e
  | j :: js, .ins _ _, _, _, _, _, _, e => by simp [oget] at e
theorem vget_snoc {H : Hp} {p : Addr} {vs : List V} {j : Nat} : ∀ {js : List Nat} {v : V}, vget H v js = some (.ref p) → (H p = some (.tup vs) ∨ H p = some (.lst vs)) → vget H v (js ++ [j]) = vs[j]?
  | [], v, e, h => by
    cases (show some v = some (.ref p) from by rw [← e]; cases v <;> rfl)
    show vget H (.ref p) [j] = _
    unfold vget
    rcases h with h | h <;> (rw [h]; dsimp only; cases vs[j]? with
      | none => rfl
      | some u => cases u <;> rfl)
  | i :: js, v, e, h => by
    cases v with
    | ref q =>
      show vget H (.ref q) (i :: (js ++ [j])) = _
      unfold vget at e ⊢
      cases hq : H q with
      | none => rw [hq] at e; cases e
      | some o =>
        rw [hq] at e
        cases o with
        | tup us =>
          dsimp only at e ⊢
          cases hu : us[i]? with
          | none => rw [hu] at e; cases e
          | some u => rw [hu] at e; exact vget_snoc e h
        | lst us =>
          dsimp only at e ⊢
          cases hu : us[i]? with
          | none => rw [hu] at e; cases e
          | some u => rw [hu] at e; exact vget_snoc e h
        | _ => cases e
    | _ => simp [vget] at e
end
/-- the object of slot i is held out -/
structure Held (K : PySem.W.Frag) (cl : Nat → Addr) (F H : Hp) (σ : L2.St) (ρ : Rho) (A : Nat → List Addr) (i : Nat) (o : OD) (v : V) (B : List Addr) : Prop where
  s : Sto K cl F H σ ρ A
  g : gt ρ i = .gone
  hi : i < ρ.length
  e : σ[i]? = some (some v)
  ow : Own K cl F H o v B
  nd : B.Nodup
  dj : ∀ b ∈ B, ¬ ownd A b
@[simp] def isGone : OD → Bool
  | .gone => true
  | _ => false
theorem isGone_eq {o : OD} (h : isGone o = true) : o = .gone := by
  cases o <;> first | rfl | cases h
section
variable {K : PySem.W.Frag} {cl : Nat → Addr} {F F1 H H1 : Hp} {σ : L2.St} {ρ ρ1 : Rho} {A A1 : Nat → List Addr} {i : Nat} {o : OD} {v : V} {B : List Addr}
theorem Held.step (h : Held K cl F H σ ρ A i o v B) (s1 : Sto K cl F1 H1 σ ρ1 A1) (g : Gr (ownd A) (ownd A1) F H F1 H1) (hg : isGone (gt ρ1 i) = true) : Held K cl F1 H1 σ ρ1 A1 i o v B := by
  have at_ := own_at o v B h.ow
  refine ⟨s1, isGone_eq hg, by rw [s1.len, ← h.s.len]; exact h.hi, h.e, ?_, h.nd, fun b hb z => ?_⟩
  · exact own_mono g.ff o v B (fun a ha => ⟨(g.new a (at_ a ha).2 (h.dj a ha)).trans (at_ a ha).1, fun x hx => g.keep a x hx (h.dj a ha)⟩) h.ow
  · rcases g.ow b z with q | q
    · exact h.dj b hb q
    · have := (at_ b hb).2
      rw [q] at this
      exact this
/-- what holds of the path holds later -/
theorem Held.kp (h : Held K cl F H σ ρ A i o v B) (g : Gr (ownd A) (ownd A1) F H F1 H1) : ∀ b x, H b = some x → (b ∈ B ∨ ∃ y, F b = some y) → H1 b = some x := fun b x hx hb => by
  refine g.keep b x hx fun z => ?_
  rcases hb with q | ⟨y, q⟩
  · exact h.dj b q z
  · rw [(h.s.at_ z).1] at q; cases q
theorem held_out (s : Sto K cl F H σ ρ A) (h : gt ρ i ≠ .gone) : ∃ v, Held K cl F H σ (ρ.set i .gone) (fun j => if j = i then [] else A j) i (gt ρ i) v (A i) := by
  obtain ⟨v, ev, r⟩ := (s.sl i).own h
  have hi := gt_lt h
  have s1 := s.drop (i := i) (x := some v)
  rw [sigma_set_self ev] at s1
  refine ⟨v, s1, gt_set hi, by rw [List.length_set]; exact hi, ev, r, s.nd i, fun b hb z => ?_⟩
  obtain ⟨j, hj⟩ := z
  dsimp only at hj
  by_cases e : j = i
  · rw [if_pos e] at hj; cases hj
  · rw [if_neg e] at hj
    exact s.dis j i e b hj hb
end
section
variable {X : Cx} {cl : Nat → Addr} {W : WX} {pn : List Nat} {e a b : Expr} {es : List Expr} {i : Nat} {pos apos p : Pos}
/-- a place within the held object of slot i -/
def PL (X : Cx) (cl : Nat → Addr) (i : Nat) (e : Expr) (g : OD → Rho → Option (List Nat × Rho)) : Prop :=
  ∃ te : TE, PE X e te ∧ ∀ F H σ ρ A o v B js ρ1 Q, Held X.K cl F H σ ρ A i o v B → g o ρ = some (js, ρ1) →
    (∀ F1 H1 A1 u, Held X.K cl F1 H1 σ ρ1 A1 i o v B → Gr (ownd A) (ownd A1) F H F1 H1 → vget H1 v js = some u → Q u H1) → te σ H Q
@[simp] def plName : OD → Rho → Option (List Nat × Rho) := fun _ ρ => some ([], ρ)
theorem pl_name (h : PE X e (tVar i)) : PL X cl i e plName :=
  ⟨_, h, fun F H σ ρ A o v B js ρ1 Q hh eg k => by
    cases eg
    exact ⟨v, hh.e, k F H A v hh Gr.refl (by cases v <;> rfl)⟩⟩
@[simp] def olen : Option OD → Option Nat
  | some (.tup xs) => some xs.length
  | some (.lst xs) => some xs.length
  | _ => none
@[simp] def plIx (i : Nat) (g : OD → Rho → Option (List Nat × Rho)) (t : Rho → Res Opd) : OD → Rho → Option (List Nat × Rho) := fun o ρ => match g o ρ with
  | some (js, ρ1) => (match t ρ1 with
    | .ok (.d (.v (.int k))) ρ2 => if isGone (gt ρ2 i) = true then (match olen (oget o js) with
      | some n => (match ixN n k with
        | some j => some (js ++ [j], ρ2)
        | none => none)
      | none => none) else none
    | _ => none)
  | none => none
/-- where an index goes wrong nothing is told -/
abbrev wAny : WX := fun _ _ _ _ => True
theorem pl_ix {g : OD → Rho → Option (List Nat × Rho)} {t : Rho → Res Opd} (h : PL X cl i a g) (hb : EP' X cl wAny b t) (hs : PlainIx b := by exact fun _ _ => rfl) : PL X cl i (.Subscript a b pos) (plIx i g t) := by
  obtain ⟨te, he, k0⟩ := h
  refine ⟨_, pe_ix ix_seq he hb hs, fun F H σ ρ A o v B js ρ1 Q hh eg k => ?_⟩
  unfold plIx at eg
  cases e1 : g o ρ with
  | none => rw [e1] at eg; cases eg
  | some z =>
    obtain ⟨js1, ρa⟩ := z
    rw [e1] at eg
    dsimp only at eg
    refine k0 F H σ ρ A o v B js1 ρa _ hh e1 fun Fa Ha Aa u ha ga ua => ?_
    cases e2 : t ρa with
    | bad => rw [e2] at eg; cases eg
    | err x ρ' => rw [e2] at eg; cases eg
    | ok q ρb =>
      rw [e2] at eg
      refine ⟨Fa, ρa, Aa, ha.s, ?_⟩
      rw [e2]
      intro y Fb Hb Ab sb gb pb
      match q, eg, pb with
      | .d (.v (.int n)), eg, pb =>
        dsimp only at eg
        by_cases hg : isGone (gt ρb i) = true
        · rw [if_pos hg] at eg
          have hb' := ha.step sb gb hg
          cases e3 : oget o js1 with
          | none => rw [e3] at eg; cases eg
          | some o1 =>
            rw [e3] at eg
            obtain ⟨u', B', k1, k2, k3, k4, k5⟩ := own_path ha.s.sub js1 ha.ow ha.nd e3
            have ea := k1 Ha fun _ _ hx _ => hx
            rw [ua] at ea
            cases ea
            have eb := k1 Hb (ha.kp gb)
            obtain ⟨u2, B2, l1, l2, l3, l4, l5⟩ := own_path hb'.s.sub js1 hb'.ow hb'.nd e3
            have eb2 := l1 Hb fun _ _ hx _ => hx
            rw [eb] at eb2
            cases eb2
            obtain ⟨ey, _⟩ := pb
            subst ey
            have fin : ∀ (q0 : Addr) (vs : List V), u = .ref q0 → ((SqT X.K Hb q0 vs ∧ Hb q0 = some (.tup vs)) ∨ (SqL X.K Hb q0 vs ∧ Hb q0 = some (.lst vs))) → ∀ m, m = vs.length → (match ixN m n with
              | some j => some (js1 ++ [j], ρb)
              | none => none) = some (js, ρ1) → rIx X.K u (.int n) Hb Q := fun q0 vs eu hv m em eg => by
              subst eu em
              cases e4 : ixN vs.length n with
              | none => rw [e4] at eg; cases eg
              | some j =>
                rw [e4] at eg
                cases eg
                obtain ⟨_, hj, _⟩ := ixN_seq e4
                have gat : vs[j]? = some vs[j] := List.getElem?_eq_getElem hj
                have ai : atI vs n = some vs[j] := by unfold atI; rw [e4]; exact gat
                have vs' := vget_snoc (j := j) eb (hv.imp (fun z => z.2) fun z => z.2)
                rw [gat] at vs'
                have fin := k Fb Hb Ab vs[j] hb' (ga.trans gb) vs'
                rcases hv with ⟨hv, _⟩ | ⟨hv, _⟩
                · exact .inr (.inl ⟨q0, vs, n, vs[j], rfl, rfl, hv, ai, fin⟩)
                · exact .inl ⟨q0, vs, n, vs[j], rfl, rfl, hv, ai, fin⟩
            cases o1 with
            | tup xs =>
              obtain ⟨q0, vs, eu, hF, w⟩ := l4
              have hp := (hb'.s.sub _ _ hF).2 rfl
              exact fin q0 vs eu (.inl ⟨SqT.of hp, hp⟩) xs.length (owns_length w).symm eg
            | lst xs =>
              obtain ⟨q0, vs, B3, eu, _, _, hp, w⟩ := l4
              exact fin q0 vs eu (.inr ⟨SqL.of hp, hp⟩) xs.length (owns_length w).symm eg
            | _ => cases eg
        · rw [if_neg hg] at eg; cases eg
/-- a method that changes the own list at a place within slot i -/
@[simp] def evMutP (i : Nat) (g : OD → Rho → Option (List Nat × Rho)) (f : OD → List D → Option (OD × D)) (ts : Rho → Res (List Opd)) : Rho → Res OV := fun ρ => if isGone (gt ρ i) = true then .bad else (match g (gt ρ i) (ρ.set i .gone) with
  | some (js, ρ1) => (match oget (gt ρ i) js with
    | some (.lst os) => (match ts ρ1 with
      | .ok qs ρ2 => if isGone (gt ρ2 i) = true then (match allD qs with
        | some ds => (match f (.lst os) ds with
          | some (o', d) => .ok (.o (.fz d)) (ρ2.set i (oput (gt ρ i) js o'))
          | none => .bad)
        | none => .bad) else .bad
      | _ => .bad)
    | _ => .bad)
  | none => .bad)
theorem ee_mutP {p' : Expr} {g : OD → Rho → Option (List Nat × Rho)} {f : OD → List D → Option (OD × D)} {R : V → List V → Hp → VK → Prop} {ts : Rho → Res (List Opd)} (hr : ∀ {to : TE} {ta : TA}, PE X e to → PA X es ta → PE X p' (tBM X.K "list" R to ta)) (hp : PL X cl i e g) (mu : MutOk X.K cl f R) (ha : EA X cl W es ts) : EE X cl W p' (evMutP i g f ts) := by
  obtain ⟨te, he, k0⟩ := hp
  refine PE.imp (hr he ha) fun σ H Q ⟨F, ρ, A, s, q⟩ => ?_
  unfold evMutP at q
  by_cases h0 : isGone (gt ρ i) = true
  · rw [if_pos h0] at q; exact q.elim
  · rw [if_neg h0] at q
    obtain ⟨v, hh⟩ := held_out s (fun z => h0 (by rw [z]; rfl))
    cases e1 : g (gt ρ i) (ρ.set i .gone) with
    | none => rw [e1] at q; exact q.elim
    | some z =>
      obtain ⟨js, ρ1⟩ := z
      rw [e1] at q
      dsimp only at q
      refine k0 F H σ _ _ _ v _ js ρ1 _ hh e1 fun F1 H1 A1 u h1 g1 u1 => ?_
      cases e2 : oget (gt ρ i) js with
      | none => rw [e2] at q; exact q.elim
      | some o1 =>
        rw [e2] at q
        cases o1 with
        | lst os =>
          dsimp only at q
          obtain ⟨u', B', k1, k2, k3, k4, k5⟩ := own_path h1.s.sub js h1.ow h1.nd e2
          have ea := k1 H1 fun _ _ hx _ => hx
          rw [u1] at ea
          cases ea
          obtain ⟨pl, vs, B2, eu, eB, f0, hl, w⟩ := k4
          subst eu
          refine ⟨.inl ⟨rfl, vs, .inl (.inl hl)⟩, F1, ρ1, A1, h1.s, ?_⟩
          cases e3 : ts ρ1 with
          | bad => rw [e3] at q; exact q.elim
          | err x ρ' => rw [e3] at q; exact q.elim
          | ok qs ρ2 =>
            rw [e3] at q
            intro us F2 H2 A2 s2 g2 p2
            dsimp only at q
            by_cases hg : isGone (gt ρ2 i) = true
            · rw [if_pos hg] at q
              have h2 := h1.step s2 g2 hg
              have eb := k1 H2 (h1.kp g2)
              obtain ⟨u2, B3, l1, l2, l3, l4, l5⟩ := own_path h2.s.sub js h2.ow h2.nd e2
              have eb2 := l1 H2 fun _ _ hx _ => hx
              rw [eb] at eb2
              cases eb2
              cases e4 : allD qs with
              | none => rw [e4] at q; exact q.elim
              | some ds =>
                rw [e4] at q
                dsimp only at q
                cases e5 : f (.lst os) ds with
                | none => rw [e5] at q; exact q.elim
                | some y =>
                  obtain ⟨o', d⟩ := y
                  rw [e5] at q
                  dsimp only at q
                  have l4' := l4
                  obtain ⟨pl', vs2, B4, ep, eB4, f2, hl2, w2⟩ := l4'
                  cases ep
                  subst eB4
                  refine mu F2 H2 (.lst os) pl B4 ds us o' d Q l4 l3 h2.s.sub (allD_reps e4 p2) e5 fun ho v2 r2 r3 => ?_
                  have pB : pl ∈ A i := l2 pl List.mem_cons_self
                  have np : ¬ ownd A2 pl := h2.dj pl pB
                  have sub : Sb F2 (upd H2 pl ho) := fun a x e => by
                    have ne : a ≠ pl := ne_of_none e f2
                    obtain ⟨z1, z2⟩ := h2.s.sub a x e
                    refine ⟨?_, fun q => by rw [upd_ne ne]; exact z2 q⟩
                    rcases z1 with z | ⟨ob, z⟩
                    · exact .inl (by rw [upd_ne ne]; exact z)
                    · exact .inr ⟨ob, by rw [upd_ne ne]; exact z⟩
                  have s3 : Sto X.K cl F2 (upd H2 pl ho) σ ρ2 A2 := h2.s.mono (Le.refl _) sub fun b hb => ⟨(h2.s.at_ hb).1, fun y hy => by rw [upd_ne fun (z : b = pl) => np (by rw [← z]; exact hb)]; exact hy⟩
                  have ow := l5 (upd H2 pl ho) o' (fun b _ hn => upd_ne fun (z : b = pl) => hn (by rw [z]; exact List.mem_cons_self)) r2
                  have s4 := s3.put (i := i) (v := v) h2.hi ow h2.nd fun b hb j hj z => h2.dj b hb ⟨j, z⟩
                  rw [sigma_set_self h2.e] at s4
                  refine q v2 F2 _ _ [] s4 ?_ ⟨rfl, r3⟩ List.nodup_nil fun b z => by cases z
                  have g3 := g1.trans g2
                  have sub0 : ∀ b, ownd (fun j => if j = i then [] else A j) b → ownd A b := fun b ⟨j, hj⟩ => by
                    dsimp only at hj
                    by_cases e : j = i
                    · rw [if_pos e] at hj; cases hj
                    · rw [if_neg e] at hj; exact ⟨j, hj⟩
                  refine ⟨fun b x hx hn => ?_, g3.ff, fun b hw hn => g3.new b hw fun z => hn (sub0 b z), fun b hb => ?_⟩
                  · rw [upd_ne fun (z : b = pl) => hn ⟨i, by rw [z]; exact pB⟩]
                    exact g3.keep b x hx fun z => hn (sub0 b z)
                  · rcases hb with ⟨j, hj⟩ | hb
                    · dsimp only at hj
                      by_cases e : j = i
                      · rw [if_pos e] at hj; exact .inl ⟨i, hj⟩
                      · rw [if_neg e] at hj
                        exact (g3.ow b ⟨j, hj⟩).imp (sub0 b) id
                    · cases hb
            · rw [if_neg hg] at q; exact q.elim
        | _ => exact q.elim
@[simp] def evMut0P (i : Nat) (g : OD → Rho → Option (List Nat × Rho)) (f : OD → List D → Option (OD × D)) : Rho → Res OV := fun ρ => if isGone (gt ρ i) = true then .bad else (match g (gt ρ i) (ρ.set i .gone) with
  | some (js, ρ1) => (match oget (gt ρ i) js with
    | some (.lst os) => (match f (.lst os) [] with
      | some (o', d) => .ok (.o (.fz d)) (ρ1.set i (oput (gt ρ i) js o'))
      | none => .bad)
    | _ => .bad)
  | none => .bad)
theorem ee_mut0P {p' : Expr} {g : OD → Rho → Option (List Nat × Rho)} {f : OD → List D → Option (OD × D)} {R : V → List V → Hp → VK → Prop} (hr : ∀ {to : TE}, PE X e to → PE X p' (tBM0 X.K "list" R to)) (hp : PL X cl i e g) (mu : MutOk X.K cl f R) : EE X cl W p' (evMut0P i g f) := by
  obtain ⟨te, he, k0⟩ := hp
  refine PE.imp (hr he) fun σ H Q ⟨F, ρ, A, s, q⟩ => ?_
  unfold evMut0P at q
  by_cases h0 : isGone (gt ρ i) = true
  · rw [if_pos h0] at q; exact q.elim
  · rw [if_neg h0] at q
    obtain ⟨v, hh⟩ := held_out s (fun z => h0 (by rw [z]; rfl))
    cases e1 : g (gt ρ i) (ρ.set i .gone) with
    | none => rw [e1] at q; exact q.elim
    | some z =>
      obtain ⟨js, ρ1⟩ := z
      rw [e1] at q
      dsimp only at q
      refine k0 F H σ _ _ _ v _ js ρ1 _ hh e1 fun F1 H1 A1 u h1 g1 u1 => ?_
      cases e2 : oget (gt ρ i) js with
      | none => rw [e2] at q; exact q.elim
      | some o1 =>
        rw [e2] at q
        cases o1 with
        | lst os =>
          dsimp only at q
          obtain ⟨u', B', k1, k2, k3, k4, k5⟩ := own_path h1.s.sub js h1.ow h1.nd e2
          have ea := k1 H1 fun _ _ hx _ => hx
          rw [u1] at ea
          cases ea
          obtain ⟨pl, vs, B2, eu, eB, f0, hl, w⟩ := k4
          subst eu
          refine ⟨.inl ⟨rfl, vs, .inl (.inl hl)⟩, ?_⟩
          obtain ⟨u2, B3, l1, l2, l3, l4, l5⟩ := own_path h1.s.sub js h1.ow h1.nd e2
          have eb2 := l1 H1 fun _ _ hx _ => hx
          rw [u1] at eb2
          cases eb2
          cases e5 : f (.lst os) [] with
          | none => rw [e5] at q; exact q.elim
          | some y =>
            obtain ⟨o', d⟩ := y
            rw [e5] at q
            dsimp only at q
            have l4' := l4
            obtain ⟨pl', vs2, B4, ep, eB4, f2, hl2, w2⟩ := l4'
            cases ep
            subst eB4
            refine mu F1 H1 (.lst os) pl B4 [] [] o' d Q l4 l3 h1.s.sub rfl e5 fun ho v2 r2 r3 => ?_
            have pB : pl ∈ A i := l2 pl List.mem_cons_self
            have np : ¬ ownd A1 pl := h1.dj pl pB
            have sub : Sb F1 (upd H1 pl ho) := fun a x e => by
              have ne : a ≠ pl := ne_of_none e f2
              obtain ⟨z1, z2⟩ := h1.s.sub a x e
              refine ⟨?_, fun q => by rw [upd_ne ne]; exact z2 q⟩
              rcases z1 with z | ⟨ob, z⟩
              · exact .inl (by rw [upd_ne ne]; exact z)
              · exact .inr ⟨ob, by rw [upd_ne ne]; exact z⟩
            have s3 : Sto X.K cl F1 (upd H1 pl ho) σ ρ1 A1 := h1.s.mono (Le.refl _) sub fun b hb => ⟨(h1.s.at_ hb).1, fun y hy => by rw [upd_ne fun (z : b = pl) => np (by rw [← z]; exact hb)]; exact hy⟩
            have ow := l5 (upd H1 pl ho) o' (fun b _ hn => upd_ne fun (z : b = pl) => hn (by rw [z]; exact List.mem_cons_self)) r2
            have s4 := s3.put (i := i) (v := v) h1.hi ow h1.nd fun b hb j hj z => h1.dj b hb ⟨j, z⟩
            rw [sigma_set_self h1.e] at s4
            refine q v2 F1 _ _ [] s4 ?_ ⟨rfl, r3⟩ List.nodup_nil fun b z => by cases z
            have g3 := g1
            have sub0 : ∀ b, ownd (fun j => if j = i then [] else A j) b → ownd A b := fun b ⟨j, hj⟩ => by
              dsimp only at hj
              by_cases e : j = i
              · rw [if_pos e] at hj; cases hj
              · rw [if_neg e] at hj; exact ⟨j, hj⟩
            refine ⟨fun b x hx hn => ?_, g3.ff, fun b hw hn => g3.new b hw fun z => hn (sub0 b z), fun b hb => ?_⟩
            · rw [upd_ne fun (z : b = pl) => hn ⟨i, by rw [z]; exact pB⟩]
              exact g3.keep b x hx fun z => hn (sub0 b z)
            · rcases hb with ⟨j, hj⟩ | hb
              · dsimp only at hj
                by_cases e : j = i
                · rw [if_pos e] at hj; exact .inl ⟨i, hj⟩
                · rw [if_neg e] at hj
                  exact (g3.ow b ⟨j, hj⟩).imp (sub0 b) id
              · cases hb
        | _ => exact q.elim
theorem ee_appendP {g : OD → Rho → Option (List Nat × Rho)} {ts : Rho → Res (List Opd)} (he : PL X cl i e g) (ha : EA X cl W [a] ts)
    (hbase : attributeBase e "append" X.env (eval e X.env) = eval e X.env := by rfl) (hline : (apos.endLine == p.line) = true := by rfl) (hs : starEach [a] X.env = (false, eval a X.env) :: starEach [] X.env := by rfl) :
    EE X cl W (.Call (.Attribute e "append" apos) [a] [] p) (evMutP i g mAppend ts) :=
  ee_mutP (fun h1 h2 => pe_bm PySem.F.plainAttrs_list PySem.F.slot_list_append PySem.F.type_list_append mt_append h1 h2 hbase (by rw [hs]; rfl) hline hs rfl) he mu_append ha
theorem ee_insertP {g : OD → Rho → Option (List Nat × Rho)} {ts : Rho → Res (List Opd)} (he : PL X cl i e g) (ha : EA X cl W [a, b] ts)
    (hbase : attributeBase e "insert" X.env (eval e X.env) = eval e X.env := by rfl) (hline : (apos.endLine == p.line) = true := by rfl) (hs : starEach [a, b] X.env = (false, eval a X.env) :: starEach [b] X.env := by rfl) (hs2 : starEach [b] X.env = (false, eval b X.env) :: starEach [] X.env := by rfl) :
    EE X cl W (.Call (.Attribute e "insert" apos) [a, b] [] p) (evMutP i g (mLst gInsert) ts) :=
  ee_mutP (fun h1 h2 => pe_bm PySem.F.plainAttrs_list PySem.F.slot_list_insert PySem.F.type_list_insert mt_insert h1 h2 hbase (by rw [hs, hs2]; rfl) hline hs (by rw [hs2]; rfl)) he mu_insert ha
theorem ee_pop1P {g : OD → Rho → Option (List Nat × Rho)} {ts : Rho → Res (List Opd)} (he : PL X cl i e g) (ha : EA X cl W [a] ts)
    (hbase : attributeBase e "pop" X.env (eval e X.env) = eval e X.env := by rfl) (hline : (apos.endLine == p.line) = true := by rfl) (hs : starEach [a] X.env = (false, eval a X.env) :: starEach [] X.env := by rfl) :
    EE X cl W (.Call (.Attribute e "pop" apos) [a] [] p) (evMutP i g (mLst gPop1) ts) :=
  ee_mutP (fun h1 h2 => pe_bm PySem.F.plainAttrs_list PySem.F.slot_list_pop PySem.F.type_list_pop mt_popAt h1 h2 hbase (by rw [hs]; rfl) hline hs rfl) he mu_pop1 ha
theorem ee_pop0P {g : OD → Rho → Option (List Nat × Rho)} (he : PL X cl i e g) (hbase : attributeBase e "pop" X.env (eval e X.env) = eval e X.env := by rfl) (hline : (apos.endLine == p.line) = true := by rfl) :
    EE X cl W (.Call (.Attribute e "pop" apos) [] [] p) (evMut0P i g (mLst gPop0)) :=
  ee_mut0P (fun h1 => pe_bm0 PySem.F.plainAttrs_list PySem.F.slot_list_pop PySem.F.type_list_pop mt_pop h1 hbase hline) he mu_pop0
theorem ee_clearP {g : OD → Rho → Option (List Nat × Rho)} (he : PL X cl i e g) (hbase : attributeBase e "clear" X.env (eval e X.env) = eval e X.env := by rfl) (hline : (apos.endLine == p.line) = true := by rfl) :
    EE X cl W (.Call (.Attribute e "clear" apos) [] [] p) (evMut0P i g (mLst gClear)) :=
  ee_mut0P (fun h1 => pe_bm0 PySem.F.plainAttrs_list PySem.F.slot_list_clear PySem.F.type_list_clear mt_clear h1 hbase hline) he mu_clear
end
end
end DL
/-! DL44: sorted of texts. -/
namespace DL
open PySem L2 PySem.Spec PyProof.Rows
@[simp] def txtsOf : List D → Option (List Str)
  | [] => some []
  | .v (.str a) :: ds => match txtsOf ds with
    | some ps => some (a :: ps)
    | none => none
  | _ :: _ => none
abbrev leS (a b : Str) : Bool := !ltCps b.cps.toList a.cps.toList
theorem leS_iff {a b : Str} : leS a b = true ↔ a.cps.toList ≤ b.cps.toList := by
  unfold leS
  rw [ltCps_eq, Bool.not_eq_true', decide_eq_false_iff_not]
  exact Iff.rfl
theorem leS_trans {a b c : Str} (h1 : leS a b = true) (h2 : leS b c = true) : leS a c = true := by
  rw [leS_iff] at *
  exact List.le_trans h1 h2
theorem leS_total (a b : Str) : (leS a b || leS b a) = true := by
  rw [Bool.or_eq_true, leS_iff, leS_iff]
  exact List.le_total _ _
theorem leS_anti {a b : Str} (h1 : leS a b = true) (h2 : leS b a = true) : a = b := by
  rw [leS_iff] at *
  have := List.le_antisymm h1 h2
  obtain ⟨⟨x⟩⟩ := a
  obtain ⟨⟨y⟩⟩ := b
  simp at this
  rw [this]
def sortT (xs : List Str) : List Str := xs.mergeSort leS
theorem rising_pw : ∀ (l : List Str) (p : Str), risingS p l = true → (p :: l).Pairwise fun a b => leS a b = true
  | [], p, _ => by simp
  | x :: r, p, h => by
    unfold risingS at h
    obtain ⟨h1, h2⟩ := Bool.and_eq_true_iff.mp h
    have ih := rising_pw r x h2
    refine List.pairwise_cons.mpr ⟨fun y hy => ?_, ih⟩
    rcases List.mem_cons.mp hy with rfl | z
    · exact h1
    · exact leS_trans h1 ((List.pairwise_cons.mp ih).1 y z)
theorem sortT_pw (ps : List Str) : (sortT ps).Pairwise fun a b => leS a b = true :=
  List.pairwise_mergeSort (le := leS) (fun a b c h1 h2 => leS_trans h1 h2) (fun a b => leS_total a b) ps
theorem sortT_eq {ps qs : List Str} (h : qs.Perm ps) (s : sortedS qs = true) : sortT ps = qs := by
  have pw : qs.Pairwise fun a b => leS a b = true := by
    cases qs with
    | nil => exact List.Pairwise.nil
    | cons x r => exact rising_pw r x s
  exact ((List.mergeSort_perm ps _).trans h.symm).eq_of_pairwise (le := fun a b => leS a b = true) (fun a b _ _ h1 h2 => leS_anti h1 h2) (sortT_pw ps) pw
/-- two lists of texts sort alike just where they hold the same texts as often -/
theorem sortT_perm {ps qs : List Str} : sortT ps = sortT qs ↔ ps.Perm qs := by
  constructor
  · intro h
    have a : (sortT ps).Perm ps := List.mergeSort_perm ps _
    have b : (sortT qs).Perm qs := List.mergeSort_perm qs _
    rw [h] at a
    exact a.symm.trans b
  · intro h
    have a : (sortT ps).Perm ps := List.mergeSort_perm ps _
    have b : (sortT qs).Perm qs := List.mergeSort_perm qs _
    exact ((a.trans h).trans b.symm).eq_of_pairwise (le := fun a b => leS a b = true) (fun a b _ _ h1 h2 => leS_anti h1 h2) (sortT_pw ps) (sortT_pw qs)
@[simp] def pSortT : List D → Option OD
  | [.lst ds] => match txtsOf ds with
    | some ps => if decide (ps.length < 64) = true then some (.lst (fzs ((sortT ps).map fun n => .v (.str n)))) else none
    | none => none
  | _ => none
section
variable {K : PySem.W.Frag} {cl : Nat → Addr} {F : Hp}
theorem txts_rep : ∀ {ds : List D} {ps : List Str} {vs : List V}, txtsOf ds = some ps → Reps K cl F ds vs → vs = ps.map V.str
  | [], ps, vs, e, r => by cases e; exact r
  | d :: ds, ps, vs, e, ⟨u, us, ev, r, q⟩ => by
    unfold txtsOf at e
    split at e
    · rename_i he
      cases he
    · rename_i a ds' he
      cases he
      split at e
      · rename_i ps' e1
        cases e
        rw [ev, txts_rep e1 q, r.1]
        rfl
      · cases e
    · cases e
theorem txts_reps : ∀ ns : List Str, Reps K cl F (ns.map fun n => .v (.str n)) (ns.map V.str)
  | [] => rfl
  | n :: ns => ⟨_, _, rfl, ⟨rfl, trivial⟩, txts_reps ns⟩
theorem pr_sortT : PrimOk K cl pSortT (rSortedS K) := fun F H ds vs o Q sb r e q => by
  unfold pSortT at e
  split at e
  · split at e
    · rename_i ps e1
      split at e
      · rename_i h64
        cases e
        obtain ⟨x, rfl, a, us, rfl, hq, rr⟩ := reps1 r
        have h1 := txts_rep e1 rr
        subst h1
        refine ⟨a, ps, rfl, sb_sqL sb (SqL.of hq), of_decide_eq_true h64, fun ys p hb hs hp => ?_⟩
        rw [sortT_eq hb hs] at q
        exact vq_lst (txts_reps ys) sb q p hp
      · cases e
    · cases e
  · cases e
end
section
variable {X : Cx} {cl : Nat → Addr} {W : WX} {a : Expr} {ts : Rho → Res (List Opd)} {pos p : Pos}
theorem ee_sortT (hg : Gl X "sorted") (hm : X.mg "sorted" = none) (ha : EA X cl W [a] ts) (he : starEach [a] X.env = (false, eval a X.env) :: starEach [] X.env := by rfl) : EE X cl W (.Call (.Name "sorted" p) [a] [] pos) (evN pSortT ts) :=
  ee_callB cr_sortedS pr_sortT hg hm (by decide +kernel) ha (by decide) (by decide) he rfl
theorem ee_sorted3 (hg : Gl X "sorted") (hm : X.mg "sorted" = none) (ha : EA X cl W [a] ts) (he : starEach [a] X.env = (false, eval a X.env) :: starEach [] X.env := by rfl) : EE X cl W (.Call (.Name "sorted" p) [a] [] pos) (evN (alt (alt pSortP pSortI) pSortT) ts) :=
  ee_altN (ee_sorted hg hm ha he) (ee_sortT hg hm ha he)
end
end DL
/-! DL45: l.remove(word), the word in the list. -/
namespace DL
open PySem L2 PySem.Spec PyProof.Rows
theorem strOf_at (k : Str) : ∀ {vs : List Value} {ns : List Str}, StrsAre vs ns → ∀ (i : Nat) (h : i < vs.length), isStrOf k vs[i] = true ↔ ns[i]? = some k
  | _, _, .nil, i, h => absurd h (by simp)
  | _, _, .cons n t hr, 0, _ => by
    show (n == k) = true ↔ some n = some k
    rw [beq_iff_eq, Option.some_inj]
  | _, _, .cons n t hr, i + 1, h => strOf_at k hr i (Nat.lt_of_succ_lt_succ h)
theorem firstT : ∀ {ns : List Str} {k : Str}, k ∈ ns → ∃ j, j < ns.length ∧ ns[j]? = some k ∧ (∀ i, i < j → ns[i]? ≠ some k) ∧ ns.eraseIdx j = ns.erase k
  | [], k, h => absurd h (by simp)
  | a :: r, k, h => by
    by_cases e : a = k
    · exact ⟨0, Nat.succ_pos _, by rw [e]; rfl, fun i hi => absurd hi (Nat.not_lt_zero _), by rw [e, List.erase_cons_head]; rfl⟩
    · have hr : k ∈ r := (List.mem_cons.mp h).resolve_left fun z => e z.symm
      obtain ⟨j, h1, h2, h3, h4⟩ := firstT hr
      refine ⟨j + 1, Nat.succ_lt_succ h1, h2, fun i hi => ?_, ?_⟩
      · cases i with
        | zero => exact fun z => e (Option.some.inj z)
        | succ i => exact h3 i (Nat.lt_of_succ_lt_succ hi)
      · rw [List.erase_cons_tail (by rw [beq_iff_eq]; exact e), ← h4]
        rfl
theorem map_eraseIdxT (f : Str → V) : ∀ (ns : List Str) (j : Nat), (ns.map f).eraseIdx j = (ns.eraseIdx j).map f
  | [], _ => rfl
  | _ :: _, 0 => rfl
  | n :: r, j + 1 => by
    show f n :: (r.map f).eraseIdx j = f n :: (r.eraseIdx j).map f
    rw [map_eraseIdxT f r j]
def tRemT (K : PySem.W.Frag) (to te : TE) : TE := fun σ H Q => to σ H fun x H1 => tyV K "list" x H1 ∧ te σ H1 fun y H2 => ∃ (l : Addr) (ns : List Str) (k : Str), x = .ref l ∧ y = .str k ∧ H2 l = some (.lst (ns.map V.str)) ∧ k ∈ ns ∧ Q .non (upd H2 l (.lst ((ns.erase k).map V.str)))
section
variable {X : Cx} {cl : Nat → Addr} {W : WX} {o e : Expr} {to te : TE} {apos cpos : Pos}
theorem pe_remT (ho : PE X o to) (he : PE X e te) (hbase : attributeBase o "remove" X.env (eval o X.env) = eval o X.env := by rfl)
    (hfew : ((backTo cpos (starEach [e] X.env)).all (fun x => !x.1) && (backToKw cpos (keywordEach [] X.env)).all (fun x => x.1.isSome)
      && decide (([e] : List Expr).length + ([] : List Keyword).length + (if ([] : List Keyword).isEmpty then 0 else 1) < 30)) = true := by rfl)
    (hline : (apos.endLine == cpos.line) = true := by rfl) (hs : starEach [e] X.env = (false, eval e X.env) :: starEach [] X.env := by rfl) (hplain : (backTo cpos (starEach [] X.env)).any (·.1) = false := by rfl) :
    PE X (.Call (.Attribute o "remove" apos) [e] [] cpos) (tRemT X.K to te) := by
  refine ⟨fun pins s σ H Q I h => ?_⟩
  refine wpAny_Call_method_late hbase hfew hline rfl (thn (ho.run pins s σ H _ I h) fun v s1 ⟨x, H1, I1, r1, ty, q1⟩ => ?_)
  obtain ⟨h1, h2⟩ := tyV_is I1 r1 ty
  refine ⟨"list", _, PySem.F.plainAttrs_list, PySem.F.slot_list_remove, PySem.F.type_list_remove, h1, h2, ?_⟩
  rw [hs]
  refine Calls.callWith_builtin (by show (false || (backTo cpos (starEach [] X.env)).any (·.1)) = false; rw [hplain]; rfl) (Calls.evalArgs_plain ?_)
  show wpAny _ _ (spliced ((false, eval e X.env) :: backTo cpos (starEach [] X.env))) _ _ s1
  refine Calls.spliced_cons (thn (he.run pins s1 σ H1 _ I1 q1) fun u s2 ⟨y, H2, I2, ry, q2⟩ => ?_)
  refine Calls.spliced_nil ?_
  obtain ⟨l, ns, k, ex, ey, hH, hk, qy⟩ := q2
  subst ex
  subst ey
  cases (show v = Value.ref l from r1)
  obtain ⟨t, rfl⟩ := (show ∃ t, u = Value.str k t from ry)
  obtain ⟨z, its, n, r, hl, e0⟩ := I2.lstM hH
  have hi : StrsAre its ns := r.strs
  have heq := eq_isStrOf k t hi
  have hnl : ns.length = its.length := by rw [← hl, List.length_map]
  have hsz : its.toArray.size ≤ sizeLine := by rw [List.size_toArray, ← hl]; exact z
  obtain ⟨j, j1, j2, j3, j4⟩ := firstT hk
  have hj : j < its.length := by omega
  refine call_meets PySem.F.slot_list_remove ⟨_, e0, rfl⟩ PySem.F.entry_list_remove (PySem.F.args_list_remove_2 _ _)
    (MeetsSeq.list_remove l its.toArray n (.str k t) (isStrOf k) (fun y hy => heq y (by simpa using hy)) j (by rw [List.size_toArray]; exact hj) ?hit (fun i hi2 hlt => ?hno) hsz) ⟨e0, ?_⟩
  case hit =>
    show isStrOf k its[j] = true
    exact (strOf_at k hi j hj).mpr j2
  case hno =>
    have hi3 : i < its.length := by rw [List.size_toArray] at hi2; exact hi2
    show isStrOf k its[i] = false
    rw [Bool.eq_false_iff]
    intro w
    exact j3 i hlt ((strOf_at k hi i hi3).mp w)
  have r2 : Vals ((ns.erase k).map V.str) (its.eraseIdx j) := by
    have w := r.eraseIdx j
    rw [map_eraseIdxT, j4] at w
    exact w
  refine ⟨.non, _, I2.lset (its' := its.eraseIdx j) hH e0 ?_ r2 ?_, rfl, qy⟩
  · show its.toArray.eraseIdxIfInBounds j = (its.eraseIdx j).toArray
    rw [List.eraseIdxIfInBounds_toArray]
  · rw [List.length_map]
    have := List.length_erase_le (a := k) (l := ns)
    rw [List.length_map] at z
    omega
@[simp] def txtsO : List OD → Option (List Str)
  | [] => some []
  | .fz (.v (.str n)) :: os => match txtsO os with
    | some ns => some (n :: ns)
    | none => none
  | _ :: _ => none
theorem txtsO_map : ∀ ns : List Str, txtsO (fzs (ns.map fun n => D.v (.str n))) = some ns
  | [] => rfl
  | n :: ns => by
    show (match txtsO (fzs (ns.map fun n => D.v (.str n))) with
      | some ns => some (n :: ns)
      | none => none) = _
    rw [txtsO_map ns]
theorem txtsO_owns {K : PySem.W.Frag} {F H : Hp} : ∀ {os : List OD} {ns : List Str} {vs : List V} {B : List Addr}, txtsO os = some ns → Owns K cl F H os vs B → vs = ns.map V.str ∧ B = []
  | [], ns, vs, B, e, ⟨e1, e2⟩ => by cases e; exact ⟨e1, e2⟩
  | o :: os, ns, vs, B, e, ⟨u, us, A1, A2, ev, eB, r, q⟩ => by
    unfold txtsO at e
    split at e
    · rename_i hq
      cases hq
    · rename_i n os' hq
      cases hq
      cases e1 : txtsO os with
      | none => rw [e1] at e; cases e
      | some ns' =>
        rw [e1] at e
        cases e
        obtain ⟨h1, h2⟩ := txtsO_owns e1 q
        obtain ⟨eA, r1, _⟩ := r
        exact ⟨by rw [ev, h1, r1]; rfl, by rw [eB, eA, h2]; rfl⟩
    · cases e
theorem txts_owns {K : PySem.W.Frag} {F H : Hp} : ∀ ns : List Str, Owns K cl F H (fzs (ns.map fun n => D.v (.str n))) (ns.map V.str) []
  | [] => ⟨rfl, rfl⟩
  | n :: ns => ⟨.str n, ns.map V.str, [], [], rfl, rfl, ⟨rfl, rfl, trivial⟩, txts_owns ns⟩
@[simp] def evRemT (i : Nat) (t : Rho → Res Opd) : Rho → Res OV := fun ρ => if isL (gt ρ i) = true then (match t ρ with
  | .ok (.d (.v (.str z))) ρ1 => (match gt ρ1 i with
    | .lst os => (match txtsO os with
      | some ns => if z ∈ ns then .ok (.o (.fz (.v .non))) (ρ1.set i (.lst (fzs ((ns.erase z).map fun n => D.v (.str n))))) else .bad
      | none => .bad)
    | _ => .bad)
  | _ => .bad) else .bad
theorem ee_removeT {i : Nat} {t : Rho → Res Opd} (ho : PE X o (tVar i)) (he : EP' X cl W e t) (hbase : attributeBase o "remove" X.env (eval o X.env) = eval o X.env := by rfl)
    (hfew : ((backTo cpos (starEach [e] X.env)).all (fun x => !x.1) && (backToKw cpos (keywordEach [] X.env)).all (fun x => x.1.isSome)
      && decide (([e] : List Expr).length + ([] : List Keyword).length + (if ([] : List Keyword).isEmpty then 0 else 1) < 30)) = true := by rfl)
    (hline : (apos.endLine == cpos.line) = true := by rfl) (hs : starEach [e] X.env = (false, eval e X.env) :: starEach [] X.env := by rfl) (hplain : (backTo cpos (starEach [] X.env)).any (·.1) = false := by rfl) :
    EE X cl W (.Call (.Attribute o "remove" apos) [e] [] cpos) (evRemT i t) := by
  refine PE.imp (pe_remT ho he hbase hfew hline hs hplain) fun σ H Q ⟨F, ρ, A, s, q⟩ => ?_
  unfold evRemT at q
  have c0 : isL (gt ρ i) = true := by
    cases c : isL (gt ρ i) with
    | true => rfl
    | false => rw [c] at q; exact q.elim
  rw [if_pos c0] at q
  have nl : ∀ {o : OD}, isL o = true → o ≠ .gone := fun {o} h1 h2 => by rw [h2] at h1; cases h1
  obtain ⟨v, ev, r⟩ := (s.sl i).own (nl c0)
  obtain ⟨os0, p, vs0, B0, _, ep, _, _, h0, _⟩ := own_lst c0 r
  subst ep
  refine ⟨_, ev, .inl ⟨rfl, vs0, .inl (.inl h0)⟩, F, ρ, A, s, ?_⟩
  cases e1 : t ρ with
  | bad => rw [e1] at q; exact q.elim
  | err x ρ' => rw [e1] at q; exact q.elim
  | ok od ρ1 =>
    cases od with
    | b j => rw [e1] at q; exact q.elim
    | d d =>
      intro ve F1 H1 A1 s1 g1 p1
      have hd : ∃ z, d = .v (.str z) := by
        rw [e1] at q
        cases d with
        | v x => cases x with
          | str z => exact ⟨z, rfl⟩
          | _ => exact q.elim
        | _ => exact q.elim
      obtain ⟨z, rfl⟩ := hd
      rw [e1] at q
      dsimp only at q
      have c1 : isL (gt ρ1 i) = true := by
        cases eo : gt ρ1 i with
        | lst os => rfl
        | _ => rw [eo] at q; exact q.elim
      obtain ⟨v1, ev1, r1⟩ := (s1.sl i).own (nl c1)
      rw [ev] at ev1
      cases ev1
      obtain ⟨os, p', vs, B, eo, ep1, eB, fp, hp, w⟩ := own_lst c1 r1
      cases ep1
      rw [eo] at q
      dsimp only at q
      cases e2 : txtsO os with
      | none => rw [e2] at q; exact q.elim
      | some ns =>
        rw [e2] at q
        dsimp only at q
        by_cases hz : z ∈ ns
        · rw [if_pos hz] at q
          obtain ⟨evs, eBn⟩ := txtsO_owns e2 w
          subst evs
          subst eBn
          refine ⟨p, ns, z, rfl, p1.1, hp, hz, ?_⟩
          have ow : Own X.K cl F1 (upd H1 p (.lst ((ns.erase z).map V.str))) (.lst (fzs ((ns.erase z).map fun n => D.v (.str n)))) (.ref p) [p] := ⟨p, _, [], rfl, rfl, fp, upd_same, txts_owns _⟩
          obtain ⟨s2, g2⟩ := s1.mut ev eB ow
          exact q .non F1 _ A1 [] s2 (gr1 (g1.trans g2)) ⟨rfl, rfl, trivial⟩ List.nodup_nil fun b hb => by cases hb
        · rw [if_neg hz] at q
          exact q.elim
end
end DL
/-! DL46: for x in xs, where xs is an own list of own things that is used up by the loop: each thing is the target's own. -/
namespace DL
open PySem L2
noncomputable section
def forC (g : GO) (b : Rho → Res Fl) : List OD → Rho → Res Fl
  | [], ρ => .ok .next ρ
  | o :: os, ρ => match g o ρ with
    | none => .bad
    | some ρ1 => match b ρ1 with
      | .ok .next ρ2 => forC g b os ρ2
      | .ok .cont ρ2 => forC g b os ρ2
      | .ok .brk ρ2 => .ok .next ρ2
      | r => r
@[simp] def sForC (t : Rho → Res OV) (g : GO) (b : Rho → Res Fl) : Rho → Res Fl := fun ρ => match t ρ with
  | .ok (.o (.lst os)) ρ1 => forC g b os ρ1
  | .ok (.b i) ρ1 => (match gt ρ1 i with
    | .lst os => forC g b os (ρ1.set i .gone)
    | _ => .bad)
  | .ok _ _ => .bad
  | .err x ρ1 => .err x ρ1
  | .bad => .bad
section
variable {K : PySem.W.Frag} {cl : Nat → Addr} {pn : List Nat} {W : WX}
/-- what of the list is left, apart from the slots -/
structure Left (K : PySem.W.Frag) (cl : Nat → Addr) (F H : Hp) (A : Nat → List Addr) (p : Addr) (vs : List V) (j : Nat) (os : List OD) (B : List Addr) : Prop where
  f0 : F p = none
  hp : H p = some (.lst vs)
  np : ¬ ownd A p
  nB : p ∉ B
  ow : Owns K cl F H os (vs.drop j) B
  nd : B.Nodup
  dj : ∀ b ∈ B, ¬ ownd A b
theorem Left.step {F F1 H H1 : Hp} {A A1 : Nat → List Addr} {p : Addr} {vs : List V} {j : Nat} {os : List OD} {B : List Addr} (h : Left K cl F H A p vs j os B) (g : Gr (ownd A) (ownd A1) F H F1 H1) : Left K cl F1 H1 A1 p vs j os B := by
  have at_ := owns_at os _ B h.ow
  have out : ∀ b, Wr (H b) → ¬ ownd A b → ¬ ownd A1 b := fun b w n z => by
    rcases g.ow b z with q | q
    · exact n q
    · rw [q] at w; exact w
  have wp : Wr (H p) := by rw [h.hp]; trivial
  exact ⟨(g.new p wp h.np).trans h.f0, g.keep p _ h.hp h.np, out p wp h.np, h.nB,
    owns_mono g.ff os _ B (fun a ha => ⟨(g.new a (at_ a ha).2 (h.dj a ha)).trans (at_ a ha).1, fun x hx => g.keep a x hx (h.dj a ha)⟩) h.ow, h.nd,
    fun b hb => out b (at_ b hb).2 (h.dj b hb)⟩
theorem Gr.beside {P P' : Addr → Prop} {F F' H H' : Hp} {B : List Addr} (g : Gr P P' F H F' H') : Gr (fun b => P b ∨ b ∈ B) (fun b => P' b ∨ b ∈ B) F H F' H' :=
  ⟨fun b o e n => g.keep b o e fun z => n (.inl z), g.ff, fun b e n => g.new b e fun z => n (.inl z), fun b h => h.elim (fun z => (g.ow b z).imp .inl id) fun z => .inl (.inr z)⟩
theorem forC_core {st : List Nat} {D : Ends} {σ0 : L2.St} {F0 H0 : Hp} {A0 : Nat → List Addr} {g : GO} {b : Rho → Res Fl} {p : Addr} {vs : List V} {os : List OD} {σ1 : L2.St} {ρ1 : Rho} {F1 H1 : Hp} {A1 : Nat → List Addr} {B1 : List Addr} (hst : (st.all fun i => !pn.contains i) = true)
    (s1 : Sto K cl F1 H1 σ1 ρ1 A1) (gg1 : Gr (ownd A0) (fun b => ownd A1 b ∨ b ∈ B1) F0 H0 F1 H1) (p1 : ∀ i ∈ pn, σ1[i]? = σ0[i]?) (l1 : Left K cl F1 H1 A1 p vs 0 os B1) (q1 : Wants K cl pn W D σ0 A0 F0 H0 (forC g b os ρ1)) :
    ∃ Wn : Nat → Nat → L2.St → Hp → Prop, (∃ m, Wn 0 m σ1 H1) ∧ ∀ i m σ H, Wn i m σ H → ((Itl K p).stop i H ∧ D.nx σ H) ∨ ((Itl K p).go i H ∧ ∃ Nx : L2.St → Hp → Prop, (∀ σ' H', Nx σ' H' → ∃ m', m' < m ∧ Wn (i + 1) m' σ' H') ∧ ∀ x H', (Itl K p).yld i H x H' →
      LGo K cl st g x σ H' fun σ2 H2 => LS K cl pn W b ⟨Nx, D.rt, D.nx, Nx⟩ σ2 H2) := by
  refine ⟨fun i m σ H => ∃ F ρ A B rest, m = rest.length ∧ Sto K cl F H σ ρ A ∧ Gr (ownd A0) (fun b => ownd A b ∨ b ∈ B) F0 H0 F H ∧ (∀ j ∈ pn, σ[j]? = σ0[j]?) ∧ Left K cl F H A p vs i rest B ∧ Wants K cl pn W D σ0 A0 F0 H0 (forC g b rest ρ), ⟨_, F1, ρ1, A1, B1, os, rfl, s1, gg1, p1, l1, q1⟩, ?_⟩
  rintro i m σ H ⟨F, ρ, A, B, rest, rfl, s, gg, pp, l, q⟩
  have sq : SqL K H p vs := SqL.of l.hp
  cases rest with
  | nil =>
    have dn : vs.drop i = [] := l.ow.1
    have hl : vs.length ≤ i := by
      have := congrArg List.length dn
      rw [List.length_drop] at this
      simp at this
      omega
    refine .inl ⟨⟨vs, sq, hl⟩, ?_⟩
    exact q σ F H A s (gg.sub fun b z => .inl z) pp
  | cons o rest =>
    obtain ⟨u, us, B2, B3, e1, eB, ro, rr⟩ := l.ow
    subst eB
    have hu : vs[i]? = some u := by
      have := congrArg (fun l => l[0]?) e1
      simpa [List.getElem?_drop] using this
    have hus : vs.drop (i + 1) = us := by
      rw [← List.tail_drop, e1]
      rfl
    obtain ⟨n1, n2, n3⟩ := List.nodup_append.mp l.nd
    refine .inr ⟨⟨vs, u, sq, hu⟩, _, fun σ' H' w => ⟨rest.length, by simp, w⟩, fun x H2 y => ?_⟩
    obtain ⟨eH, ey⟩ := y
    subst eH
    have ex := ey vs sq
    rw [hu] at ex
    cases ex
    refine ⟨F, ρ, A, o, B2, s, ro, n1, fun b hb => l.dj b (List.mem_append_left _ hb), ?_⟩
    unfold forC at q
    cases e2 : g o ρ with
    | none => rw [e2] at q; exact q.elim
    | some ρ3 =>
      rw [e2] at q
      dsimp only at q
      intro σ3 A3 s3 w3 _ p3'
      have p3 := pn_st hst p3'
      have gg3 : Gr (ownd A0) (fun b => ownd A3 b ∨ b ∈ B3) F0 H0 F H2 := gg.sub fun b z => z.elim (fun z => (w3 b z).elim .inl fun y => .inr (List.mem_append_left _ y)) fun z => .inr (List.mem_append_right _ z)
      have gg4 : Gr (ownd A0) (ownd A3) F0 H0 F H2 := gg3.sub fun b z => .inl z
      have l3 : Left K cl F H2 A3 p vs (i + 1) rest B3 := ⟨l.f0, l.hp, fun z => (w3 p z).elim l.np fun y => l.nB (List.mem_append_left _ y), fun z => l.nB (List.mem_append_right _ z), by rw [hus]; exact rr, n2, fun b hb z => (w3 b z).elim (l.dj b (List.mem_append_right _ hb)) fun y => n3 b y b hb rfl⟩
      have pp3 : ∀ j ∈ pn, σ3[j]? = σ0[j]? := fun j hj => (p3 j hj).trans (pp j hj)
      refine ⟨F, ρ3, A3, s3, ?_⟩
      cases e4 : b ρ3 with
      | bad => rw [e4] at q; exact q
      | err x ρ' => rw [e4] at q; exact fun σ' F' H' A' c a s' g' p' => q σ' F' H' A' c a s' (gg4.transE g') fun i hi => (p' i hi).trans (pp3 i hi)
      | ok f ρ' =>
        rw [e4] at q
        cases f with
        | next => exact fun σ' F' H' A' s' g' p' => ⟨F', ρ', A', B3, rest, rfl, s', gg3.trans g'.beside, fun i hi => (p' i hi).trans (pp3 i hi), l3.step g', q⟩
        | cont => exact fun σ' F' H' A' s' g' p' => ⟨F', ρ', A', B3, rest, rfl, s', gg3.trans g'.beside, fun i hi => (p' i hi).trans (pp3 i hi), l3.step g', q⟩
        | brk => exact fun σ' F' H' A' s' g' p' => q σ' F' H' A' s' (gg4.trans g') fun i hi => (p' i hi).trans (pp3 i hi)
        | ret ov => exact fun v σ' F' H' A' C s' g' p' => q v σ' F' H' A' C s' (gg4.trans g') fun i hi => (p' i hi).trans (pp3 i hi)
end
section
variable {X : Cx} {cl : Nat → Addr} {W : WX} {pn : List Nat} {pos : Pos}
theorem es_forC {tg iter : Expr} {body : List Stmt} {st : List Nat} {t : Rho → Res OV} {g : GO} {b : Rho → Res Fl} (hp : PassesOwn (model X.prog X.w) X.A X.env X.xe) (hc : X.calm = true) (hi : EE X cl W iter t) (hg : EGo X cl st tg g) (hb : ESs X cl pn W body b)
    (hst : (st.all fun i => !pn.contains i) = true := by decide) (hs : ∀ x, foldedSetIterable iter X.env x = pure x := by intro _; rfl) : ES X cl pn W (.For tg iter body [] pos) (sForC t g b) := by
  refine PS.imp (ps_for hp hc (pi_list hi) hg hb hs) fun D σ0 H0 ⟨F0, ρ0, A0, s0, q0⟩ => ⟨F0, ρ0, A0, s0, ?_⟩
  unfold sForC at q0
  cases e : t ρ0 with
  | bad => rw [e] at q0; exact q0
  | err x ρ' => rw [e] at q0; exact fun F' H' A' c a s' g' => q0 σ0 F' H' A' c a s' g' fun _ _ => rfl
  | ok ov ρ1 =>
    rw [e] at q0
    intro v F1 H1 A1 B1 s1 g1 r1 nd1 dj1
    cases ov with
    | o o =>
      cases o with
      | lst os =>
        obtain ⟨p, vs, B, ev, eB, f0, hp', w⟩ := r1
        subst ev eB
        obtain ⟨np, nd⟩ := List.nodup_cons.mp nd1
        exact ⟨p, rfl, ⟨vs, SqL.of hp'⟩, forC_core hst s1 (g1.sub fun b z => z.elim .inl fun z => .inr (List.mem_cons_of_mem _ z)) (fun _ _ => rfl) ⟨f0, hp', dj1 p List.mem_cons_self, np, w, nd, fun b hb => dj1 b (List.mem_cons_of_mem _ hb)⟩ q0⟩
      | _ => exact q0.elim
    | b i =>
      obtain ⟨rfl, hv⟩ := r1
      dsimp only at q0
      cases eo : gt ρ1 i with
      | lst os =>
        rw [eo] at q0
        dsimp only at q0
        obtain ⟨v', hh⟩ := held_out s1 (i := i) (by rw [eo]; exact fun z => by cases z)
        have ev := hh.e
        rw [hv] at ev
        cases ev
        have ow := hh.ow
        rw [eo] at ow
        obtain ⟨p, vs, B, ev, eB, f0, hp', w⟩ := ow
        subst ev
        have nd1 := hh.nd
        have dj1 := hh.dj
        rw [eB] at nd1 dj1
        obtain ⟨np, nd⟩ := List.nodup_cons.mp nd1
        refine ⟨p, rfl, ⟨vs, SqL.of hp'⟩, forC_core hst hh.s ?_ (fun _ _ => rfl) ⟨f0, hp', dj1 p List.mem_cons_self, np, w, nd, fun b hb => dj1 b (List.mem_cons_of_mem _ hb)⟩ q0⟩
        refine g1.sub fun b z => .inl ?_
        rcases z with ⟨j, hj⟩ | z
        · dsimp only at hj
          split at hj
          · cases hj
          · exact ⟨j, hj⟩
        · exact ⟨i, by rw [eB]; exact List.mem_cons_of_mem _ z⟩
      | gone => rw [eo] at q0; exact q0.elim
      | fz _ => rw [eo] at q0; exact q0.elim
      | tup _ => rw [eo] at q0; exact q0.elim
      | dic _ => rw [eo] at q0; exact q0.elim
      | dct _ => rw [eo] at q0; exact q0.elim
      | ins _ _ => rw [eo] at q0; exact q0.elim
end
end
end DL
/-! DL47: list comprehensions whose elements are own things: the list is an own list of them. -/
namespace DL
open PySem L2
noncomputable section
def lcO (g : GR) (c : Rho → Res Bool) (e : Rho → Res OV) (vs : List Nat) : List D → Rho → Res (List OD)
  | [], ρ => .ok [] ρ
  | d :: ds, ρ => match g d ρ with
    | none => .bad
    | some ρ1 => match c ρ1 with
      | .ok true ρ2 => (match e ρ2 with
        | .ok (.o y) ρ3 => (match lcO g c e vs ds (wipeR vs ρ3) with
          | .ok ys ρ4 => .ok (y :: ys) ρ4
          | _ => .bad)
        | _ => .bad)
      | .ok false ρ2 => lcO g c e vs ds (wipeR vs ρ2)
      | _ => .bad
@[simp] def endLcO (ρ1 : Rho) (vs : List Nat) (r : Res (List OD)) : Res OV := match r with
  | .ok ys ρ2 => if decide (ys.length ≤ 16777216) = true then .ok (.o (.lst ys)) (restR ρ1 vs ρ2) else .bad
  | _ => .bad
@[simp] def evLcO (t : Rho → Res (List D)) (g : GR) (c : Rho → Res Bool) (e : Rho → Res OV) (vs : List Nat) : Rho → Res OV := fun ρ => match t ρ with
  | .ok ds ρ1 => endLcO ρ1 vs (lcO g c e vs ds (wipeR vs ρ1))
  | .err x ρ1 => .err x ρ1
  | .bad => .bad
section
variable {K : PySem.W.Frag} {cl : Nat → Addr} {F F' F1 F2 H H' H1 H2 : Hp} {σ σ' : L2.St} {ρ ρ' : Rho} {A A' : Nat → List Addr}
theorem Gr.beside' {P P' Q : Addr → Prop} (g : Gr P P' F H F' H') : Gr (fun b => P b ∨ Q b) (fun b => P' b ∨ Q b) F H F' H' :=
  ⟨fun b o e n => g.keep b o e fun z => n (.inl z), g.ff, fun b e n => g.new b e fun z => n (.inl z), fun b h => h.elim (fun z => (g.ow b z).imp .inl id) fun z => .inl (.inr z)⟩
theorem Left.sub {p : Addr} {vs : List V} {j : Nat} {os : List OD} {B : List Addr} (h : Left K cl F H A p vs j os B) (w : ∀ b, ownd A' b → ownd A b) : Left K cl F H A' p vs j os B :=
  ⟨h.f0, h.hp, fun z => h.np (w p z), h.nB, h.ow, h.nd, fun b hb z => h.dj b hb (w b z)⟩
theorem owns_snoc {y : OD} {v : V} {C : List Addr} (r : Own K cl F H y v C) : ∀ {os : List OD} {us : List V} {B : List Addr}, Owns K cl F H os us B → Owns K cl F H (os ++ [y]) (us ++ [v]) (B ++ C)
  | [], _, _, ⟨e1, e2⟩ => by subst e1 e2; exact ⟨v, [], C, [], rfl, by simp, r, rfl, rfl⟩
  | o :: os, _, _, ⟨u, us, A1, A2, e1, e2, r1, r2⟩ => by
    subst e1 e2
    exact ⟨u, us ++ [v], A1, A2 ++ C, rfl, by rw [List.append_assoc], r1, owns_snoc r r2⟩
/-- what tLc asks behind its source, from data -/
theorem lcO_sem {J : It} {ds : List D} {ys : List OD} {st vs : List Nat} {W : WX} {g : GR} {c : Rho → Res Bool} {e : Rho → Res OV} {ρ1 ρ2 : Rho} {A1 : Nat → List Addr} {Q : VK} (s1 : Sto K cl F1 H1 σ ρ1 A1) (it : ItOk K cl (ownd A1) J F1 H1 ds) (he : lcO g c e vs ds (wipeR vs ρ1) = .ok ys ρ2) (hl : ys.length ≤ 16777216) (nd : vs.Nodup) (hst : ∀ i ∈ st, i ∈ vs)
    (q : ∀ v F' H' A' B, Sto K cl F' H' σ (restR ρ1 vs ρ2) A' → Gr (ownd A1) (fun b => ownd A' b ∨ b ∈ B) F1 H1 F' H' → Own K cl F' H' (.lst ys) v B → B.Nodup → (∀ b ∈ B, ¬ ownd A' b) → Q v H') :
    ∀ D, H1 D = none → ∃ Wn : Nat → Nat → Hp → Prop, (∃ m, Wn 0 m (upd H1 D (.lst []))) ∧ ∀ i m H, Wn i m H → (J.stop i H ∧ Q (.ref D) H) ∨ (J.go i H ∧ ∃ Nx : Hp → Prop, (∀ H', Nx H' → ∃ m', m' < m ∧ Wn (i + 1) m' H') ∧ ∀ x H', J.yld i H x H' →
      LG K cl st g x (L2.wipe σ vs) H' fun σ2 H2 => L2.wipe σ2 vs = L2.wipe σ vs ∧ LT K cl W c σ2 H2 fun b H3 => if b = true then LE K cl W e σ2 H3 fun y H4 => ∃ acc, H4 D = some (.lst acc) ∧ acc.length < sizeLine ∧ Nx (upd H4 D (.lst (acc ++ [y]))) else Nx H3) := by
  intro D0 hD
  have fD : F1 D0 = none := by
    cases z : F1 D0 with
    | none => rfl
    | some o =>
      obtain ⟨x, hx⟩ := rd_some (s1.sub _ _ z).1
      rw [hD] at hx
      cases hx
  have oD : ¬ ownd A1 D0 := fun z => by
    have := (s1.at_ z).2
    rw [hD] at this
    exact this
  obtain ⟨Aw, sw, hw⟩ := s1.wipe vs
  refine ⟨fun i m H => m = ds.length - i ∧ i ≤ ds.length ∧ ∃ F ρ A acc us rest B, Sto K cl F H (L2.wipe σ vs) ρ A ∧ Gr (ownd A1) (fun b => ownd A b ∨ (b = D0 ∨ b ∈ B)) F1 H1 F H ∧ Left K cl F H A D0 us 0 acc B ∧ lcO g c e vs (ds.drop i) ρ = .ok rest ρ2 ∧ acc ++ rest = ys, ⟨_, rfl, Nat.zero_le _, F1, wipeR vs ρ1, Aw, [], [], ys, [], ?_, ⟨fun b o h n => ?_, Le.refl _, fun _ _ _ => rfl, fun b h => ?_⟩, ⟨fD, upd_same, fun z => oD (hw _ z), by simp, ⟨rfl, rfl⟩, List.nodup_nil, fun b hb => by cases hb⟩, he, rfl⟩, ?_⟩
  · refine sw.mono (Le.refl _) (fun a o h => ?_) fun b hb => ⟨(sw.at_ hb).1, fun y hy => ?_⟩
    · have hne : a ≠ D0 := fun z => by rw [z, fD] at h; cases h
      have := sw.sub a o h
      unfold Rd at this ⊢
      rw [upd_ne hne]
      exact this
    · rw [upd_ne (fun z => oD (hw _ (by rw [← z]; exact hb)))]
      exact hy
  · rw [upd_ne (fun z => by rw [z, hD] at h; cases h)]
    exact h
  · rcases h with z | z | z
    · exact .inl (hw _ z)
    · rw [z]; exact .inr hD
    · cases z
  rintro i m H ⟨rfl, hi, F, ρ, A, acc, us, rest, B, s, gg, lf, el, ey⟩
  obtain ⟨go, stop⟩ := it i _ F H s.sub gg
  by_cases hlt : i < ds.length
  · have hd : ds[i]? = some ds[i] := List.getElem?_eq_getElem hlt
    obtain ⟨hgo, hy⟩ := go _ hd
    refine .inr ⟨hgo, _, fun H' w => ⟨ds.length - (i + 1), by omega, rfl, hlt, w⟩, fun x H2 y => ?_⟩
    obtain ⟨F2, sb2, g2, r2⟩ := hy x H2 y
    have s2 := s.new sb2 g2
    have gg2 : Gr (ownd A) (ownd A) F H F2 H2 := gr_new g2 fun _ z => z
    rw [List.drop_eq_getElem_cons hlt] at el
    unfold lcO at el
    refine ⟨F2, ρ, A, ds[i], s2, r2, ?_⟩
    cases e1 : g ds[i] ρ with
    | none => rw [e1] at el; cases el
    | some ρ3 =>
      rw [e1] at el
      dsimp only at el
      intro σ3 A3 s3 w3 l3 p3
      have ew : L2.wipe σ3 vs = L2.wipe σ vs := (wipe_eq l3 fun j hj => p3 j fun z => hj (hst j z)).trans wipe_wipe
      refine ⟨ew, F2, ρ3, A3, s3, ?_⟩
      have lf3 : Left K cl F2 H2 A3 D0 us 0 acc B := (lf.step gg2).sub w3
      have gg3 : Gr (ownd A1) (fun b => ownd A3 b ∨ (b = D0 ∨ b ∈ B)) F1 H1 F2 H2 := gg.trans ((gg2.sub w3).beside' (Q := fun b => b = D0 ∨ b ∈ B))
      cases e2 : c ρ3 with
      | bad => rw [e2] at el; cases el
      | err x ρ' => rw [e2] at el; cases el
      | ok b ρ4 =>
        rw [e2] at el
        intro F4 H4 A4 s4 g4
        have lf4 := lf3.step g4
        have gg4 : Gr (ownd A1) (fun b => ownd A4 b ∨ (b = D0 ∨ b ∈ B)) F1 H1 F4 H4 := gg3.trans (g4.beside' (Q := fun b => b = D0 ∨ b ∈ B))
        cases b with
        | false =>
          rw [if_neg (by decide)]
          dsimp only at el
          obtain ⟨A5, s5, w5⟩ := s4.wipe vs
          rw [ew] at s5
          exact ⟨F4, _, A5, acc, us, rest, B, s5, gg4.sub fun b h => h.elim (fun h => .inl (w5 b h)) .inr, lf4.sub w5, el, ey⟩
        | true =>
          rw [if_pos rfl]
          dsimp only at el
          refine ⟨F4, ρ4, A4, s4, ?_⟩
          cases e3 : e ρ4 with
          | bad => rw [e3] at el; cases el
          | err x ρ' => rw [e3] at el; cases el
          | ok od ρ5 =>
            rw [e3] at el
            cases od with
            | b _ => cases el
            | o yd =>
              dsimp only at el
              intro v F5 H5 A5 C s5 g5 p5 nd5 dj5
              cases e4 : lcO g c e vs (ds.drop (i + 1)) (wipeR vs ρ5) with
              | bad => rw [e4] at el; cases el
              | err x ρ' => rw [e4] at el; cases el
              | ok ys' ρ6 =>
                rw [e4] at el
                cases el
                have g5' : Gr (ownd A4) (ownd A5) F4 H4 F5 H5 := g5.sub fun b z => .inl z
                have lf5 := lf4.step g5'
                have at4 := owns_at acc _ B lf4.ow
                have outC : ∀ b, Wr (H4 b) → ¬ ownd A4 b → b ∉ C := fun b w n z => by
                  rcases g5.ow b (.inr z) with q | q
                  · exact n q
                  · rw [q] at w; exact w
                have dC : D0 ∉ C := outC D0 (by rw [lf4.hp]; trivial) lf4.np
                have bC : ∀ b ∈ B, b ∉ C := fun b hb => outC b (at4 b hb).2 (lf4.dj b hb)
                have at5 := owns_at acc _ B lf5.ow
                have atC := own_at yd v C p5
                refine ⟨us, lf5.hp, ?_, ?_⟩
                · have h1 := owns_length lf5.ow
                  rw [List.drop_zero] at h1
                  rw [sizeLine_eq]
                  have := congrArg List.length ey
                  rw [List.length_append, List.length_cons] at this
                  omega
                · obtain ⟨A6, s6, w6⟩ := s5.wipe vs
                  rw [ew] at s6
                  have gg5 : Gr (ownd A1) (fun b => (ownd A5 b ∨ b ∈ C) ∨ (b = D0 ∨ b ∈ B)) F1 H1 F5 H5 := gg4.trans (g5.beside' (Q := fun b => b = D0 ∨ b ∈ B))
                  have nu : ∀ b, b ≠ D0 → upd H5 D0 (.lst (us ++ [v])) b = H5 b := fun b h => upd_ne h
                  refine ⟨F5, _, A6, acc ++ [yd], us ++ [v], ys', B ++ C, ?_, ⟨fun b o h n => ?_, gg5.ff, gg5.new, fun b h => gg5.ow b ?_⟩, ⟨lf5.f0, upd_same, fun z => lf5.np (w6 _ z), ?_, ?_, ?_, fun b hb z => ?_⟩, e4, by rw [List.append_assoc]; exact ey⟩
                  · refine s6.mono (Le.refl _) (fun a o h => ?_) fun b hb => ⟨(s6.at_ hb).1, fun y hy => ?_⟩
                    · have hne : a ≠ D0 := fun z => by rw [z, lf5.f0] at h; cases h
                      have := s6.sub a o h
                      unfold Rd at this ⊢
                      rw [upd_ne hne]
                      exact this
                    · rw [upd_ne (fun z => lf5.np (w6 _ (by rw [← z]; exact hb)))]
                      exact hy
                  · rw [upd_ne (fun z => by rw [z, hD] at h; cases h)]
                    exact gg5.keep b o h n
                  · rcases h with z | z | z
                    · exact .inl (.inl (w6 b z))
                    · exact .inr (.inl z)
                    · rcases List.mem_append.mp z with z | z
                      · exact .inr (.inr z)
                      · exact .inl (.inr z)
                  · intro z
                    rcases List.mem_append.mp z with z | z
                    · exact lf5.nB z
                    · exact dC z
                  · have o1 : Owns K cl F5 (upd H5 D0 (.lst (us ++ [v]))) acc us B := by
                      have := lf5.ow
                      rw [List.drop_zero] at this
                      exact owns_mono (Le.refl _) acc us B (fun a ha => ⟨(at5 a ha).1, fun x hx => by rw [nu a fun z => lf5.nB (z ▸ ha)]; exact hx⟩) this
                    have o2 : Own K cl F5 (upd H5 D0 (.lst (us ++ [v]))) yd v C := own_mono (Le.refl _) yd v C (fun a ha => ⟨(atC a ha).1, fun x hx => by rw [nu a fun z => dC (z ▸ ha)]; exact hx⟩) p5
                    rw [List.drop_zero]
                    exact owns_snoc o2 o1
                  · exact List.nodup_append.mpr ⟨lf5.nd, nd5, fun a ha b hb e => bC a ha (e ▸ hb)⟩
                  · rcases List.mem_append.mp hb with y | y
                    · exact lf5.dj b y (w6 b z)
                    · exact dj5 b y (w6 b z)
  · have e : i = ds.length := by omega
    subst e
    rw [List.drop_length] at el
    cases (show Res.ok ([] : List OD) ρ = .ok rest ρ2 from el)
    rw [List.append_nil] at ey
    subst ey
    obtain ⟨A5, s5, w5⟩ := s1.rest gg.ff nd s
    have ow := lf.ow
    rw [List.drop_zero] at ow
    exact .inl ⟨stop (Nat.le_refl _), q (.ref D0) F H A5 (D0 :: B) s5 (gg.sub fun b h => h.elim (fun h => .inl (w5 b h)) fun h => .inr (List.mem_cons.mp h)) ⟨D0, us, B, rfl, rfl, lf.f0, lf.hp, ow⟩ (List.nodup_cons.mpr ⟨lf.nB, lf.nd⟩) fun b hb z => by
      rcases List.mem_cons.mp hb with y | y
      · rw [y] at z; exact lf.np (w5 _ z)
      · exact lf.dj b y (w5 _ z)⟩
end
section
variable {X : Cx} {cl : Nat → Addr} {W : WX} {pn : List Nat}
/-- what the parts of a comprehension are: target, tests, element -/
structure LcPO (X : Cx) (cl : Nat → Addr) (st : List Nat) (scope : Scope) (tg : Expr) (ifs : List Expr) (elt : Expr) (g : GR) (c : Rho → Res Bool) (e : Rho → Res OV) : Prop where
  g : ∀ (s : Shared) (H : Hp) (C : Addr) (cs : List (Str × Addr)) (fp : List Addr), EG (X.blk s H scope (compEnvC scope cs C X.env) fp) cl st tg g
  c : ∀ (s : Shared) (H : Hp) (C : Addr) (cs : List (Str × Addr)) (fp : List Addr), ETs (X.blk s H scope (compEnvC scope cs C X.env) fp) cl nox ifs c
  e : ∀ (s : Shared) (H : Hp) (C : Addr) (cs : List (Str × Addr)) (fp : List Addr), EE (X.blk s H scope (compEnvC scope cs C X.env) fp) cl nox elt e
theorem lcO_end {K : PySem.W.Frag} {J : It} {ds : List D} {st vs : List Nat} {g : GR} {c : Rho → Res Bool} {e : Rho → Res OV} {F F1 H H1 : Hp} {σ : L2.St} {ρ1 : Rho} {A A1 : Nat → List Addr} {Q : VK} (nd : vs.Nodup) (hst : ∀ i ∈ st, i ∈ vs) (s1 : Sto K cl F1 H1 σ ρ1 A1) (g1 : Gr (ownd A) (ownd A1) F H F1 H1) (it : ItOk K cl (ownd A1) J F1 H1 ds)
    (q : match endLcO ρ1 vs (lcO g c e vs ds (wipeR vs ρ1)) with
      | .ok ov ρ' => ∀ v F' H' A' B, Sto K cl F' H' σ ρ' A' → Gr (ownd A) (fun b => ownd A' b ∨ b ∈ B) F H F' H' → VOk K cl F' H' σ ov v B → B.Nodup → (∀ b ∈ B, ¬ ownd A' b) → Q v H'
      | .err x ρ' => ErrQ K cl W (ownd A) F H σ x ρ'
      | .bad => False) :
    ∀ D, H1 D = none → ∃ Wn : Nat → Nat → Hp → Prop, (∃ m, Wn 0 m (upd H1 D (.lst []))) ∧ ∀ i m H, Wn i m H → (J.stop i H ∧ Q (.ref D) H) ∨ (J.go i H ∧ ∃ Nx : Hp → Prop, (∀ H', Nx H' → ∃ m', m' < m ∧ Wn (i + 1) m' H') ∧ ∀ x H', J.yld i H x H' →
      LG K cl st g x (L2.wipe σ vs) H' fun σ2 H2 => L2.wipe σ2 vs = L2.wipe σ vs ∧ LT K cl nox c σ2 H2 fun b H3 => if b = true then LE K cl nox e σ2 H3 fun y H4 => ∃ acc, H4 D = some (.lst acc) ∧ acc.length < sizeLine ∧ Nx (upd H4 D (.lst (acc ++ [y]))) else Nx H3) := by
  unfold endLcO at q
  cases e1 : lcO g c e vs ds (wipeR vs ρ1) with
  | bad => rw [e1] at q; exact q.elim
  | err x ρ' => rw [e1] at q; exact q.elim
  | ok ys ρ2 =>
    rw [e1] at q
    dsimp only at q
    by_cases hl : decide (ys.length ≤ 16777216) = true
    · rw [if_pos hl] at q
      exact lcO_sem s1 it e1 (of_decide_eq_true hl) nd hst fun v F' H' A' B s' g' r nd' dj => q v F' H' A' B s' (g1.trans g') r nd' dj
    · rw [if_neg hl] at q
      exact q.elim
/-- [elt for tg in iter if ..] -/
theorem ee_lcO {elt tg iter : Expr} {ifs : List Expr} {scope : Scope} {own : List (Str × Nat)} {st : List Nat} {pos : Pos} {t : Rho → Res (List D)} {g : GR} {c : Rho → Res Bool} {e : Rho → Res OV} (hc : X.calm = true) (hN : X.N.Nodup) (hi : EI X cl W tg iter t) (ok : BlkOk X.N X.env.scope scope own) (p : LcPO X cl st scope tg ifs elt g c e)
    (nd : nodupB (own.map (·.2)) = true := by decide) (hst : (st.all fun i => (own.map (·.2)).contains i) = true := by decide) (hs : ∀ x, foldedSetIterable iter X.env x = pure x := by intro _; rfl) : EE X cl W (.ListComp elt [⟨tg, iter, ifs, 0⟩] scope pos) (evLcO t g c e (own.map (·.2))) := by
  refine PE.imp (pe_lc (g := LG X.K cl st g) (tt := LT X.K cl nox c) (te := LE X.K cl nox e) hc hN hi ok p.g p.c p.e hs) fun σ H Q ⟨F, ρ, A, s, q⟩ => ⟨F, ρ, A, s, ?_⟩
  unfold evLcO at q
  cases e1 : t ρ with
  | bad => rw [e1] at q; exact q
  | err x ρ' => rw [e1] at q; exact q
  | ok ds ρ1 =>
    rw [e1] at q
    exact fun J F1 H1 A1 s1 g1 it => lcO_end (nodup_vs nd) (sub_vs hst) s1 g1 it q
theorem es_setLcO {i : Nat} {y : Str} {py : Pos} {elt tg iter : Expr} {ifs : List Expr} {scope : Scope} {own : List (Str × Nat)} {st : List Nat} {pos spos : Pos} {t : Rho → Res (List D)} {g : GR} {c : Rho → Res Bool} {e : Rho → Res OV} (hp : i ∉ pn) (hc : X.calm = true) (hN : X.N.Nodup) (hy : X.N[i]? = some y) (hyl : X.env.scope.names.lookup y = some .local)
    (hsw : swapsWith (.ListComp elt [⟨tg, iter, ifs, 0⟩] scope pos) (some (.Name y py)) spos.line X.env = pure true) (hi : EI X cl W tg iter t) (ok : BlkOk X.N X.env.scope scope own) (p : LcPO X cl st scope tg ifs elt g c e)
    (nd : nodupB (own.map (·.2)) = true := by decide) (hst : (st.all fun i => (own.map (·.2)).contains i) = true := by decide) (hs : ∀ x, foldedSetIterable iter X.env x = pure x := by intro _; rfl) : ES X cl pn W (.Assign [.Name y py] (.ListComp elt [⟨tg, iter, ifs, 0⟩] scope pos) spos) (sSet i (evLcO t g c e (own.map (·.2)))) := by
  refine es_setR hp (ps_setLc (g := LG X.K cl st g) (tt := LT X.K cl nox c) (te := LE X.K cl nox e) hc hN hy hyl hsw hi ok p.g p.c p.e hs) fun σ H Q ⟨F, ρ, A, s, q⟩ => ⟨F, ρ, A, s, ?_⟩
  unfold evLcO at q
  cases e1 : t ρ with
  | bad => rw [e1] at q; exact q
  | err x ρ' => rw [e1] at q; exact q
  | ok ds ρ1 =>
    rw [e1] at q
    exact fun J F1 H1 A1 s1 g1 it => lcO_end (nodup_vs nd) (sub_vs hst) s1 g1 it q
end
end
end DL
/-! DL48: a frozen field of an own instance is read, the instance stays own; what is told of the frozen state where it bears no lists or dicts. -/
namespace DL
open PySem L2
noncomputable section
section
variable {K : PySem.W.Frag} {cl : Nat → Addr} {F F2 H H2 : Hp} {σ : L2.St} {ρ : Rho} {A : Nat → List Addr}
theorem ownA_fz : ∀ {fs : List (Str × OD)} {vs : List (Str × V)} {B : List Addr} {f : Str} {d : D}, OwnA K cl F H fs vs B → fs.lookup f = some (.fz d) → ∃ u, vs.lookup f = some u ∧ Rep K cl F d u
  | [], _, _, _, _, _, h => by cases h
  | (k, x) :: fs, _, _, f, d, ⟨u, us, A1, A2, e, _, r, q⟩, h => by
    subst e
    rw [List.lookup_cons] at h ⊢
    cases hk : f == k with
    | true =>
      rw [hk] at h
      cases h
      exact ⟨u, rfl, r.2⟩
    | false =>
      rw [hk] at h
      exact ownA_fz q h
/-- the field of the own instance at slot i -/
@[simp] def evFO (cs : List Nat) (i : Nat) (f : Str) : Rho → Res OV := fun ρ => match ofld cs f (gt ρ i) with
  | some (_, _, .fz d) => .ok (.o (.fz d)) ρ
  | _ => .bad
theorem ee_fo {X : Cx} {W : WX} {e : Expr} {pos : Pos} {cs : List Nat} {i : Nat} {f : Str} (he : PE X e (tVar i)) (ok : FldOk X.K cl cs f) (hb : attributeBase e f X.env (eval e X.env) = eval e X.env := by rfl) : EE X cl W (.Attribute e f pos) (evFO cs i f) := by
  refine PE.imp (pe_fld he hb) fun σ H Q ⟨F, ρ, A, s, q⟩ => ?_
  unfold evFO at q
  cases e1 : ofld cs f (gt ρ i) with
  | none => rw [e1] at q; exact q.elim
  | some z =>
    obtain ⟨c, fs, x⟩ := z
    rw [e1] at q
    cases x with
    | fz d =>
      obtain ⟨h1, h2, h3⟩ := ofld_some e1
      obtain ⟨v, ev, r⟩ := (s.sl i).own (by rw [h1]; exact fun z => by cases z)
      rw [h1] at r
      obtain ⟨p, dx, vs, B, ep, eA, f0, hh, w0⟩ := r
      subst ep
      obtain ⟨u, l1, l2⟩ := ownA_fz w0 h3
      obtain ⟨c1, c2⟩ := ok c (by simpa using h2)
      exact ⟨.ref p, ev, p, cl c, dx, vs, u, rfl, hh, c1, c2, l1, q u F H A [] s (gr1 Gr.refl) ⟨rfl, l2⟩ List.nodup_nil fun b z => by cases z⟩
    | _ => exact q.elim
/-! ### the view of what is flat -/
theorem freezeN' (s : Sto K cl F H σ ρ A) : ∀ k : Nat, k ≤ ρ.length → ∃ F' A', Sto K cl F' H σ ((ρ.take k).map frzO ++ ρ.drop k) A' ∧ Gr (ownd A) (ownd A') F H F' H
  | 0, _ => ⟨F, A, by simpa using s, Gr.refl⟩
  | k + 1, h => by
    obtain ⟨F1, A1, s1, g1'⟩ := freezeN' s k (by omega)
    have hk : k < ρ.length := by omega
    have hl : ((ρ.take k).map frzO).length = k := by rw [List.length_map, List.length_take]; omega
    have g1 : gt ((ρ.take k).map frzO ++ ρ.drop k) k = ρ[k] := by
      unfold gt
      rw [List.getD_eq_getElem?_getD, List.getElem?_append_right (by omega), hl, Nat.sub_self, List.drop_eq_getElem_cons hk]
      rfl
    have e1 : (ρ.take (k + 1)).map frzO ++ ρ.drop (k + 1) = ((ρ.take k).map frzO ++ ρ.drop k).set k (frzO ρ[k]) := by
      rw [List.set_append_right _ _ (by omega), hl, Nat.sub_self, List.drop_eq_getElem_cons hk, List.set_cons_zero, List.take_succ_eq_append_getElem hk, List.map_append, List.append_assoc]
      rfl
    rw [e1]
    by_cases n : ρ[k] = .gone
    · have e2 : ((ρ.take k).map frzO ++ ρ.drop k).set k (frzO ρ[k]) = (ρ.take k).map frzO ++ ρ.drop k := by
        rw [List.set_append_right _ _ (by omega), hl, Nat.sub_self, List.drop_eq_getElem_cons hk, List.set_cons_zero, n]
        rfl
      rw [e2]
      exact ⟨F1, A1, s1, g1'⟩
    · have n' : gt ((ρ.take k).map frzO ++ ρ.drop k) k ≠ .gone := by rw [g1]; exact n
      obtain ⟨v, ev, _⟩ := (s1.sl k).own n'
      obtain ⟨F2, A2, s2, _, g2⟩ := freezeSlot s1 n' ev
      rw [g1] at s2
      rw [frzO_ne n]
      exact ⟨F2, A2, s2, g1'.trans g2⟩
theorem freezeAll' (s : Sto K cl F H σ ρ A) : ∃ F' A', Sto K cl F' H σ (ρ.map frzO) A' ∧ (∀ b, ¬ ownd A' b) ∧ Gr (ownd A) (ownd A') F H F' H := by
  obtain ⟨F', A', s', gg⟩ := freezeN' s ρ.length (Nat.le_refl _)
  rw [List.take_length, List.drop_length, List.append_nil] at s'
  refine ⟨F', A', s', fun b ⟨i, hi⟩ => ?_, gg⟩
  have z := s'.sl i
  have g : gt (ρ.map frzO) i = frzO (gt ρ i) := by
    unfold gt
    rw [List.getD_eq_getElem?_getD, List.getD_eq_getElem?_getD, List.getElem?_map]
    cases ρ[i]? <;> rfl
  rw [g] at z
  by_cases n : gt ρ i = .gone
  · rw [n] at z
    have z' : A' i = [] := z
    rw [z'] at hi
    cases hi
  · rw [frzO_ne n] at z
    obtain ⟨v, _, e, _⟩ := z
    rw [e] at hi
    cases hi
theorem own_list (s : Sto K cl F H σ ρ A) : ∃ L : List Addr, ∀ b, b ∈ L ↔ ownd A b := by
  refine ⟨(List.range ρ.length).flatMap A, fun b => ⟨fun h => ?_, fun ⟨i, hi⟩ => ?_⟩⟩
  · obtain ⟨i, _, hi⟩ := List.mem_flatMap.mp h
    exact ⟨i, hi⟩
  · refine List.mem_flatMap.mpr ⟨i, List.mem_range.mpr ?_, hi⟩
    refine gt_lt (ρ := ρ) fun z => ?_
    have := s.sl i
    rw [z] at this
    rw [show A i = [] from this] at hi
    cases hi
section
variable {L : List Addr} (hL : ∀ a ∈ L, Wr (H2 a)) (sb : Sb F2 H2)
include hL sb
theorem sqT_less' {a : Addr} {xs : List V} (q : SqT K F2 a xs) : SqT K (less F2 L) a xs := by
  rcases q with (q | ⟨o, q⟩) | q
  · refine .inl (.inl ?_)
    rw [less_out fun z => by have := hL a z; rw [(sb _ _ q).2 rfl] at this; exact this]
    exact q
  · refine .inl (.inr ⟨o, ?_⟩)
    rw [less_out fun z => by have := hL a z; rw [(sb _ _ q).2 rfl] at this; exact this]
    exact q
  · exact .inr q
mutual
theorem imm_less' : ∀ (d : D) (v : V), d.imm = true → Rep K cl F2 d v → Rep K cl (less F2 L) d v
  | .v x, _, _, r => r
  | .tup ds, _, h, ⟨a, vs, e, q, r⟩ => ⟨a, vs, e, (less_out fun z => by have := hL a z; rw [(sb _ _ q).2 rfl] at this; exact this).trans q, imms_less' ds vs h r⟩
  | .wtp ds, _, h, ⟨a, vs, e, q, r⟩ => ⟨a, vs, e, sqT_less' hL sb q, imms_less' ds vs h r⟩
theorem imms_less' : ∀ (ds : List D) (vs : List V), imms ds = true → Reps K cl F2 ds vs → Reps K cl (less F2 L) ds vs
  | [], _, _, r => r
  | d :: ds, _, h, ⟨u, us, e, r, q⟩ => ⟨u, us, e, imm_less' d u (Bool.and_eq_true_iff.mp h).1 r, imms_less' ds us (Bool.and_eq_true_iff.mp h).2 q⟩
end
end
/-- tells what t tells of the frozen state, where it is flat; the state stays -/
@[simp] def evViewI (t : Rho → Res OV) : Rho → Res OV := fun ρ => match t (ρ.map frzO) with
  | .ok (.o (.fz d)) _ => if d.imm = true then .ok (.o (.fz d)) ρ else .bad
  | _ => .bad
theorem ee_viewI {X : Cx} {W : WX} {e : Expr} {t : Rho → Res OV} (h : EE X cl W e t) : EE X cl W e (evViewI t) := by
  refine PE.imp h fun σ H Q ⟨F, ρ, A, s, q⟩ => ?_
  obtain ⟨F', A', s', no, g0⟩ := freezeAll' s
  refine ⟨F', _, A', s', ?_⟩
  unfold evViewI at q
  cases e1 : t (ρ.map frzO) with
  | bad => rw [e1] at q; exact q
  | err x ρ' => rw [e1] at q; exact q.elim
  | ok ov ρ' =>
    rw [e1] at q
    cases ov with
    | b i => exact q.elim
    | o o =>
      cases o with
      | fz d =>
        dsimp only at q
        by_cases hi : d.imm = true
        · rw [if_pos hi] at q
          intro v F2 H2 A2 B s2 g2 r nd dj
          have keep : ∀ c o, H c = some o → H2 c = some o := fun c o hc => g2.keep c o hc (no c)
          obtain ⟨L, hL⟩ := own_list s
          have at_ : ∀ a, a ∈ L → F a = none ∧ Wr (H2 a) := fun a ha => by
            obtain ⟨f0, w⟩ := s.at_ ((hL a).mp ha)
            obtain ⟨o, ho⟩ := wr_some w
            refine ⟨f0, ?_⟩
            rw [keep a o ho, ← ho]
            exact w
          have le : Le F (less F2 L) := fun a o ha => by
            rw [less_out fun z => by rw [(at_ a z).1] at ha; cases ha]
            exact g2.ff a o (g0.ff a o ha)
          obtain ⟨rfl, rr⟩ := r
          refine q v (less F2 L) H2 A [] (s.mono le (fun a o ha => ?_) fun b hb => ⟨less_in ((hL b).mpr hb), fun y hy => keep b y hy⟩) ⟨fun c o hc _ => keep c o hc, le, fun b w n => ?_, fun c hc => hc.elim .inl fun z => by cases z⟩ ⟨rfl, imm_less' (fun a ha => (at_ a ha).2) s2.sub d v hi rr⟩ List.nodup_nil fun c hc => by cases hc
          · by_cases z : a ∈ L
            · rw [less_in z] at ha; cases ha
            · rw [less_out z] at ha; exact s2.sub a o ha
          · rw [less_out fun z => n ((hL b).mp z), g2.new b w (no b)]
            exact g0.new b w n
        · rw [if_neg hi] at q
          exact q.elim
      | _ => exact q.elim
end
end
end DL
/-! DL49: isinstance(x, C), C a refusal's class, x a caught refusal or None. -/
namespace DL
open PySem L2
noncomputable section
section
variable {X : Cx} {cl : Nat → Addr} {W : WX}
@[simp] def evIsxN (tab : List (Nat × Bool)) (t : Rho → Res Opd) : Rho → Res OV := fun ρ => (t ρ).bind fun x ρ1 => match x with
  | .d (.exc c _) => (match tab.lookup c with
    | some b => .ok (ovB b) ρ1
    | none => .bad)
  | .d (.v .non) => .ok (ovB false) ρ1
  | _ => .bad
theorem kit_non_ref {K : PySem.W.Frag} {C : Addr} (h2 : PySem.W.isClsIn K C = true) (ht : PySem.W.typeIn K (.ref C) = some (.type "type")) (h4 : PySem.W.subIn K (.type "NoneType") (.ref C) = some false) : PySem.W.kitOne K (.type "NoneType") (.ref C) = some false := by
  unfold PySem.W.kitOne
  rw [if_neg (by simp)]
  unfold PySem.W.kitCls
  unfold PySem.W.isClsIn at h2
  dsimp only
  rw [if_pos (by rw [h2, ht]; rfl)]
  exact h4
theorem kit_non_ty {K : PySem.W.Frag} {T : String} (m : PySem.W.kitMeta T = true) (n : ((Value.type "NoneType") == (Value.type T)) = false) (h4 : PySem.W.subIn K (.type "NoneType") (.type T) = some false) : PySem.W.kitOne K (.type "NoneType") (.type T) = some false := by
  unfold PySem.W.kitOne
  rw [if_neg (by rw [n]; exact Bool.false_ne_true)]
  unfold PySem.W.kitCls
  dsimp only
  rw [if_pos m]
  exact h4
theorem ee_isxN {a b : Expr} {c : V} {cv : Value} {p pos : Pos} {tab : List (Nat × Bool)} {t : Rho → Res Opd} (hg : Gl X "isinstance") (hm : X.mg "isinstance" = none) (ha : EP' X cl W a t) (hb : PE X b (tC c)) (hcv : ∀ u, RelV c u → u = cv) (hk : ClsV c cv) (ht : IsTab X.K cl tab cv) (hn : PySem.W.kitOne X.K (.type "NoneType") cv = some false)
    (he : starEach [a, b] X.env = (false, eval a X.env) :: starEach [b] X.env := by rfl) (hs : starEach [b] X.env = (false, eval b X.env) :: starEach [] X.env := by rfl) (hpl : (backTo pos (starEach [b] X.env)).any (·.1) = false := by rfl) : EE X cl W (.Call (.Name "isinstance" p) [a, b] [] pos) (evIsxN tab t) := by
  refine PE.imp (PE.or (ee_isx (W := W) hg hm ha hb hcv ht he hs hpl) (pe_callB call_isi hg hm (by decide +kernel) (pa_cons ha (pa_cons hb pa_nil hs) he) (by decide) (by decide) he hpl)) fun σ H Q ⟨F, ρ, A, s, q⟩ => ?_
  unfold evIsxN at q
  cases e1 : t ρ with
  | bad => rw [e1] at q; exact q.elim
  | err x ρ' =>
    rw [e1] at q
    refine .inl ⟨F, ρ, A, s, ?_⟩
    unfold evIsx
    rw [e1]
    exact q
  | ok x ρ1 =>
    rw [e1] at q
    dsimp only [Res.bind] at q
    match x, q, e1 with
    | .d (.exc c1 fs), q, e1 =>
      refine .inl ⟨F, ρ, A, s, ?_⟩
      unfold evIsx
      rw [e1]
      exact q
    | .d (.v .non), q, e1 =>
      refine .inr ⟨F, ρ, A, s, ?_⟩
      rw [e1]
      intro v F1 H1 A1 s1 g1 p1
      obtain ⟨ev, _⟩ := p1
      subst ev
      exact ⟨.non, c, _, cv, false, rfl, hk, .base .non, hn, q _ F1 H1 A1 [] s1 (gr1 g1) (own_mk (H := H1)) List.nodup_nil fun b z => by cases z⟩
    | .d (.v (.bl _)), q, _ => exact q.elim
    | .d (.v (.int _)), q, _ => exact q.elim
    | .d (.v (.str _)), q, _ => exact q.elim
    | .d (.v (.byt _)), q, _ => exact q.elim
    | .d (.v (.flt _)), q, _ => exact q.elim
    | .d (.v (.ref _)), q, _ => exact q.elim
    | .d (.v (.ty _)), q, _ => exact q.elim
    | .d (.tup _), q, _ => exact q.elim
    | .d (.wtp _), q, _ => exact q.elim
    | .d (.lst _), q, _ => exact q.elim
    | .d (.wls _), q, _ => exact q.elim
    | .d (.dic _), q, _ => exact q.elim
    | .d (.dct _), q, _ => exact q.elim
    | .d (.ins _ _), q, _ => exact q.elim
    | .b _, q, _ => exact q.elim
end
end
end DL
/-! DL50: a def that calls itself: at depth 0 nothing is told. -/
namespace DL
open PySem L2
theorem fn_bad {P : Program} {w : World} {K : PySem.W.Frag} {mg : Str → Option Value} {base : Heap} {CX : CXT} {cl : Nat → Addr} {k : Nat} {f : Addr} {fd : FuncData} {ps : List Str} : FnOk P w K mg base CX k f fd ps (spD K cl fun _ => .bad) :=
  ⟨fun _ _ _ _ ⟨_, _, _, _, q⟩ => q.elim, fun _ _ _ _ _ _ _ _ _ _ _ _ _ ⟨_, _, _, _, q⟩ => q.elim⟩
end DL
/-! DL51: == and != of data of which one may be as deep as it will. -/
namespace DL
open PySem L2
noncomputable section
section
variable {X : Cx} {cl : Nat → Addr} {K : PySem.W.Frag}
@[simp] def deepB (p q : PyData) : Bool := p.canLay0 && q.canLay0 && decide (min p.depth q.depth ≤ 64)
@[simp] def pPD (g : PyData → PyData → Bool) : List D → Option OD
  | [a, b] => match a.py with
    | none => none
    | some p => match b.py with
      | none => none
      | some q => if deepB p q = true then some (.fz (.v (.bl (g p q)))) else none
  | _ => none
theorem pPD_some {g : PyData → PyData → Bool} {ds : List D} {o : OD} (h : pPD g ds = some o) : ∃ a b p q, ds = [a, b] ∧ a.py = some p ∧ b.py = some q ∧ deepB p q = true ∧ o = .fz (.v (.bl (g p q))) := by
  unfold pPD at h
  split at h
  · split at h
    · cases h
    · split at h
      · cases h
      · split at h
        · rename_i hc
          cases h
          exact ⟨_, _, _, _, rfl, by assumption, by assumption, hc, rfl⟩
        · cases h
  · cases h
theorem pr_pd {g : PyData → PyData → Bool} : PrimOk K cl (pPD g) (R2L fun x y H Q => ∃ d e, Dp K H x d ∧ Dp K H y e ∧ deepB d e = true ∧ Q (.bl (g d e)) H) := fun F H ds vs o Q sb r e q => by
  obtain ⟨a, b, p, p', rfl, e1, e2, s1, rfl⟩ := pPD_some e
  obtain ⟨x, y, rfl, rx, ry⟩ := reps2 r
  exact ⟨x, y, rfl, p, p', py_dp sb _ _ _ e1 rx, py_dp sb _ _ _ e2 ry, s1, vq_v trivial sb q⟩
theorem op_eqDp (hu : X.A.units + 64 < cLine) : OpR X (compareOp .Eq) (fun x y H Q => ∃ d e, Dp X.K H x d ∧ Dp X.K H y e ∧ deepB d e = true ∧ Q (.bl (PyData.eqv d e)) H) := by
  intro pins s σ H x y v u Q I rx ry h
  obtain ⟨d, e, hd, he, sd, q⟩ := h
  obtain ⟨as, r1⟩ := Dp.reads I d x v hd rx
  obtain ⟨bs, r2⟩ := Dp.reads I e y u he ry
  unfold deepB at sd
  have s1 := Bool.and_eq_true_iff.mp sd
  have s2 := Bool.and_eq_true_iff.mp s1.1
  have s3 := of_decide_eq_true s1.2
  exact SeqAt.compareEq_reads r1 r2 s2.1 s2.2 (by omega) ⟨.bl _, H, I, rfl, q⟩
theorem op_neDp (hu : X.A.units + 64 < cLine) : OpR X (compareOp .NotEq) (fun x y H Q => ∃ d e, Dp X.K H x d ∧ Dp X.K H y e ∧ deepB d e = true ∧ Q (.bl (!PyData.eqv d e)) H) := by
  intro pins s σ H x y v u Q I rx ry h
  obtain ⟨d, e, hd, he, sd, q⟩ := h
  obtain ⟨as, r1⟩ := Dp.reads I d x v hd rx
  obtain ⟨bs, r2⟩ := Dp.reads I e y u he ry
  unfold deepB at sd
  have s1 := Bool.and_eq_true_iff.mp sd
  have s2 := Bool.and_eq_true_iff.mp s1.1
  have s3 := of_decide_eq_true s1.2
  exact SeqAt.compareNe_reads r1 r2 s2.1 s2.2 (by omega) ⟨.bl _, H, I, rfl, q⟩
@[simp] def fEqP : List D → Option OD := pPD PyData.eqv
@[simp] def fNeP : List D → Option OD := pPD fun p q => !PyData.eqv p q
theorem op_EqP (hu : X.A.units + 64 < cLine) : ∃ r, OpR X (compareOp .Eq) r ∧ PrimOk X.K cl fEqP (R2L r) := ⟨_, op_eqDp hu, pr_pd⟩
theorem op_NeP (hu : X.A.units + 64 < cLine) : ∃ r, OpR X (compareOp .NotEq) r ∧ PrimOk X.K cl fNeP (R2L r) := ⟨_, op_neDp hu, pr_pd⟩
end
end
end DL
/-! DL52: tuple(range(e)). -/
namespace DL
open PySem L2
noncomputable section
section
variable {X : Cx} {cl : Nat → Addr} {W : WX} {a : Expr} {ta : Rho → Res Opd} {pos p p2 pos2 : Pos}
@[simp] def evTrng (ta : Rho → Res Opd) : Rho → Res OV := fun ρ => match ta ρ with
  | .ok (.d (.v (.int j))) ρ1 => if inZ j = true then .ok (.o (.fz (.tup (rngD 0 j.toNat)))) ρ1 else .bad
  | .ok _ _ => .bad
  | .err x ρ1 => .err x ρ1
  | .bad => .bad
theorem ee_trng (hc : X.calm = true) (hg : Gl X "tuple") (hm : X.mg "tuple" = none) (hg2 : Gl X "range") (hm2 : X.mg "range" = none) (ha : EP' X cl W a ta) (na : starEach [a] X.env = (false, eval a X.env) :: starEach [] X.env := by rfl)
    (nb : starEach [.Call (.Name "range" p2) [a] [] pos2] X.env = (false, eval (.Call (.Name "range" p2) [a] [] pos2) X.env) :: starEach [] X.env := by rfl) : EE X cl W (.Call (.Name "tuple" p) [.Call (.Name "range" p2) [a] [] pos2] [] pos) (evTrng ta) := by
  refine PE.imp (pe_tupRg hc hg hm (prg_1 hg2 hm2 ha na) nb) fun σ H Q ⟨F, ρ, A, s, q⟩ => ⟨F, ρ, A, s, ?_⟩
  unfold evTrng at q
  cases e1 : ta ρ with
  | bad => rw [e1] at q; exact q
  | err x ρ' => rw [e1] at q; exact q
  | ok o ρ1 =>
    rw [e1] at q
    intro v F1 H1 A1 s1 g1 p1
    cases o with
    | b _ => exact q.elim
    | d d =>
      cases d with
      | v x =>
        cases x with
        | int j =>
          dsimp only at q
          by_cases hb : inZ j = true
          · rw [if_pos hb] at q
            obtain ⟨h1, h2⟩ := inZ_iff.mp hb
            refine ⟨j, p1.1, RgOk.of_le (by decide) h2 (by decide) h1, fun l hl => ?_⟩
            refine vq_tup (K := X.K) (cl := cl) (F := F1) rng_reps s1.sub (fun v F' H' B r nd sb g => ?_) l hl
            refine q v F' H' A1 B (s1.mono g.ff sb fun b hb => ⟨?_, fun y hy => g.keep b y hy id⟩) (g1.trans ⟨fun b o h n => g.keep b o h id, g.ff, fun b w n => g.new b w id, fun b h => h.elim .inl fun h => (g.ow b h).elim (fun z => z.elim) .inr⟩) r nd fun b hb z => ?_
            · rw [g.new b (s1.at_ hb).2 id]
              exact (s1.at_ hb).1
            · rcases g.ow b hb with y | y
              · exact y
              · have := (s1.at_ z).2
                rw [y] at this
                exact this
          · rw [if_neg hb] at q
            exact q.elim
        | _ => exact q.elim
      | _ => exact q.elim
end
end
end DL
/-! DL53: parameters that are given away: the caller keeps nothing of them. -/
namespace DL
open PySem L2
/-- the arguments behind the call: what is not the callee's stays, what was given away is gone -/
@[simp] def outsT (tk : List Nat) : Nat → Rho → Rho → Option Rho
  | _, [], _ => some []
  | k, a :: as, ρ => match outsT tk (k + 1) as ρ.tail with
    | none => none
    | some os => if tk.contains k = true then some (.gone :: os) else (match a with
      | .fz d => some (.fz d :: os)
      | .gone => none
      | _ => (match ρ.head? with
        | some (.fz _) => none
        | some .gone => none
        | none => none
        | some o => some (o :: os)))
@[simp] def outR (o : OD) : Option Rho → Res OD
  | some os => .ok o os
  | none => .bad
def fnT (tk pn : List Nat) (n m : Nat) (body : Rho → Res Fl) : FS := fun args =>
  if (args.length == n && (ownIx 0 args).all fun i => pn.contains i || tk.contains i) = true then (match body (args ++ List.replicate (m - n) .gone) with
    | .ok .next ρ => outR (.fz (.v .non)) (outsT tk 0 args ρ)
    | .ok (.ret (.o o)) ρ => outR o (outsT tk 0 args ρ)
    | .ok (.ret (.b i)) ρ => (match gt ρ i with
      | .gone => .bad
      | o => outR o (outsT tk 0 args (ρ.set i .gone)))
    | .err x ρ => (match outsT tk 0 args ρ with
      | some os => .err x os
      | none => .bad)
    | _ => .bad) else .bad
section
variable {K : PySem.W.Frag} {cl : Nat → Addr} {F F' F1 H H' H1 : Hp} {σ σ' : L2.St} {ρ ρ' : Rho} {A A' : Nat → List Addr}
theorem outsT_at {tk : List Nat} : ∀ {as ρ os : Rho} {k : Nat}, outsT tk k as ρ = some os → os.length = as.length ∧ ∀ i, i < as.length → (tk.contains (k + i) = true ∧ gt os i = .gone) ∨ (tk.contains (k + i) = false ∧ ((∃ d, gt as i = .fz d ∧ gt os i = .fz d) ∨ (isFz (gt as i) = false ∧ gt os i = gt ρ i ∧ gt ρ i ≠ .gone)))
  | [], ρ, os, k, h => by cases h; exact ⟨rfl, fun i hi => by cases hi⟩
  | a :: as, ρ, os, k, h => by
    have tailgt : ∀ i, gt ρ.tail i = gt ρ (i + 1) := fun i => by
      cases ρ with
      | nil => rfl
      | cons r ρ => rfl
    unfold outsT at h
    cases e1 : outsT tk (k + 1) as ρ.tail with
    | none => rw [e1] at h; cases h
    | some os' =>
      rw [e1] at h
      dsimp only at h
      obtain ⟨l, ih⟩ := outsT_at e1
      have step : ∀ {o : OD}, os = o :: os' → ((tk.contains k = true ∧ o = .gone) ∨ (tk.contains k = false ∧ ((∃ d, a = .fz d ∧ o = .fz d) ∨ (isFz a = false ∧ o = gt ρ 0 ∧ gt ρ 0 ≠ .gone)))) →
          os.length = (a :: as).length ∧ ∀ i, i < (a :: as).length → (tk.contains (k + i) = true ∧ gt os i = .gone) ∨ (tk.contains (k + i) = false ∧ ((∃ d, gt (a :: as) i = .fz d ∧ gt os i = .fz d) ∨ (isFz (gt (a :: as) i) = false ∧ gt os i = gt ρ i ∧ gt ρ i ≠ .gone))) := fun {o} e2 h0 => by
        subst e2
        refine ⟨by rw [List.length_cons, List.length_cons, l], fun i hi => ?_⟩
        cases i with
        | zero => exact h0
        | succ i =>
          have := ih i (by rw [List.length_cons] at hi; omega)
          rw [tailgt, Nat.add_right_comm, Nat.add_assoc] at this
          exact this
      cases hk : tk.contains k with
      | true =>
        rw [hk, if_pos rfl] at h
        exact step (Option.some.inj h).symm (.inl ⟨hk, rfl⟩)
      | false =>
        rw [hk, if_neg (by decide)] at h
        have own : ∀ {o : OD}, isFz a = false → (match ρ.head? with
            | some (.fz _) => none
            | some .gone => none
            | none => none
            | some o => some (o :: os')) = some os → os.length = (a :: as).length ∧ ∀ i, i < (a :: as).length → (tk.contains (k + i) = true ∧ gt os i = .gone) ∨ (tk.contains (k + i) = false ∧ ((∃ d, gt (a :: as) i = .fz d ∧ gt os i = .fz d) ∨ (isFz (gt (a :: as) i) = false ∧ gt os i = gt ρ i ∧ gt ρ i ≠ .gone))) := fun {o} ha hh => by
          cases ρ with
          | nil => cases hh
          | cons r ρ =>
            cases r with
            | fz _ => cases hh
            | gone => cases hh
            | _ => exact step (Option.some.inj hh).symm (.inr ⟨hk, .inr ⟨ha, rfl, by intro z; cases z⟩⟩)
        cases a with
        | fz d => exact step (Option.some.inj h).symm (.inr ⟨hk, .inl ⟨d, rfl, rfl⟩⟩)
        | gone => cases h
        | _ => exact own (o := .gone) rfl h
/-- behind the body: the arguments again -/
theorem sto_outsT {tk : List Nat} {vs : List V} {as os : Rho} (s : Sto K cl F H (vs.map some) as A) (s' : Sto K cl F' H' σ' ρ' A') (g : Le F F') (e : outsT tk 0 as ρ' = some os) (pin : ∀ i, i < as.length → isFz (gt as i) = false → tk.contains i = false → σ'[i]? = (vs.map some)[i]?) :
    Sto K cl F' H' (vs.map some) os (fun i => if i < as.length ∧ isFz (gt as i) = false ∧ tk.contains i = false then A' i else []) ∧ (∀ b, ownd (fun i => if i < as.length ∧ isFz (gt as i) = false ∧ tk.contains i = false then A' i else []) b → ownd A' b) := by
  obtain ⟨l, h⟩ := outsT_at e
  refine ⟨⟨s'.sub, by rw [l]; exact s.len, fun i => ?_, fun i j n b hi hj => ?_, fun i => ?_⟩, fun b ⟨i, hi⟩ => ?_⟩
  · by_cases hi : i < as.length
    · have hh := h i hi
      rw [Nat.zero_add] at hh
      rcases hh with ⟨h1, h2⟩ | ⟨h0, ⟨d, h1, h2⟩ | ⟨h1, h3, h4⟩⟩
      · rw [h2, if_neg (fun z => by rw [h1] at z; cases z.2.2)]
        rfl
      · rw [h2, h1, if_neg (fun z => by cases z.2.1)]
        have := s.sl i
        rw [h1] at this
        obtain ⟨v, ev, _, r⟩ := this
        exact ⟨v, ev, rfl, rep_mono g _ _ r⟩
      · rw [if_pos ⟨hi, h1, h0⟩, h3, ← pin i hi h1 h0]
        exact s'.sl i
    · rw [if_neg (fun z => hi z.1)]
      have : gt os i = .gone := by
        show os.getD i .gone = .gone
        rw [List.getD_eq_getElem?_getD, List.getElem?_eq_none (by omega)]
        rfl
      rw [this]
      rfl
  · try dsimp only at hi hj
    split at hi
    · split at hj
      · exact s'.dis i j n b hi hj
      · cases hj
    · cases hi
  · try dsimp only
    split
    · exact s'.nd i
    · exact List.nodup_nil
  · try dsimp only at hi
    split at hi
    · exact ⟨i, hi⟩
    · cases hi
end
section
variable {P : Program} {w : World} {K : PySem.W.Frag} {mg : Str → Option Value} {base : Heap} {cl : Nat → Addr}
theorem spD_lenT {tk pn : List Nat} {n m : Nat} {body : Rho → Res Fl} (vs : List V) (H : Hp) (Q : VK) (E : XK) (h : spD K cl (fnT tk pn n m body) vs H Q E) : vs.length = n := by
  obtain ⟨F, ρ, A, s, q⟩ := h
  by_cases e : ρ.length = n
  · have := s.len
    rw [List.length_map] at this
    omega
  · exfalso
    unfold FS.ov fnT at q
    rw [if_neg (fun z => e (beq_iff_eq.mp (Bool.and_eq_true_iff.mp z).1))] at q
    exact q
theorem fn_okT {x qual : Str} {st : Stmt} {f : Addr} {fd : FuncData} {N ps : List Str} {k n m : Nat} {tk pn : List Nat} {body : Rho → Res Fl} (Fn : Fun K x qual st f fd) (S : FnScope N ps (defScope st)) (hn : ps.length = n) (hm : N.length = m)
    (hb : ∀ (cdv : Value) (A : Around) (outer : List Env) (s : Shared) (H : Hp) (E : XK), Room k (A.deeper (PyProof.Rows.envOfC qual (defScope st) s.heap.objs.size f cdv)) → ESs (cxOf (L2.CX P w) P w K mg base N qual (defScope st) f cdv A outer s H E) cl pn (wE E) (defBody st) body) :
    FnOk P w K mg base (L2.CX P w) (k + 1) f fd ps (spD K cl (fnT tk pn n m body)) := by
  refine Fn.okX S (fun vs H Q E h => (spD_lenT vs H Q E h).trans hn.symm) fun cdv Ar outer s H vs Q E hr h => ?_
  have hl := spD_lenT vs H Q E h
  refine ⟨_, hb cdv Ar outer s H E hr, ?_⟩
  obtain ⟨F, as, A, s0, q⟩ := h
  unfold FS.ov fnT at q
  by_cases hc : (as.length == n && (ownIx 0 as).all fun i => pn.contains i || tk.contains i) = true
  · rw [if_pos hc] at q
    obtain ⟨hc1, hc2⟩ := Bool.and_eq_true_iff.mp hc
    have hal : as.length = n := beq_iff_eq.mp hc1
    have es : L2.start N vs = vs.map some ++ List.replicate (m - n) none := by
      unfold L2.start
      rw [hm, hl]
    rw [es]
    refine ⟨F, as ++ List.replicate (m - n) OD.gone, A, sto_start s0, ?_⟩
    have pin : ∀ {σ' : L2.St}, (∀ i ∈ pn, σ'[i]? = (vs.map some ++ List.replicate (m - n) none)[i]?) → ∀ i, i < as.length → isFz (gt as i) = false → tk.contains i = false → σ'[i]? = (vs.map some)[i]? := fun {σ'} p i hi hf ht => by
      have : (0 + i) ∈ ownIx 0 as := ownIx_mem hi hf
      rw [Nat.zero_add] at this
      have hpn : i ∈ pn := by
        have := List.all_eq_true.mp hc2 i this
        rw [ht, Bool.or_false] at this
        simpa using this
      rw [p i hpn, List.getElem?_append_left (by rw [List.length_map, hl]; omega)]
    cases e : body (as ++ List.replicate (m - n) .gone) with
    | bad => rw [e] at q; exact q
    | err x ρ' =>
      rw [e] at q
      intro σ' F' H' A' c a s' g' p' ex
      dsimp only at q
      cases e2 : outsT tk 0 as ρ' with
      | none => rw [e2] at q; exact q.elim
      | some os =>
        rw [e2] at q
        obtain ⟨s2, w2⟩ := sto_outsT s0 s' g'.ff e2 (pin p')
        exact q F' H' _ c a s2 (g'.sub w2) ex
    | ok fl ρ' =>
      rw [e] at q
      cases fl with
      | next =>
        intro σ' F' H' A' s' g' p'
        dsimp only at q
        cases e2 : outsT tk 0 as ρ' with
        | none => rw [e2] at q; exact q.elim
        | some os =>
          rw [e2] at q
          obtain ⟨s2, w2⟩ := sto_outsT s0 s' g'.ff e2 (pin p')
          exact q .non F' H' _ [] s2 (gr1 (g'.sub w2)) ⟨rfl, rfl, trivial⟩ List.nodup_nil fun b z => by cases z
      | brk => exact q.elim
      | cont => exact q.elim
      | ret ov =>
        intro v σ' F' H' A' B s' g' p' r nd dj
        cases ov with
        | o o =>
          dsimp only at q
          cases e2 : outsT tk 0 as ρ' with
          | none => rw [e2] at q; exact q.elim
          | some os =>
            rw [e2] at q
            obtain ⟨s2, w2⟩ := sto_outsT s0 s' g'.ff e2 (pin p')
            exact q v F' H' _ B s2 (g'.sub fun b z => z.elim (fun z => .inl (w2 b z)) .inr) r nd fun b hb z => dj b hb (w2 b z)
        | b i =>
          obtain ⟨rfl, hv⟩ := r
          dsimp only at q
          have n1 : gt ρ' i ≠ .gone := fun z => by
            rw [z] at q
            exact q
          have q' : match outsT tk 0 as (ρ'.set i .gone) with
            | some os => ∀ v F' H' A' B, Sto K cl F' H' (vs.map some) os A' → Gr (ownd A) (fun b => ownd A' b ∨ b ∈ B) F H F' H' → Own K cl F' H' (gt ρ' i) v B → B.Nodup → (∀ b ∈ B, ¬ ownd A' b) → Q v H'
            | none => False := by
            cases e2 : outsT tk 0 as (ρ'.set i .gone) with
            | none =>
              rw [e2] at q
              cases z : gt ρ' i with
              | gone => exact n1 z
              | _ => rw [z] at q; exact q
            | some os =>
              rw [e2] at q
              cases z : gt ρ' i with
              | gone => exact absurd z n1
              | _ => rw [z] at q; exact q
          cases e2 : outsT tk 0 as (ρ'.set i .gone) with
          | none => rw [e2] at q'; exact q'.elim
          | some os =>
            rw [e2] at q'
            obtain ⟨v', ev, r⟩ := (s'.sl i).own n1
            rw [hv] at ev
            cases ev
            have s1 := s'.drop (i := i) (x := some v)
            rw [sigma_set_self hv] at s1
            obtain ⟨s2, w2⟩ := sto_outsT s0 s1 g'.ff e2 (pin p')
            have w3 : ∀ b, ownd (fun j => if j = i then [] else A' j) b → ownd A' b := fun b ⟨j, hj⟩ => by
              dsimp only at hj
              split at hj
              · cases hj
              · exact ⟨j, hj⟩
            refine q' v F' H' _ (A' i) s2 ((gr0 g').sub fun b z => z.elim (fun z => w3 b (w2 b z)) fun z => ⟨i, z⟩) r (s'.nd i) fun b hb z => ?_
            obtain ⟨j, hj⟩ := w2 b z
            dsimp only at hj
            split at hj
            · cases hj
            · rename_i hji
              exact s'.dis j i hji b hj hb
  · rw [if_neg hc] at q
    exact q.elim
end
end DL
/-! DL54: a step in whose course one owner is frozen; what it tells, and what else it changes, is plain. -/
namespace DL
open PySem L2
def ownB : OD → Bool
  | .fz _ => false
  | .gone => false
  | _ => true
theorem ownB_t {o : OD} (h1 : isFz o = false) (h2 : o ≠ .gone) : ownB o = true := by
  cases o with
  | fz _ => cases h1
  | gone => exact absurd rfl h2
  | _ => rfl
@[simp] def keepO (ρ' : Rho) : Nat → Rho → Option Rho
  | _, [] => some []
  | i, o :: ρ => match keepO ρ' (i + 1) ρ with
    | none => none
    | some r => match o with
      | .fz d => some (.fz d :: r)
      | .gone => some (.gone :: r)
      | _ => if (gt ρ' i).imm = true then some (gt ρ' i :: r) else none
@[simp] def endK (k : Nat) (o : OD) (ρ : Rho) (r : Res OV) : Res OV := match r with
  | .ok (.o x) ρ' => if x.imm = true then (match keepO ρ' 0 (ρ.set k .gone) with
    | some ρ2 => .ok (.o x) (ρ2.set k o)
    | none => .bad) else .bad
  | _ => .bad
@[simp] def evViewK (k : Nat) (t : Rho → Res OV) : Rho → Res OV := fun ρ => match gt ρ k with
  | .gone => .bad
  | o => endK k o ρ (t (ρ.set k (.fz o.toD)))
section
variable {K : PySem.W.Frag} {cl : Nat → Addr} {F F' H H' : Hp} {σ : L2.St} {ρ ρ' : Rho} {A A' : Nat → List Addr}
theorem keepO_at {ρ' : Rho} : ∀ {ρ r : Rho} {i : Nat}, keepO ρ' i ρ = some r → r.length = ρ.length ∧ ∀ j, j < ρ.length → ((∃ d, gt ρ j = .fz d ∧ gt r j = .fz d) ∨ (gt ρ j = .gone ∧ gt r j = .gone) ∨ (isFz (gt ρ j) = false ∧ gt ρ j ≠ .gone ∧ gt r j = gt ρ' (i + j) ∧ (gt ρ' (i + j)).imm = true))
  | [], r, i, h => by cases h; exact ⟨rfl, fun j hj => by cases hj⟩
  | o :: ρ, r, i, h => by
    unfold keepO at h
    cases e : keepO ρ' (i + 1) ρ with
    | none => rw [e] at h; cases h
    | some r' =>
      rw [e] at h
      dsimp only at h
      obtain ⟨l, ih⟩ := keepO_at e
      have step : ∀ {x : OD}, r = x :: r' → ((∃ d, o = .fz d ∧ x = .fz d) ∨ (o = .gone ∧ x = .gone) ∨ (isFz o = false ∧ o ≠ .gone ∧ x = gt ρ' i ∧ (gt ρ' i).imm = true)) → r.length = (o :: ρ).length ∧ ∀ j, j < (o :: ρ).length → ((∃ d, gt (o :: ρ) j = .fz d ∧ gt r j = .fz d) ∨ (gt (o :: ρ) j = .gone ∧ gt r j = .gone) ∨ (isFz (gt (o :: ρ) j) = false ∧ gt (o :: ρ) j ≠ .gone ∧ gt r j = gt ρ' (i + j) ∧ (gt ρ' (i + j)).imm = true)) := fun {x} e2 h0 => by
        subst e2
        refine ⟨by rw [List.length_cons, List.length_cons, l], fun j hj => ?_⟩
        cases j with
        | zero => exact h0
        | succ j =>
          have := ih j (by rw [List.length_cons] at hj; omega)
          rw [Nat.add_right_comm, Nat.add_assoc] at this
          exact this
      have own : isFz o = false → o ≠ .gone → (if (gt ρ' i).imm = true then some (gt ρ' i :: r') else none) = some r → r.length = (o :: ρ).length ∧ ∀ j, j < (o :: ρ).length → ((∃ d, gt (o :: ρ) j = .fz d ∧ gt r j = .fz d) ∨ (gt (o :: ρ) j = .gone ∧ gt r j = .gone) ∨ (isFz (gt (o :: ρ) j) = false ∧ gt (o :: ρ) j ≠ .gone ∧ gt r j = gt ρ' (i + j) ∧ (gt ρ' (i + j)).imm = true)) := fun h1 h2 hh => by
        by_cases hi : (gt ρ' i).imm = true
        · rw [if_pos hi] at hh
          exact step (Option.some.inj hh).symm (.inr (.inr ⟨h1, h2, rfl, hi⟩))
        · rw [if_neg hi] at hh
          cases hh
      cases o with
      | fz d => exact step (Option.some.inj h).symm (.inl ⟨d, rfl, rfl⟩)
      | gone => exact step (Option.some.inj h).symm (.inr (.inl ⟨rfl, rfl⟩))
      | _ => exact own rfl (by intro z; cases z) h
theorem gt_set_ne {k j : Nat} {o : OD} (h : j ≠ k) : gt (ρ.set k o) j = gt ρ j := by
  show (ρ.set k o).getD j .gone = ρ.getD j .gone
  rw [List.getD_eq_getElem?_getD, List.getD_eq_getElem?_getD, List.getElem?_set_ne (Ne.symm h)]
theorem gt_set_eq {k : Nat} {o : OD} (h : k < ρ.length) : gt (ρ.set k o) k = o := by
  show (ρ.set k o).getD k .gone = o
  rw [List.getD_eq_getElem?_getD, List.getElem?_set_self h]
  rfl
theorem le_viewK {W : WX} {t : Rho → Res OV} {k : Nat} {Q : VK} (h : LE K cl W (evViewK k t) σ H Q) : LE K cl W t σ H Q := by
  obtain ⟨F, ρ, A, s, q⟩ := h
  have n : gt ρ k ≠ .gone := fun z => by
    unfold evViewK at q
    rw [z] at q
    exact q
  have qq : match endK k (gt ρ k) ρ (t (ρ.set k (.fz (gt ρ k).toD))) with
      | .ok ov ρ' => ∀ v F' H' A' B, Sto K cl F' H' σ ρ' A' → Gr (ownd A) (fun b => ownd A' b ∨ b ∈ B) F H F' H' → VOk K cl F' H' σ ov v B → B.Nodup → (∀ b ∈ B, ¬ ownd A' b) → Q v H'
      | .err x ρ' => ErrQ K cl W (ownd A) F H σ x ρ'
      | .bad => False := by
    unfold evViewK at q
    cases z : gt ρ k with
    | gone => exact absurd z n
    | _ => rw [z] at q; exact q
  have kl := gt_lt n
  obtain ⟨v0, ev0, r0⟩ := (s.sl k).own n
  -- slot k is frozen
  have s1 := s.drop (i := k) (x := some v0)
  have dj : ∀ b ∈ A k, ¬ ownd (fun j => if j = k then [] else A j) b := fun b hb ⟨j, hj⟩ => by
    dsimp only at hj
    by_cases e : j = k
    · rw [if_pos e] at hj; cases hj
    · rw [if_neg e] at hj
      exact s.dis j k e b hj hb
  obtain ⟨s2, r2, le, out⟩ := freeze s1 r0 dj
  have s3 := s2.put (i := k) (v := v0) (o := .fz (gt ρ k).toD) (B := []) (by rw [List.length_set]; exact kl) ⟨rfl, r2⟩ List.nodup_nil (fun b hb => by cases hb)
  rw [List.set_set, List.set_set] at s3
  have eσ : σ.set k (some v0) = σ := by
    apply List.ext_getElem?
    intro j
    by_cases e : j = k
    · subst e
      rw [List.getElem?_set_self (by rw [← s.len]; exact kl), ev0]
    · rw [List.getElem?_set_ne (Ne.symm e)]
  rw [eσ] at s3
  have sub1 : ∀ b, ownd (fun j => if j = k then [] else if j = k then [] else A j) b → ownd A b ∧ b ∉ A k := fun b ⟨j, hj⟩ => by
    dsimp only at hj
    by_cases e : j = k
    · rw [if_pos e] at hj; cases hj
    · rw [if_neg e, if_neg e] at hj
      exact ⟨⟨j, hj⟩, fun z => s.dis j k e b hj z⟩
  refine ⟨_, _, _, s3, ?_⟩
  cases e1 : t (ρ.set k (.fz (gt ρ k).toD)) with
  | bad => rw [e1] at qq; exact qq.elim
  | err x ρ' => rw [e1] at qq; exact qq.elim
  | ok ov ρ' =>
    rw [e1] at qq
    cases ov with
    | b i => exact qq.elim
    | o x =>
      dsimp only [endK] at qq
      by_cases hx : x.imm = true
      · rw [if_pos hx] at qq
        cases e2 : keepO ρ' 0 (ρ.set k .gone) with
        | none => rw [e2] at qq; exact qq.elim
        | some ρ2 =>
          rw [e2] at qq
          dsimp only at qq
          obtain ⟨l2, at2⟩ := keepO_at e2
          rw [List.length_set] at l2 at2
          intro v F2 H2 A2 B s4 g r nd dB
          have hL : ∀ a ∈ A k, F a = none ∧ Wr (H a) := fun a ha => s.at_ ⟨k, ha⟩
          have no1 : ∀ a ∈ A k, ¬ ownd (fun j => if j = k then [] else if j = k then [] else A j) a := fun a ha z => (sub1 a z).2 ha
          have hWr : ∀ a ∈ A k, Wr (F2 a) := fun a ha => by
            rw [g.new a (hL a ha).2 (no1 a ha), plus_in ha]
            exact (hL a ha).2
          have le2 : Le F (less F2 (A k)) := fun a y hy => by
            rw [less_out fun z => by rw [(hL a z).1] at hy; cases hy]
            exact g.ff a y (le a y hy)
          have fresh : ∀ b, (ownd A2 b ∨ b ∈ B) → b ∉ A k := fun b hb z => by
            rcases g.ow b hb with w | w
            · exact (sub1 b w).2 z
            · have := (hL b z).2
              rw [w] at this
              exact this
          let AA : Nat → List Addr := fun j => if j = k then A k else if ownB (gt ρ j) = true then A2 j else []
          have inA2 : ∀ j b, j ≠ k → b ∈ AA j → b ∈ A2 j := fun j b hj hb => by
            have hb : b ∈ (if j = k then A k else if ownB (gt ρ j) = true then A2 j else []) := hb
            rw [if_neg hj] at hb
            split at hb
            · exact hb
            · cases hb
          have atk : AA k = A k := if_pos rfl
          have len2 : k < ρ2.length := by rw [l2]; exact kl
          refine qq v (less F2 (A k)) H2 AA B ⟨fun a y hy => ?_, ?_, fun i => ?_, fun i j nij b hi hj => ?_, fun i => ?_⟩ ⟨fun b y hy nb => g.keep b y hy fun z => nb (sub1 b z).1, le2, fun b w nb => ?_, fun b hb => ?_⟩ (oimm_less hWr x v B hx r) nd fun b hb ⟨j, hj⟩ => ?_
          · by_cases z : a ∈ A k
            · rw [less_in z] at hy; cases hy
            · rw [less_out z] at hy; exact s4.sub a y hy
          · rw [List.length_set, l2, s.len]
          · by_cases ik : i = k
            · subst ik
              rw [gt_set_eq len2, atk]
              exact (s.sl i).mono le2 fun a ha => ⟨less_in ha, fun y hy => g.keep a y hy (no1 a ha)⟩
            · rw [gt_set_ne ik]
              by_cases il : i < ρ.length
              · have h0 := at2 i il
                rw [gt_set_ne ik, Nat.zero_add] at h0
                rcases h0 with ⟨d, h1, h2⟩ | ⟨h1, h2⟩ | ⟨h1, h2, h3, h4⟩
                · have hA : AA i = [] := by
                    show (if i = k then A k else if ownB (gt ρ i) = true then A2 i else []) = []
                    rw [if_neg ik, h1]; rfl
                  rw [h2, hA]
                  have := s.sl i
                  rw [h1] at this
                  obtain ⟨u, eu, _, ru⟩ := this
                  exact ⟨u, eu, rfl, rep_mono le2 _ _ ru⟩
                · have hA : AA i = [] := by
                    show (if i = k then A k else if ownB (gt ρ i) = true then A2 i else []) = []
                    rw [if_neg ik, h1]; rfl
                  rw [h2, hA]
                  rfl
                · have hA : AA i = A2 i := by
                    show (if i = k then A k else if ownB (gt ρ i) = true then A2 i else []) = A2 i
                    rw [if_neg ik, if_pos (ownB_t h1 h2)]
                  rw [h3, hA]
                  have sk := s4.sl i
                  by_cases ng : gt ρ' i = .gone
                  · rw [ng] at sk ⊢
                    exact sk
                  · obtain ⟨u, eu, ru⟩ := sk.own ng
                    exact .mk eu (oimm_less hWr _ _ _ h4 ru)
              · have g0 : gt ρ2 i = .gone := by
                  show ρ2.getD i .gone = .gone
                  rw [List.getD_eq_getElem?_getD, List.getElem?_eq_none (by omega)]
                  rfl
                have g1 : gt ρ i = .gone := by
                  show ρ.getD i .gone = .gone
                  rw [List.getD_eq_getElem?_getD, List.getElem?_eq_none (by omega)]
                  rfl
                have hA : AA i = [] := by
                  show (if i = k then A k else if ownB (gt ρ i) = true then A2 i else []) = []
                  rw [if_neg ik, g1]; rfl
                rw [g0, hA]
                rfl
          · by_cases ik : i = k
            · subst ik
              rw [atk] at hi
              exact fresh b (.inl ⟨j, inA2 j b (Ne.symm nij) hj⟩) hi
            · by_cases jk : j = k
              · subst jk
                rw [atk] at hj
                exact fresh b (.inl ⟨i, inA2 i b ik hi⟩) hj
              · exact s4.dis i j nij b (inA2 i b ik hi) (inA2 j b jk hj)
          · by_cases ik : i = k
            · subst ik
              rw [atk]
              exact s.nd i
            · show (if i = k then A k else if ownB (gt ρ i) = true then A2 i else []).Nodup
              rw [if_neg ik]
              split
              · exact s4.nd i
              · exact List.nodup_nil
          · have nk : b ∉ A k := fun z => nb ⟨k, z⟩
            rw [less_out nk, g.new b w fun z => nb (sub1 b z).1, plus_out nk]
          · rcases hb with ⟨j, hj⟩ | hb
            · by_cases jk : j = k
              · subst jk
                rw [atk] at hj
                exact .inl ⟨j, hj⟩
              · exact (g.ow b (.inl ⟨j, inA2 j b jk hj⟩)).elim (fun z => .inl (sub1 b z).1) .inr
            · exact (g.ow b (.inr hb)).elim (fun z => .inl (sub1 b z).1) .inr
          · by_cases jk : j = k
            · subst jk
              rw [atk] at hj
              exact fresh b (.inr hb) hj
            · exact dB b hb ⟨j, inA2 j b jk hj⟩
      · rw [if_neg hx] at qq
        exact qq.elim
theorem ee_viewK {X : Cx} {W : WX} {e : Expr} {t : Rho → Res OV} {k : Nat} (h : EE X cl W e t) : EE X cl W e (evViewK k t) :=
  PE.imp h fun σ H Q q => le_viewK q
end
end DL
/-! DL55: zip of a tuple with a list. -/
namespace DL
open PySem PySem.Spec PyProof.Rows L2
/-- the tuple at a and the list at b as they stand at each turn, the items in new pairs -/
def ItzM (K : PySem.W.Frag) (a b : Addr) : It where
  go i H := ∃ (xs ys : List V) (x y : V), SqT K H a xs ∧ SqL K H b ys ∧ xs[i]? = some x ∧ ys[i]? = some y
  yld i H v H' := ∃ T x y, v = .ref T ∧ H T = none ∧ H' = upd H T (.tup [x, y]) ∧ (∀ xs, SqT K H a xs → xs[i]? = some x) ∧ ∀ ys, SqL K H b ys → ys[i]? = some y
  stop i H := ∃ xs ys : List V, SqT K H a xs ∧ SqL K H b ys ∧ (xs.length ≤ i ∨ ys.length ≤ i)
/-- a zip's cells, the iterators at the i-th items -/
def StM (z TI TO i1 i2 a b : Addr) (i : Nat) (h : Heap) : Prop := IsZip h z TI TO .none ∧ IsTupOf2 h TI (.ref i1) (.ref i2) ∧ (∃ x y, IsTupOf2 h TO x y) ∧ h.IsTupleIter i1 a i ∧ h.IsListIter i2 b i
theorem mem5 {z TI TO i1 i2 c : Addr} (h : c ∈ [z, TI, TO, i1, i2]) : c = z ∨ c = TI ∨ c = TO ∨ c = i1 ∨ c = i2 := by simpa using h
/-- an iterator that stands behind the end -/
theorem drawT {prog : Program} {w : World} {A : Around} {i : Nat} (hh : A.handled = none) (it t : Addr) (items : Array Value) (h : items.size ≤ i) : Draws prog w A it [it, t] i (fun _ _ => True) (fun k h => k = i ∧ h.IsTupleIter it t i ∧ h.IsTuple t items) where
  live := fun _ _ st => let ⟨o, ho, _⟩ := st.2.1; ⟨o, ho⟩
  frame := fun _ _ _ st hk => ⟨st.1, st.2.1.at fun o e => hk it (by simp) o e, st.2.2.at fun o e => hk t (by simp) o e⟩
  item := fun k s Q E hk st hQ => absurd st.1 (Nat.ne_of_lt hk)
  done := fun s Q E st hE => wpAny_nextOf_tuple_end hh st.2.1 st.2.2 (by rw [Array.getElem?_eq_none h]) hE
theorem drawL {prog : Program} {w : World} {A : Around} {i : Nat} (hh : A.handled = none) (it t : Addr) (items : Array Value) (h : items.size ≤ i) : Draws prog w A it [it, t] i (fun _ _ => True) (fun k h => k = i ∧ h.IsListIter it t i ∧ h.IsList t items) where
  live := fun _ _ st => let ⟨o, ho, _⟩ := st.2.1; ⟨o, ho⟩
  frame := fun _ _ _ st hk => ⟨st.1, st.2.1.at fun o e => hk it (by simp) o e, st.2.2.at fun o e => hk t (by simp) o e⟩
  item := fun k s Q E hk st hQ => absurd st.1 (Nat.ne_of_lt hk)
  done := fun s Q E st hE => wpAny_nextOf_list_end hh st.2.1 st.2.2 (by rw [Array.getElem?_eq_none h]) hE
theorem turn_zipM {P : Program} {w : World} {K : PySem.W.Frag} {elts : List Expr} {kk : Nat} {tpos : Pos} {a b z TI TO i1 i2 : Addr} (S : ZipSep2 z TI TO i1 i2 [i1, a] [i2, b]) (n1 : a ≠ i1) (n2 : b ≠ i2) : Turn P w K (.Tuple elts kk tpos) (ItzM K a b) [z, TI, TO, i1, i2] z (StM z TI TO i1 i2 a b) := by
  have wr5 : ∀ c ∈ [z, TO, i1, i2], c ∈ [z, TI, TO, i1, i2] := fun c hc => by
    simp only [List.mem_cons, List.not_mem_nil, or_false] at hc ⊢
    rcases hc with q | q | q | q <;> simp [q]
  refine ⟨by simp, fun i h st c hc => ?_, fun i h h' st k => ?_, ?_, ?_, fun A i s Q E st h => wpAny_pyIter_zip st.1 h⟩
  · obtain ⟨hz, hTI, ⟨x, y, hTO⟩, ⟨o1, e1, _, d1⟩, ⟨o2, e2, _, d2⟩⟩ := st
    rcases mem5 hc with rfl | rfl | rfl | rfl | rfl
    · exact ⟨_, hz, fun v q => nomatch q⟩
    · exact ⟨_, hTI, fun v q => nomatch q⟩
    · exact ⟨_, hTO, fun v q => nomatch q⟩
    · exact ⟨o1, e1, fun v q => by rw [d1] at q; cases q⟩
    · exact ⟨o2, e2, fun v q => by rw [d2] at q; cases q⟩
  · obtain ⟨hz, hTI, ⟨x, y, hTO⟩, h1, h2⟩ := st
    exact ⟨k z (by simp) _ hz, k TI (by simp) _ hTI, ⟨x, y, k TO (by simp) _ hTO⟩, h1.at fun o q => k i1 (by simp) o q, h2.at fun o q => k i2 (by simp) o q⟩
  · intro X hP hw hK hc i pins s σ H E I hf st hg
    subst hP hw hK
    obtain ⟨hz, hTI, hTO, h1, h2⟩ := st
    obtain ⟨xs, ys, x, y, hqx, hqy, hx, hy⟩ := hg
    obtain ⟨its, rv, p, _⟩ := I.tuple hqx
    obtain ⟨its2, rv2, p2, _⟩ := I.list hqy
    obtain ⟨u, hu, ru⟩ := rv.get hx
    obtain ⟨u2, hu2, ru2⟩ := rv2.get hy
    have hh : X.A.in1.handled = none := I.ok.hd hc
    have Wn := GoesN.zip2 (elts := elts) (x1 := kk) (pos := tpos) S (Draws.tuple (prog := X.prog) (w := X.w) hh i1 a n1 its.toArray) (Draws.list (prog := X.prog) (w := X.w) hh i2 b n2 its2.toArray)
    have li : i < min its.toArray.size its2.toArray.size := by
      have := (List.getElem?_eq_some_iff.mp hu).1
      have := (List.getElem?_eq_some_iff.mp hu2).1
      simp
      omega
    refine Wn.goes i s _ E li ⟨hz, hTI, hTO, ⟨h1, p⟩, ⟨h2, p2.isList⟩⟩ fun v h' tk hY st' hk htk => ?_
    obtain ⟨T, v1, v2, rfl, hT, q1, q2, hTup⟩ := hY
    have q1' : its.toArray[i]? = some v1 := q1
    have q2' : its2.toArray[i]? = some v2 := q2
    have e1 : u = v1 := by
      have : its.toArray[i]? = its[i]? := by simp
      rw [this, hu] at q1'
      exact Option.some.inj q1'
    have e2 : u2 = v2 := by
      have : its2.toArray[i]? = its2[i]? := by simp
      rw [this, hu2] at q2'
      exact Option.some.inj q2'
    subst e1 e2
    obtain ⟨hz', hTI', hTO', ⟨h1', _⟩, ⟨h2', _⟩⟩ := st'
    have new : ObjOk X.prog X.w (upd H T (.tup [x, y])) h' T (.tup [x, y]) := by
      exact ⟨by show 2 ≤ sizeLine; decide, [u, u2], .cons ru (.cons ru2 .nil), hTup⟩
    have I1 : Inv X pins σ (upd H T (.tup [x, y])) { s with heap := h', toks := tk } :=
      I.turnedNew (t' := tk) (ch := [z, TI, TO, i1, i2]) (fun c o hb q => hk c o (fun q' => hb (wr5 c q')) q) hf hT new
    refine ⟨.ref T, _, I1, rfl, ⟨T, x, y, rfl, I.hok.fresh hT, rfl, fun l hl => by rw [I.tuple_inj hl hqx]; exact hx, fun l hl => by rw [I.list_inj hl hqy]; exact hy⟩, ⟨hz', hTI', hTO', h1', h2'⟩, fun c hcm => ?_⟩
    have hlt : c < T := by
      have hs : c < s.heap.objs.size := by
        rcases mem5 hcm with rfl | rfl | rfl | rfl | rfl
        · exact Heap.lt_size hz
        · exact Heap.lt_size hTI
        · obtain ⟨_, _, e⟩ := hTO; exact Heap.lt_size e
        · obtain ⟨_, e, _⟩ := h1; exact Heap.lt_size e
        · obtain ⟨_, e, _⟩ := h2; exact Heap.lt_size e
      exact Nat.lt_of_lt_of_le hs hT
    rw [upd_ne (Nat.ne_of_lt hlt)]
    exact (hf c hcm).1
  · intro X hP hw hK hc i pins s σ H E I hf st hg
    subst hP hw hK
    obtain ⟨hz, hTI, hTO, h1, h2⟩ := st
    obtain ⟨xs, ys, hqx, hqy, hend⟩ := hg
    obtain ⟨its, rv, p, _⟩ := I.tuple hqx
    obtain ⟨its2, rv2, p2, _⟩ := I.list hqy
    have hh : X.A.in1.handled = none := I.ok.hd hc
    have l1 : its.toArray.size = xs.length := by rw [List.size_toArray]; exact rv.length.symm
    have l2 : its2.toArray.size = ys.length := by rw [List.size_toArray]; exact rv2.length.symm
    have fin : ∀ {m1 m2 : Nat} {P1 P2 : Nat → Value → Prop} {S1 S2 : Nat → Heap → Prop} (D1 : Draws X.prog X.w X.A.in1 i1 [i1, a] m1 P1 S1) (D2 : Draws X.prog X.w X.A.in1 i2 [i2, b] m2 P2 S2), min m1 m2 = i → S1 i s.heap → S2 i s.heap → wpAny (model X.prog X.w) X.A (pyNext (.ref z)) (fun r s1 => r = none ∧ Inv X pins σ H s1) E s := fun D1 D2 hm s1 s2 => by
      have Wn := GoesN.zip2 (elts := elts) (x1 := kk) (pos := tpos) S D1 D2
      refine Wn.stops s _ E ?_ fun h' tk hk htk => I.turnedL (t' := tk) (ch := [z, TI, TO, i1, i2]) (fun c o hb q => hk c o (fun q' => hb (wr5 c q')) q) hf
      rw [hm]
      exact ⟨hz, hTI, hTO, s1, s2⟩
    by_cases c1 : xs.length ≤ i
    · by_cases c2 : ys.length ≤ i
      · exact fin (drawT hh i1 a its.toArray (by omega)) (drawL hh i2 b its2.toArray (by omega)) (Nat.min_self i) ⟨rfl, h1, p⟩ ⟨rfl, h2, p2.isList⟩
      · exact fin (drawT hh i1 a its.toArray (by omega)) (Draws.list hh i2 b n2 its2.toArray) (by rw [l2]; omega) ⟨rfl, h1, p⟩ ⟨h2, p2.isList⟩
    · have c2 : ys.length ≤ i := hend.resolve_left c1
      exact fin (Draws.tuple hh i1 a n1 its.toArray) (drawL hh i2 b its2.toArray (by omega)) (by rw [l1]; omega) ⟨h1, p⟩ ⟨rfl, h2, p2.isList⟩
def iZipM (K : PySem.W.Frag) (ta : TA) : TI := fun σ H R => ta σ H fun vs H1 => ∃ a b xs ys, vs = [.ref a, .ref b] ∧ SqT K H1 a xs ∧ SqL K H1 b ys ∧ R (ItzM K a b) H1
theorem pi_zipM {X : Cx} {e e2 : Expr} {ta : TA} {p pos tpos : Pos} {elts : List Expr} {kk : Nat} (hg : Gl X "zip") (hm : X.mg "zip" = none) (ha : PA X [e, e2] ta)
    (hs : starEach [e, e2] X.env = (false, eval e X.env) :: starEach [e2] X.env := by rfl) (hpl : (backTo pos (starEach [e2] X.env)).any (·.1) = false := by rfl) :
    PI X (.Tuple elts kk tpos) (.Call (.Name "zip" p) [e, e2] [] pos) (iZipM X.K ta) := by
  refine ⟨fun pins s σ H R I h => ?_⟩
  refine Call_ (ld_blt I hg hm PyProof.Rows.boot_zip (PyProof.Rows.callWith_type1 (thn (ha.run pos pins s σ H _ I h) fun us s1 ⟨vs, H1, I1, r1, q1⟩ => ?_) hs hpl))
  obtain ⟨a, b, xs, ys, ex, hqx, hqy, q⟩ := q1
  subst ex
  obtain ⟨u, us', r, rr, rfl⟩ : ∃ u us', RelV (.ref a) u ∧ Vals [.ref b] us' ∧ us = u :: us' := by
    cases r1 with
    | cons r rr => exact ⟨_, _, r, rr, rfl⟩
  obtain ⟨u2, r', rfl⟩ : ∃ u2, RelV (.ref b) u2 ∧ us' = [u2] := by
    cases rr with
    | cons r' rr => cases rr; exact ⟨_, r', rfl⟩
  cases r
  cases r'
  obtain ⟨its, rv, p1, _⟩ := I1.tuple hqx
  obtain ⟨its2, rv2, p2, _⟩ := I1.list hqy
  have la : a < s1.heap.objs.size := by obtain ⟨o, ho, _⟩ := p1; exact Heap.lt_size ho
  have lb : b < s1.heap.objs.size := p2.lt
  refine zip_begins2 (begins_tuple a its.toArray) (begins_list b its2.toArray) p1 p2.isList fun h' hz hTI hTO h1 h2 hsz hk => wpAny_pyIter_zip hz ?_
  have I2 : Inv X pins σ H1 { s1 with heap := h' } := I1.kept (t' := s1.toks) hk
  have S : ZipSep2 (s1.heap.objs.size + 4) (s1.heap.objs.size + 2) (s1.heap.objs.size + 3) s1.heap.objs.size (s1.heap.objs.size + 1) [s1.heap.objs.size, a] [s1.heap.objs.size + 1, b] := zip_sep2 (fun c hc => by rw [List.mem_singleton.mp hc]; exact la) fun c hc => by rw [List.mem_singleton.mp hc]; exact lb
  refine ⟨s1.heap.objs.size + 4, [s1.heap.objs.size + 4, s1.heap.objs.size + 2, s1.heap.objs.size + 3, s1.heap.objs.size, s1.heap.objs.size + 1], _, _, H1, rfl, I2, turn_zipM S (Nat.ne_of_lt la) (Nat.ne_of_lt (Nat.lt_succ_of_lt lb)), ⟨hz, hTI, ⟨_, _, hTO⟩, ⟨_, h1, rfl, rfl⟩, ⟨_, h2, rfl, rfl⟩⟩, fun c hcm => ?_, q⟩
  have hle : s1.heap.objs.size ≤ c := by
    have hcm' : c = s1.heap.objs.size + 4 ∨ c = s1.heap.objs.size + 2 ∨ c = s1.heap.objs.size + 3 ∨ c = s1.heap.objs.size ∨ c = s1.heap.objs.size + 1 := by simpa using hcm
    rcases hcm' with q | q | q | q | q
    · rw [q]; exact Nat.le_add_right _ _
    · rw [q]; exact Nat.le_add_right _ _
    · rw [q]; exact Nat.le_add_right _ _
    · rw [q]; exact Nat.le_refl _
    · rw [q]; exact Nat.le_add_right _ _
  exact I1.fpOk hle (I1.hok.fresh hle)
section
variable {K : PySem.W.Frag} {cl : Nat → Addr} {F H : Hp}
theorem it_zipM {P : Addr → Prop} {a b : Addr} {us vs : List V} {ds es : List D} (hq : SqT K F a us) (r : Reps K cl F ds us) (hq' : SqL K F b vs) (r' : Reps K cl F es vs) : ItOk K cl P (ItzM K a b) F H (zipD ds es) := fun i P' F' H' sb g => by
  have q : SqT K H' a us := sb_sqT sb (g.ff.sqT hq)
  have q' : SqL K H' b vs := sb_sqL sb (g.ff.sqL hq')
  refine ⟨fun d hd => ?_, fun hl => ⟨us, vs, q, q', by rw [reps_length r, reps_length r']; rw [zipD_len] at hl; omega⟩⟩
  obtain ⟨d1, d2, e1, e2, rfl⟩ := zipD_get hd
  obtain ⟨v1, hv1, rv1⟩ := reps_get r e1
  obtain ⟨v2, hv2, rv2⟩ := reps_get r' e2
  refine ⟨⟨us, vs, v1, v2, q, q', hv1, hv2⟩, fun x H2 ⟨T, y1, y2, ex, hT, eH, hy1, hy2⟩ => ?_⟩
  have z1 := hy1 us q
  have z2 := hy2 vs q'
  rw [hv1] at z1
  rw [hv2] at z2
  cases z1
  cases z2
  subst eH ex
  exact newTup (ds := [d1, d2]) sb hT ⟨_, _, rfl, rep_mono g.ff _ _ rv1, _, [], rfl, rep_mono g.ff _ _ rv2, rfl⟩
end
section
variable {X : Cx} {cl : Nat → Addr} {W : WX} {pos p tpos : Pos} {elts : List Expr} {kk : Nat}
/-- zip of a tuple with a list -/
@[simp] def evZipM (t : Rho → Res (List Opd)) : Rho → Res (List D) := fun ρ => match t ρ with
  | .ok [.d (.tup as), .d (.lst bs)] ρ1 => .ok (zipD as bs) ρ1
  | .err x ρ1 => .err x ρ1
  | _ => .bad
theorem ei_zipM {a b : Expr} {t : Rho → Res (List Opd)} (hg : Gl X "zip") (hm : X.mg "zip" = none) (ha : EA X cl W [a, b] t) (hs : starEach [a, b] X.env = (false, eval a X.env) :: starEach [b] X.env := by rfl) (hpl : (backTo pos (starEach [b] X.env)).any (·.1) = false := by rfl) :
    EI X cl W (.Tuple elts kk tpos) (.Call (.Name "zip" p) [a, b] [] pos) (evZipM t) := by
  refine PI.imp (pi_zipM hg hm ha hs hpl) fun σ H R ⟨F, ρ, A, s, q⟩ => ⟨F, ρ, A, s, ?_⟩
  unfold evZipM at q
  cases e1 : t ρ with
  | bad => rw [e1] at q; exact q.elim
  | err x ρ' => rw [e1] at q; exact q
  | ok os ρ1 =>
    rw [e1] at q
    intro vs F1 H1 A1 s1 g1 ps
    split at q
    · rename_i ds ρ2 e2
      split at e2
      · rename_i as bs ρ3 e3
        cases e3
        cases e2
        obtain ⟨u, us, e, ⟨a1, xs, ea, hq, rr⟩, u2, us2, e', ⟨a2, ys, ea2, hq2, rr2⟩, e4⟩ := ps
        obtain rfl : us2 = [] := e4
        exact ⟨a1, a2, xs, ys, by rw [e, ea, e', ea2], sb_sqT s1.sub (SqT.of hq), sb_sqL s1.sub (SqL.of hq2), q _ F1 H1 A1 s1 g1 (it_zipM (SqT.of hq) rr (SqL.of hq2) rr2)⟩
      · rename_i e3; cases e3
      · cases e2
    · rename_i x ρ2 e2
      split at e2
      · cases e2
      · rename_i e3; cases e3
      · cases e2
    · exact q.elim
end
end DL
/-! DL56: str(n), sep.join(texts), text.split(sep). -/
namespace DL
open PySem L2 PySem.Spec PyProof.Rows
@[simp] def pStrI : List D → Option OD
  | [.v (.int i)] => if decide (i.natAbs.log2 < 1920) = true then some (.fz (.v (.str (toString i)))) else none
  | _ => none
@[simp] def pStrS : List D → Option OD
  | [.v (.str a)] => some (.fz (.v (.str a)))
  | _ => none
abbrev joinSz (a : Str) (ys : List Str) : Nat := (ys.map (·.length)).sum + ys.length * a.length
@[simp] def pJoin : List D → Option OD
  | [.v (.str a), .lst ds] => match txtsOf ds with
    | some ys => if decide (joinSz a ys ≤ 16777216) = true then some (.fz (.v (.str (Txt.join a ys)))) else none
    | none => none
  | [.v (.str a), .tup ds] => match txtsOf ds with
    | some ys => if decide (joinSz a ys ≤ 16777216) = true then some (.fz (.v (.str (Txt.join a ys)))) else none
    | none => none
  | _ => none
@[simp] def pSplit : List D → Option OD
  | [.v (.str a), .v (.str b)] => if (!(b.length == 0) && decide (a.length ≤ 16777000)) = true then some (.lst (fzs ((Txt.split a b).map fun n => .v (.str n)))) else none
  | _ => none
section
variable {K : PySem.W.Frag} {cl : Nat → Addr} {F : Hp}
theorem pr_strI : PrimOk K cl pStrI (fun xs H Q => ∃ i, xs = [.int i] ∧ i.natAbs.log2 < 1920 ∧ Q (.str (toString i)) H) := fun F H ds vs o Q sb r e q => by
  unfold pStrI at e
  split at e
  · split at e
    · rename_i h
      cases e
      obtain ⟨x, rfl, rx⟩ := reps1 r
      exact ⟨_, by rw [rx.1], of_decide_eq_true h, vq_v trivial sb q⟩
    · cases e
  · cases e
theorem pr_strS : PrimOk K cl pStrS (fun xs H Q => ∃ a, xs = [.str a] ∧ Q (.str a) H) := fun F H ds vs o Q sb r e q => by
  unfold pStrS at e
  split at e
  · cases e
    obtain ⟨x, rfl, rx⟩ := reps1 r
    exact ⟨_, by rw [rx.1], vq_v trivial sb q⟩
  · cases e
abbrev rJoin (K : PySem.W.Frag) : V → List V → Hp → VK → Prop := fun x xs H Q => ∃ a p, ∃ ys : List Str, x = .str a ∧ xs = [.ref p] ∧ (SqL K H p (ys.map V.str) ∨ SqT K H p (ys.map V.str)) ∧ (ys.map (·.length)).sum + ys.length * a.length ≤ 16777216 ∧ Q (.str (Txt.join a ys)) H
theorem pr_join : PrimOk K cl pJoin (fun vs H Q => ∃ x y, vs = [x, y] ∧ rJoin K x [y] H Q) := fun F H ds vs o Q sb r e q => by
  unfold pJoin at e
  split at e
  · split at e
    · rename_i ys e1
      split at e
      · rename_i h
        cases e
        obtain ⟨x, y, rfl, rx, ⟨p, us, ey, hq, rr⟩⟩ := reps2 r
        have h1 := txts_rep e1 rr
        subst h1
        exact ⟨x, y, rfl, _, p, ys, rx.1, by rw [ey], .inl (sb_sqL sb (SqL.of hq)), of_decide_eq_true h, vq_v trivial sb q⟩
      · cases e
    · cases e
  · split at e
    · rename_i ys e1
      split at e
      · rename_i h
        cases e
        obtain ⟨x, y, rfl, rx, ⟨p, us, ey, hq, rr⟩⟩ := reps2 r
        have h1 := txts_rep e1 rr
        subst h1
        exact ⟨x, y, rfl, _, p, ys, rx.1, by rw [ey], .inr (sb_sqT sb (SqT.of hq)), of_decide_eq_true h, vq_v trivial sb q⟩
      · cases e
    · cases e
  · cases e
theorem pr_split : PrimOk K cl pSplit (fun vs H Q => ∃ x y, vs = [x, y] ∧ ∃ a b, x = .str a ∧ [y] = [.str b] ∧ (b.length == 0) = false ∧ a.length + 2 ≤ sizeLine ∧ rNewStrs (Txt.split a b) H Q) := fun F H ds vs o Q sb r e q => by
  unfold pSplit at e
  split at e
  · split at e
    · rename_i h
      cases e
      obtain ⟨x, y, rfl, rx, ry⟩ := reps2 r
      obtain ⟨h1, h2⟩ := Bool.and_eq_true_iff.mp h
      have h3 := of_decide_eq_true h2
      refine ⟨x, y, rfl, _, _, rx.1, by rw [ry.1], by simpa using h1, ?_, fun p hp => vq_lst (txts_reps _) sb q p hp⟩
      show _ ≤ 16777216
      omega
    · cases e
  · cases e
end
/-- a text's method of one argument -/
@[simp] def evTm (f : List D → Option OD) (ta tb : Rho → Res Opd) : Rho → Res OV := fun ρ => (ta ρ).bind fun x ρ1 => match rs ρ1 x with
  | some (.v (.str _)) => (tb ρ1).bind fun y ρ2 => fin f [x, y] ρ2
  | _ => .bad
section
variable {X : Cx} {cl : Nat → Addr} {W : WX} {pos p apos : Pos} {e a b : Expr} {ta tb : Rho → Res Opd} {ts : Rho → Res (List Opd)}
theorem ee_tm {f : List D → Option OD} {R : V → List V → Hp → VK → Prop} (hr : ∀ {ua ub : TE}, PE X a ua → PE X b ub → PE X e (tM1 R ua ub)) (pr : PrimOk X.K cl f (fun vs H Q => ∃ x y, vs = [x, y] ∧ R x [y] H Q)) (ha : EP' X cl W a ta) (hb : EP' X cl W b tb) : EE X cl W e (evTm f ta tb) := by
  refine PE.imp (hr ha hb) fun σ H Q ⟨F, ρ, A, s, q⟩ => ⟨F, ρ, A, s, ?_⟩
  unfold evTm at q
  cases e1 : ta ρ with
  | bad => rw [e1] at q; exact q
  | err x ρ' => rw [e1] at q; exact q
  | ok x ρ1 =>
    rw [e1] at q
    intro v F1 H1 A1 s1 g1 p1
    dsimp only [Res.bind] at q
    cases e3 : rs ρ1 x with
    | none => rw [e3] at q; exact q.elim
    | some d =>
      rw [e3] at q
      cases d with
      | v z0 =>
        cases z0 with
        | str z =>
          dsimp only at q
          have hv : v = .str z := by
            have hL : ∀ a ∈ brw A1 [x], F1 a = none := fun a ha => (s1.at_ (brw_own ha)).1
            have r := rs_rep (q := x) s1 hL p1 (fun i z a ha => by rw [z]; exact List.mem_append_left _ ha) e3
            exact r.1
          refine ⟨⟨z, hv⟩, F1, ρ1, A1, s1, ?_⟩
          cases e2 : tb ρ1 with
          | bad => rw [e2] at q; exact q
          | err x ρ' => rw [e2] at q; exact ErrQ.pre q g1
          | ok y ρ2 =>
            rw [e2] at q
            intro w F2 H2 A2 s2 g2 p2
            obtain ⟨_, _, e, h⟩ := fin_end pr s2 (g1.trans g2) (qs := [x, y]) (vs := [v, w]) ⟨v, _, rfl, p1.mono g2.ff, w, _, rfl, p2, rfl⟩ q
            cases e
            exact h
        | _ => exact q.elim
      | _ => exact q.elim
theorem ee_join (ha : EP' X cl W a ta) (hb : EP' X cl W b tb) (hs : starEach [b] X.env = [(false, eval b X.env)] := by rfl) (hbase : attributeBase a "join" X.env (eval a X.env) = eval a X.env := by rfl) (hline : (apos.endLine == p.line) = true := by rfl) :
    EE X cl W (.Call (.Attribute a "join" apos) [b] [] p) (evTm pJoin ta tb) :=
  ee_tm (fun h1 h2 => pe_join h1 h2 hs hbase hline) pr_join ha hb
theorem ee_split (ha : EP' X cl W a ta) (hb : EP' X cl W b tb) (hs : starEach [b] X.env = [(false, eval b X.env)] := by rfl) (hbase : attributeBase a "split" X.env (eval a X.env) = eval a X.env := by rfl) (hline : (apos.endLine == p.line) = true := by rfl) :
    EE X cl W (.Call (.Attribute a "split" apos) [b] [] p) (evTm pSplit ta tb) :=
  ee_tm (fun h1 h2 => pe_split h1 h2 hs hbase hline) pr_split ha hb
theorem ee_strI (hg : Gl X "str") (hm : X.mg "str" = none) (ha : EA X cl W [a] ts) (he : starEach [a] X.env = (false, eval a X.env) :: starEach [] X.env := by rfl) : EE X cl W (.Call (.Name "str" p) [a] [] pos) (evN pStrI ts) :=
  ee_callTy call_str_int pr_strI hg hm (by decide +kernel) ha (by decide) (by decide) he rfl
end
end DL
/-! DL57: int(text). -/
namespace DL
open PySem L2 PySem.Spec PyProof.Rows
@[simp] def pIntT : List D → Option OD
  | [.v (.str a)] => match PySem.intText? a with
    | some n => if decide (a.length ≤ 640) = true then some (.fz (.v (.int n))) else none
    | none => none
  | _ => none
section
variable {K : PySem.W.Frag} {cl : Nat → Addr} {F : Hp}
theorem pr_intT : PrimOk K cl pIntT (fun xs H Q => ∃ a n, xs = [.str a] ∧ PySem.intText? a = some n ∧ a.length ≤ 640 ∧ Q (.int n) H) := fun F H ds vs o Q sb r e q => by
  unfold pIntT at e
  split at e
  · split at e
    · rename_i n e1
      split at e
      · rename_i h
        cases e
        obtain ⟨x, rfl, rx⟩ := reps1 r
        exact ⟨_, n, by rw [rx.1], e1, of_decide_eq_true h, vq_v trivial sb q⟩
      · cases e
    · cases e
  · cases e
end
section
variable {X : Cx} {cl : Nat → Addr} {W : WX} {pos p : Pos} {a : Expr} {ts : Rho → Res (List Opd)}
theorem ee_intT (hg : Gl X "int") (hm : X.mg "int" = none) (ha : EA X cl W [a] ts) (he : starEach [a] X.env = (false, eval a X.env) :: starEach [] X.env := by rfl) : EE X cl W (.Call (.Name "int" p) [a] [] pos) (evN pIntT ts) :=
  ee_callTy call_int_str pr_intT hg hm (by decide +kernel) ha (by decide) (by decide) he rfl
end
end DL
/-! MA: mathematics for all laws: loops, pots, texts. -/
namespace WK
open PySem L2 DL
abbrev I (n : Int) : OD := .fz (.v (.int n))
abbrev B (b : Bool) : OD := .fz (.v (.bl b))
/-- the text of some signs -/
def tx (l : List Nat) : Str := ⟨l.toArray⟩
abbrev T (l : List Nat) : D := .v (.str (tx l))

/-! ### loops -/
theorem forN_all {g : GR} {b : Rho → Res Fl} (Iv : Nat → Rho → Prop) : ∀ (ds : List D) (k : Nat) (ρ : Rho), Iv k ρ →
    (∀ (j : Nat) (d : D) (ρ : Rho), ds[j]? = some d → Iv (k + j) ρ → ∃ ρ1 ρ2, g d ρ = some ρ1 ∧ b ρ1 = .ok .next ρ2 ∧ Iv (k + j + 1) ρ2) → ∃ ρ', forN g b ds ρ = .ok .next ρ' ∧ Iv (k + ds.length) ρ'
  | [], k, ρ, h, _ => ⟨ρ, rfl, h⟩
  | d :: ds, k, ρ, h, hs => by
    obtain ⟨ρ1, ρ2, e1, e2, h2⟩ := hs 0 d ρ rfl h
    obtain ⟨ρ', e3, h3⟩ := forN_all Iv ds (k + 1) ρ2 h2 fun j d' ρ hj hi => by
      have e : k + 1 + j = k + (j + 1) := by omega
      rw [e] at hi ⊢
      exact hs (j + 1) d' ρ (by simpa using hj) hi
    refine ⟨ρ', ?_, ?_⟩
    · show (match g d ρ with
        | none => Res.bad
        | some ρ1 => match b ρ1 with
          | .ok .next ρ2 => forN g b ds ρ2
          | .ok .cont ρ2 => forN g b ds ρ2
          | .ok .brk ρ2 => .ok .next ρ2
          | r => r) = _
      rw [e1]
      dsimp only
      rw [e2]
      exact e3
    · rw [List.length_cons]
      have e : k + (ds.length + 1) = k + 1 + ds.length := by omega
      rw [e]
      exact h3
theorem forN_cons {g : GR} {b : Rho → Res Fl} {d : D} {ds : List D} {ρ : Rho} : forN g b (d :: ds) ρ = (match g d ρ with
    | none => .bad
    | some ρ1 => match b ρ1 with
      | .ok .next ρ2 => forN g b ds ρ2
      | .ok .cont ρ2 => forN g b ds ρ2
      | .ok .brk ρ2 => .ok .next ρ2
      | r => r) := rfl
theorem forN_nil {g : GR} {b : Rho → Res Fl} {ρ : Rho} : forN g b [] ρ = .ok .next ρ := rfl

/-! ### pots: a row of draws -/
structure Pot where
  a : Int
  b : Int
  h0 : 0 ≤ b
  h1 : b < 2147483647
abbrev potO (p : Pot) : OD := .lst [I p.a, I p.b]
def takeB (b : Int) : Int := (b * 69621 + 12345) % 2147483647
def takeR (p : Pot) (m : Int) : Int := if 0 < p.a then p.a % m else takeB p.b * takeB p.b % 2147483629 / 64 % m
def takeP (p : Pot) (m : Int) : Pot := if 0 < p.a then ⟨p.a / m, p.b, p.h0, p.h1⟩ else ⟨p.a, takeB p.b, Int.emod_nonneg _ (by decide), Int.emod_lt_of_pos _ (by decide)⟩
theorem takeR_nonneg {p : Pot} {m : Int} (h : 0 < m) : 0 ≤ takeR p m := by
  unfold takeR
  split <;> exact Int.emod_nonneg _ (by omega)
theorem takeR_lt {p : Pot} {m : Int} (h : 0 < m) : takeR p m < m := by
  unfold takeR
  split <;> exact Int.emod_lt_of_pos _ h
theorem fitB_small {a : Int} (h : a.natAbs < 18446744073709551616) : fitB a = true := fitB_of (n := 64) h (by decide)
theorem fit_take {b : Int} (h0 : 0 ≤ b) (h1 : b < 2147483647) : fitB b = true := fitB_small (by omega)

/-! ### texts -/
theorem tx_len (l : List Nat) : (tx l).length = l.length := by
  show l.toArray.size = l.length
  simp
theorem tx_app (l m : List Nat) : tx l ++ tx m = tx (l ++ m) := by
  show (⟨l.toArray ++ m.toArray⟩ : Str) = ⟨(l ++ m).toArray⟩
  simp
theorem tx_inj {l m : List Nat} (h : tx l = tx m) : l = m := by
  have := congrArg (fun s : Str => s.cps.toList) h
  simpa [tx] using this
theorem tx_list (l : List Nat) : (tx l).cps.toList = l := by simp [tx]
theorem tx_sign (c : Nat) : (⟨#[c]⟩ : Str) = tx [c] := rfl
theorem inS_one (c : Nat) (z : Str) : inS (tx [c]) z = decide (c ∈ z.cps.toList) := PySem.StrLaws.found_one z c
theorem cut_tx (t : List Nat) (lo hi : Option Int) : ∃ u, cutS (tx t) lo hi = tx u ∧ u.length ≤ t.length := by
  refine ⟨(t.drop (HT.sIx (tx t).length 0 lo)).take (HT.sIx (tx t).length (tx t).length hi - HT.sIx (tx t).length 0 lo), ?_, ?_⟩
  · unfold cutS
    rw [tx_list]
    rfl
  · rw [List.length_take, List.length_drop]
    omega
theorem kit_bool : kitB "bool" "bool" = some true := by decide +kernel
theorem rng_at {lo : Int} {n j : Nat} {d : D} (h : (rngD lo n)[j]? = some d) : j < n ∧ d = .v (.int (lo + j)) := by
  unfold rngD at h
  rw [List.getElem?_map] at h
  cases e : (List.range n)[j]? with
  | none => rw [e] at h; cases h
  | some c =>
    rw [e] at h
    cases h
    obtain ⟨h1, h2⟩ := List.getElem?_eq_some_iff.mp e
    rw [List.getElem_range] at h2
    rw [List.length_range] at h1
    exact ⟨h1, by rw [h2]⟩
theorem rng_len {lo : Int} {n : Nat} : (rngD lo n).length = n := by simp [rngD]
end WK
namespace WK
open PySem L2 DL
theorem fuel_ex : ∃ n : Nat, n = 1000000000000 := ⟨_, rfl⟩
noncomputable section
def FUEL : Nat := Classical.choose fuel_ex
theorem FUEL_eq : FUEL = 1000000000000 := Classical.choose_spec fuel_ex
-- def _law_pot(script, k); slots: script 0, k 1, cell 2, rest 3
def b__law_pot : Rho → Res Fl :=
    (sSeq (sSet 2 (evC (.v (.int 0))))
    (sSeq (sIf (evT (evP (ev2 fLt (evP (evName 1)) (evP (evN pLen (evCons (evP (evName 0)) evNil))))))
    (sSet 2 (ev2 fMod (evP (ev2 fIx (evP (evName 0)) (evP (evName 1)))) (evP (ev2 fMul (evP (ev2 fMul (evP (ev2 fMul (evP (ev2 fPow (evP (evC (.v (.int 10)))) (evP (evC (.v (.int 64)))))) (evP (ev2 fPow (evP (evC (.v (.int 10)))) (evP (evC (.v (.int 64)))))))) (evP (ev2 fPow (evP (evC (.v (.int 10)))) (evP (evC (.v (.int 64)))))))) (evP (ev2 fPow (evP (evC (.v (.int 10)))) (evP (evC (.v (.int 64)))))))))) sNext)
    (sSeq (sSet 3 (evC (.v (.int 0))))
    (sSeq (sIf (evT (evP (ev2 fGe (evP (evName 2)) (evP (ev2 fPow (evP (evC (.v (.int 10)))) (evP (evC (.v (.int 18)))))))))
    (sSet 3 (evName 2)) sNext)
    (sRet (evN evLst (evCons (evS (evName 3)) (evCons (evS (ev2 fMod (evP (ev2 fMul (evP (ev2 fAdd (evP (ev2 fAdd (evP (ev2 fMod (evP (evName 2)) (evP (evC (.v (.int 2147483629)))))) (evP (ev2 fMul (evP (evC (.v (.int 7919)))) (evP (evName 1)))))) (evP (evC (.v (.int 1)))))) (evP (evC (.v (.int 48271)))))) (evP (evC (.v (.int 2147483647)))))) evNil))))))))
def d__law_pot : FS := fnS [] 2 4 b__law_pot

-- def _law_take(pot, many); slots: pot 0, many 1, found 2
def b__law_take : Rho → Res Fl :=
    (sSeq (sIf (evT (evP (ev2 fGt (evP (ev2 fIx (evP (evName 0)) (evP (evC (.v (.int 0)))))) (evP (evC (.v (.int 0)))))))
    (sSeq (sSet 2 (ev2 fMod (evP (ev2 fIx (evP (evName 0)) (evP (evC (.v (.int 0)))))) (evP (evName 1))))
    (sSeq (sSetIx 0 (evS (ev2 fDiv (evP (ev2 fIx (evP (evName 0)) (evP (evC (.v (.int 0)))))) (evP (evName 1)))) (evP (evC (.v (.int 0)))))
    (sRet (evName 2)))) sNext)
    (sSeq (sSetIx 0 (evS (ev2 fMod (evP (ev2 fAdd (evP (ev2 fMul (evP (ev2 fIx (evP (evName 0)) (evP (evC (.v (.int 1)))))) (evP (evC (.v (.int 69621)))))) (evP (evC (.v (.int 12345)))))) (evP (evC (.v (.int 2147483647)))))) (evP (evC (.v (.int 1)))))
    (sRet (ev2 fMod (evP (ev2 fDiv (evP (ev2 fMod (evP (ev2 fMul (evP (ev2 fIx (evP (evName 0)) (evP (evC (.v (.int 1)))))) (evP (ev2 fIx (evP (evName 0)) (evP (evC (.v (.int 1)))))))) (evP (evC (.v (.int 2147483629)))))) (evP (evC (.v (.int 64)))))) (evP (evName 1))))))
def d__law_take : FS := fnS [0] 2 3 b__law_take

-- def _law_letters(number); slots: number 0, word 1
def C1__law_letters : Rho → Res Bool :=
    (evOr (evT (evP (ev2 fEq (evP (evName 1)) (evP (evC (.v (.str ""))))))) (evT (evP (ev2 fGt (evP (evName 0)) (evP (evC (.v (.int 0))))))))
def L1__law_letters : Rho → Res Fl :=
    (sSeq (sSet 1 (ev2 fAdd (evP (evName 1)) (evP (ev2 fIx (evP (evC (.v (.str "abcdefghijklmnopqrstuvwxyz")))) (evP (ev2 fMod (evP (evName 0)) (evP (evC (.v (.int 26))))))))))
    (sSet 0 (ev2 fDiv (evP (evName 0)) (evP (evC (.v (.int 26)))))))
def b__law_letters : Rho → Res Fl :=
    (sSeq (sSet 1 (evC (.v (.str ""))))
    (sSeq (whileN C1__law_letters L1__law_letters FUEL)
    (sRet (evName 1))))
def d__law_letters : FS := fnS [] 1 2 b__law_letters

-- def _law_word(pot, words); slots: pot 0, words 1, some 2, way 3, word 4, number 5
def C1__law_word : Rho → Res Bool :=
    (evT (evP (ev2 (fIn false) (evP (evName 4)) (evP (evName 1)))))
def L1__law_word : Rho → Res Fl :=
    (sSeq (sSet 4 (evCallX d__law_letters [false] (evXCons (evFz (evName 5)) evXNil)))
    (sSet 5 (ev2 fAdd (evP (evName 5)) (evP (evC (.v (.int 1)))))))
def b__law_word : Rho → Res Fl :=
    (sSeq (sSet 2 (evN evTup (evCons (evS (evC (.v (.str "kind")))) (evCons (evS (evC (.v (.str "under")))) (evCons (evS (evC (.v (.str "name")))) (evCons (evS (evC (.v (.str "deed")))) (evCons (evS (evC (.v (.str "gives")))) (evCons (evS (evC (.v (.str "with")))) (evCons (evS (evC (.v (.str "none")))) (evCons (evS (evC (.v (.str "clash")))) (evCons (evS (evC (.v (.str "a")))) (evCons (evS (evC (.v (.str "ab")))) (evCons (evS (evC (.v (.str "abc")))) (evCons (evS (evC (.v (.str "abcdefgh")))) (evCons (evS (evC (.v (.str "even")))) evNil)))))))))))))))
    (sSeq (sSet 3 (evCallX d__law_take [true, false] (evXCons (evName 0) (evXCons (evC (.v (.int 4))) evXNil))))
    (sSeq (sSet 4 (ev2 fIx (evP (evName 2)) (evP (evCallX d__law_take [true, false] (evXCons (evName 0) (evXCons (evC (.v (.int 13))) evXNil))))))
    (sSeq (sIf (evT (evP (ev2 fEq (evP (evName 3)) (evP (evC (.v (.int 1)))))))
    (sSet 4 (evCallX d__law_letters [false] (evXCons (evCallX d__law_take [true, false] (evXCons (evName 0) (evXCons (ev2 fSub (evP (ev2 fPow (evP (evC (.v (.int 26)))) (evP (evC (.v (.int 8)))))) (evP (evC (.v (.int 26))))) evXNil))) evXNil))) sNext)
    (sSeq (sIf (evAnd (evT (evP (ev2 fEq (evP (evName 3)) (evP (evC (.v (.int 2))))))) (evT (evP (ev2 fNe (evP (evName 1)) (evP (evN evLst evNil))))))
    (sSeq (sSet 4 (ev2 fIx (evP (evName 1)) (evP (evCallX d__law_take [true, false] (evXCons (evName 0) (evXCons (evN pLen (evCons (evP (evName 1)) evNil)) evXNil))))))
    (sSet 4 (evSl fSl (evP (ev2 fAdd (evP (evName 4)) (evP (evCallX d__law_letters [false] (evXCons (evCallX d__law_take [true, false] (evXCons (evName 0) (evXCons (evC (.v (.int 26))) evXNil))) evXNil))))) (evPart none) (evPart (some (evP (evC (.v (.int 8))))))))) sNext)
    (sSeq (sIf (evAnd (evT (evP (ev2 fEq (evP (evName 3)) (evP (evC (.v (.int 3))))))) (evT (evP (ev2 fNe (evP (evName 1)) (evP (evN evLst evNil))))))
    (sSeq (sSet 4 (ev2 fIx (evP (evName 1)) (evP (evCallX d__law_take [true, false] (evXCons (evName 0) (evXCons (evN pLen (evCons (evP (evName 1)) evNil)) evXNil))))))
    (sSet 4 (evSl fSl (evP (evName 4)) (evPart none) (evPart (some (evP (ev2 fAdd (evP (evC (.v (.int 1)))) (evP (evCallX d__law_take [true, false] (evXCons (evName 0) (evXCons (evN pLen (evCons (evP (evName 4)) evNil)) evXNil))))))))))) sNext)
    (sSeq (sSet 5 (evC (.v (.int 0))))
    (sSeq (whileN C1__law_word L1__law_word FUEL)
    (sRet (evName 4))))))))))
def d__law_word : FS := fnS [0] 2 6 b__law_word

-- def _law_any_term(pot, room, deep); slots: pot 0, room 1, deep 2, many 3, word 4, k 5
def C1__law_any_term (S : FS) : Rho → Res Bool :=
    evYes
def L1__law_any_term (S : FS) : Rho → Res Opd :=
    (evS (evCallX S [true, true, false] (evXCons (evName 0) (evXCons (evName 1) (evXCons (ev2 fSub (evP (evName 2)) (evP (evC (.v (.int 1))))) evXNil)))))
def b__law_any_term (S : FS) : Rho → Res Fl :=
    (sSeq (sIf (evOr (evT (evP (ev2 fLt (evP (evName 2)) (evP (evC (.v (.int 2))))))) (evOr (evT (evP (ev2 fLt (evP (ev2 fIx (evP (evName 1)) (evP (evC (.v (.int 0)))))) (evP (evC (.v (.int 1))))))) (evT (evP (ev2 fEq (evP (evCallX d__law_take [true, false] (evXCons (evName 0) (evXCons (evC (.v (.int 4))) evXNil)))) (evP (evC (.v (.int 0)))))))))
    (sRet (evCallX d__law_take [true, false] (evXCons (evName 0) (evXCons (ev2 fIx (evP (evN evTup (evCons (evS (evC (.v (.int 10)))) (evCons (evS (evC (.v (.int 100)))) evNil)))) (evP (evCallX d__law_take [true, false] (evXCons (evName 0) (evXCons (evC (.v (.int 2))) evXNil))))) evXNil)))) sNext)
    (sSeq (sSet 3 (ev2 fAdd (evP (evC (.v (.int 1)))) (evP (evCallX d__law_take [true, false] (evXCons (evName 0) (evXCons (evN pMin (evCons (evP (evC (.v (.int 10)))) (evCons (evP (ev2 fIx (evP (evName 1)) (evP (evC (.v (.int 0)))))) evNil))) evXNil))))))
    (sSeq (sSetIx 1 (evS (ev2 fSub (evP (ev2 fIx (evP (evName 1)) (evP (evC (.v (.int 0)))))) (evP (evName 3)))) (evP (evC (.v (.int 0)))))
    (sSeq (sFz 4 (sSet 4 (evCallX d__law_word [true, false] (evXCons (evName 0) (evXCons (evN evLst evNil) evXNil)))))
    (sRet (ev2 fAdd (evP (evN evTup (evCons (evS (evName 4)) evNil))) (evP (evN pTupOf (evCons (evP (evLc (evRng1 (evCons (evP (evName 3)) evNil)) (gSet 5) (C1__law_any_term S) (L1__law_any_term S) [5])) evNil)))))))))
def d__law_any_term : Nat → FS
  | 0 => fun _ => .bad
  | n + 1 => fnS [0, 1] 3 6 (b__law_any_term (d__law_any_term n))

-- def _law_term_text(term); slots: term 0, text 1, k 2
def L1__law_term_text (S : FS) : Rho → Res Fl :=
    (sSeq (sIf (evT (evP (ev2 fGt (evP (evName 2)) (evP (evC (.v (.int 1)))))))
    (sSet 1 (ev2 fAdd (evP (evName 1)) (evP (evC (.v (.str ", ")))))) sNext)
    (sFz 1 (sSet 1 (ev2 fAdd (evP (evName 1)) (evP (evCallX S [false] (evXCons (ev2 fIx (evP (evName 0)) (evP (evName 2))) evXNil)))))))
def b__law_term_text (S : FS) : Rho → Res Fl :=
    (sSeq (sIf (evNot (evT (evP (evN pIsi (evCons (evP (evName 0)) (evCons (evP (evC (.v (.ty "tuple")))) evNil))))))
    (sRet (evN pStrI (evCons (evP (evName 0)) evNil))) sNext)
    (sSeq (sSet 1 (ev2 fAdd (evP (ev2 fIx (evP (evName 0)) (evP (evC (.v (.int 0)))))) (evP (evC (.v (.str "("))))))
    (sSeq (sFor (evRng2 (evCons (evP (evC (.v (.int 1)))) (evCons (evP (evN pLen (evCons (evP (evName 0)) evNil))) evNil))) (gSet 2) (L1__law_term_text S))
    (sRet (ev2 fAdd (evP (evName 1)) (evP (evC (.v (.str ")")))))))))
def d__law_term_text : Nat → FS
  | 0 => fun _ => .bad
  | n + 1 => fnS [] 1 3 (b__law_term_text (d__law_term_text n))

-- def term_text(term); slots: term 0, part 1
def C1_term_text (S : FS) : Rho → Res Bool :=
    evYes
def L1_term_text (S : FS) : Rho → Res Opd :=
    (evS (evCallX S [false] (evXCons (evFz (evName 1)) evXNil)))
def b_term_text (S : FS) : Rho → Res Fl :=
    (sSeq (sIf (evT (evP (evN pIsi (evCons (evP (evName 0)) (evCons (evP (evC (.v (.ty "int")))) evNil)))))
    (sRet (evN pStrI (evCons (evP (evName 0)) evNil))) sNext)
    (sRet (ev2 fAdd (evP (ev2 fAdd (evP (ev2 fAdd (evP (ev2 fIx (evP (evName 0)) (evP (evC (.v (.int 0)))))) (evP (evC (.v (.str "(")))))) (evP (evTm pJoin (evP (evC (.v (.str ", ")))) (evP (evLc (evIt iterD (evS (evSl fSl (evP (evName 0)) (evPart (some (evP (evC (.v (.int 1)))))) (evPart none)))) (gSet 1) (C1_term_text S) (L1_term_text S) [1])))))) (evP (evC (.v (.str ")")))))))
def d_term_text : Nat → FS
  | 0 => fun _ => .bad
  | n + 1 => fnS [] 1 2 (b_term_text (d_term_text n))

-- def number_in(word); slots: word 0, sign 1
def C1_number_in : Rho → Res Bool :=
    evYes
def L1_number_in : Rho → Res Opd :=
    (evS (ev2 (fIn false) (evP (evName 1)) (evP (evC (.v (.str "0123456789"))))))
def b_number_in : Rho → Res Fl :=
    (sSeq (sIf (evOr (evNot (evT (evP (evN (pQuant fun bs => bs.all id) (evCons (evP (evLcD (evItL (lkName 0)) (gSet 1) C1_number_in L1_number_in [1])) evNil))))) (evOr (evT (evP (ev2 fGt (evP (evN pLen (evCons (evP (evName 0)) evNil))) (evP (evC (.v (.int 2))))))) (evAnd (evT (evP (ev2 fEq (evP (evN pLen (evCons (evP (evName 0)) evNil))) (evP (evC (.v (.int 2))))))) (evT (evP (ev2 fEq (evP (ev2 fIx (evP (evName 0)) (evP (evC (.v (.int 0)))))) (evP (evC (.v (.str "0"))))))))))
    (sRet (evC (.v .non))) sNext)
    (sRet (evN pIntT (evCons (evP (evName 0)) evNil))))
def d_number_in : FS := fnS [] 1 2 b_number_in

-- def is_word(text); slots: text 0, sign 1
def L1_is_word : Rho → Res Fl :=
    (sIf (evT (evP (ev2 (fIn true) (evP (evName 1)) (evP (evC (.v (.str "abcdefghijklmnopqrstuvwxyz")))))))
    (sRet (evC (.v (.bl false)))) sNext)
def b_is_word : Rho → Res Fl :=
    (sSeq (sIf (evOr (evT (evP (ev2 fEq (evP (evName 0)) (evP (evC (.v (.str ""))))))) (evT (evP (ev2 fGt (evP (evN pLen (evCons (evP (evName 0)) evNil))) (evP (evC (.v (.int 8))))))))
    (sRet (evC (.v (.bl false)))) sNext)
    (sSeq (sForD (evItL (lkName 0)) (gSet 1) L1_is_word)
    (sRet (evC (.v (.bl true))))))
def d_is_word : FS := fnS [] 1 2 b_is_word

-- def parts_at(text, at, deep); slots: text 0, at 1, deep 2, parts 3, part 4
def C1_parts_at (S : FS) : Rho → Res Bool :=
    (evT (evP (evC (.v (.bl true)))))
def L1_parts_at (S : FS) : Rho → Res Fl :=
    (sSeq (sAsgG (gTupl 2 (gsCons (gSet 4) (gsCons (gSet 1) gsNil))) (evS (evCallX S [false, false, false] (evXCons (evName 0) (evXCons (evName 1) (evXCons (evName 2) evXNil))))))
    (sSeq (sExp (evMut 3 mAppend (evCons (evS (evName 4)) evNil)))
    (sSeq (sIf (evT (evP (ev2 fEq (evP (evSl fSl (evP (evName 0)) (evPart (some (evP (evName 1)))) (evPart (some (evP (ev2 fAdd (evP (evName 1)) (evP (evC (.v (.int 1)))))))))) (evP (evC (.v (.str ")")))))))
    (sRet (evTupO (evXCons (evName 3) (evXCons (ev2 fAdd (evP (evName 1)) (evP (evC (.v (.int 1))))) evXNil)))) sNext)
    (sSeq (sIf (evT (evP (ev2 fNe (evP (evSl fSl (evP (evName 0)) (evPart (some (evP (evName 1)))) (evPart (some (evP (ev2 fAdd (evP (evName 1)) (evP (evC (.v (.int 2)))))))))) (evP (evC (.v (.str ", ")))))))
    sBad sNext)
    (sSet 1 (ev2 fAdd (evP (evName 1)) (evP (evC (.v (.int 2))))))))))
def b_parts_at (S : FS) : Rho → Res Fl :=
    (sSeq (sSet 3 (evN evLst evNil))
    (whileN (C1_parts_at S) (L1_parts_at S) FUEL))
def d_parts_at (S : FS) : FS := fnS [] 3 5 (b_parts_at S)

-- def term_at(text, at, deep); slots: text 0, at 1, deep 2, end 3, word 4, number 5, parts 6
def C1_term_at (S : FS) : Rho → Res Bool :=
    (evAnd (evT (evP (ev2 fLt (evP (evName 3)) (evP (evN pLen (evCons (evP (evName 0)) evNil)))))) (evT (evP (ev2 (fIn false) (evP (ev2 fIx (evP (evName 0)) (evP (evName 3)))) (evP (evC (.v (.str "abcdefghijklmnopqrstuvwxyz0123456789"))))))))
def L1_term_at (S : FS) : Rho → Res Fl :=
    (sSet 3 (ev2 fAdd (evP (evName 3)) (evP (evC (.v (.int 1))))))
def b_term_at (S : FS) : Rho → Res Fl :=
    (sSeq (sSet 3 (evName 1))
    (sSeq (whileN (C1_term_at S) (L1_term_at S) FUEL)
    (sSeq (sFz 4 (sSet 4 (evSl fSl (evP (evName 0)) (evPart (some (evP (evName 1)))) (evPart (some (evP (evName 3)))))))
    (sSeq (sIf (evOr (evT (evP (ev2 fGt (evP (evName 2)) (evP (evC (.v (.int 12))))))) (evT (evP (ev2 fEq (evP (evName 4)) (evP (evC (.v (.str ""))))))))
    sBad sNext)
    (sSeq (sIf (evAnd (evT (evP (evCallX d_is_word [false] (evXCons (evFz (evName 4)) evXNil)))) (evT (evP (ev2 fEq (evP (evSl fSl (evP (evName 0)) (evPart (some (evP (evName 3)))) (evPart (some (evP (ev2 fAdd (evP (evName 3)) (evP (evC (.v (.int 1)))))))))) (evP (evC (.v (.str "("))))))))
    (sSeq (sAsgG (gTupl 2 (gsCons (gSet 6) (gsCons (gSet 3) gsNil))) (evS (evCallX (d_parts_at S) [false, false, false] (evXCons (evName 0) (evXCons (ev2 fAdd (evP (evName 3)) (evP (evC (.v (.int 1))))) (evXCons (ev2 fAdd (evP (evName 2)) (evP (evC (.v (.int 1))))) evXNil))))))
    (sRet (evN evTup (evCons (evS (ev2 fAdd (evP (evN evTup (evCons (evS (evName 4)) evNil))) (evP (evN pTupOf (evCons (evP (evName 6)) evNil))))) (evCons (evS (evName 3)) evNil))))) sNext)
    (sSeq (sFz 5 (sSet 5 (evCallX d_number_in [false] (evXCons (evFz (evName 4)) evXNil))))
    (sSeq (sIf (evT (evP (ev2 (pIsN false) (evP (evName 5)) (evP (evC (.v .non))))))
    sBad sNext)
    (sRet (evN evTup (evCons (evS (evName 5)) (evCons (evS (evName 3)) evNil)))))))))))
def d_term_at : Nat → FS
  | 0 => fun _ => .bad
  | n + 1 => fnS [] 3 7 (b_term_at (d_term_at n))

-- def parts_of(term); slots: term 0, part 1
def C1_parts_of (S : FS) : Rho → Res Bool :=
    evYes
def L1_parts_of (S : FS) : Rho → Res Opd :=
    (evS (evCallX S [false] (evXCons (evFz (evName 1)) evXNil)))
def b_parts_of (S : FS) : Rho → Res Fl :=
    (sSeq (sIf (evT (evP (evN pIsi (evCons (evP (evName 0)) (evCons (evP (evC (.v (.ty "tuple")))) evNil)))))
    (sRet (ev2 fAdd (evP (evC (.v (.int 1)))) (evP (evN pSum (evCons (evP (evLc (evIt iterD (evS (evSl fSl (evP (evName 0)) (evPart (some (evP (evC (.v (.int 1)))))) (evPart none)))) (gSet 1) (C1_parts_of S) (L1_parts_of S) [1])) evNil))))) sNext)
    (sRet (evC (.v (.int 1)))))
def d_parts_of : Nat → FS
  | 0 => fun _ => .bad
  | n + 1 => fnS [] 1 2 (b_parts_of (d_parts_of n))

-- def read_term(text); slots: text 0, term 1, end 2
def b_read_term : Rho → Res Fl :=
    (sSeq (sAsgG (gTupl 2 (gsCons (gSet 1) (gsCons (gSet 2) gsNil))) (evS (evCallX (d_term_at 20) [false, false, false] (evXCons (evName 0) (evXCons (evC (.v (.int 0))) (evXCons (evC (.v (.int 1))) evXNil))))))
    (sSeq (sIf (evOr (evT (evP (ev2 fLt (evP (evName 2)) (evP (evN pLen (evCons (evP (evName 0)) evNil)))))) (evT (evP (ev2 fGt (evP (evCallX (d_parts_of 20) [false] (evXCons (evFz (evName 1)) evXNil))) (evP (evC (.v (.int 40))))))))
    sBad sNext)
    (sRet (evName 1))))
def d_read_term : FS := fnS [] 1 3 b_read_term

-- def _law_whole(found); slots: found 0
def b__law_whole : Rho → Res Fl :=
    (sRet (evAndV (evN pIsi (evCons (evP (evName 0)) (evCons (evP (evC (.v (.ty "int")))) evNil))) (evNotV (evN pIsi (evCons (evP (evName 0)) (evCons (evP (evC (.v (.ty "bool")))) evNil))))))
def d__law_whole : FS := fnS [] 1 1 b__law_whole

-- def _law_sound(term); slots: term 0, left 1, part 2
def C1__law_sound : Rho → Res Bool :=
    (evT (evP (ev2 fNe (evP (evName 1)) (evP (evN evLst evNil)))))
def L1__law_sound : Rho → Res Fl :=
    (sSeq (sFz 2 (sSet 2 (evMut0 1 (mLst gPop0))))
    (sIf (evT (evP (evN pIsi (evCons (evP (evName 2)) (evCons (evP (evC (.v (.ty "tuple")))) evNil)))))
    (sSeq (sIf (evOr (evT (evP (ev2 fEq (evP (evName 2)) (evP (evN evTup evNil))))) (evNot (evT (evP (evN pIsi (evCons (evP (ev2 fIx (evP (evName 2)) (evP (evC (.v (.int 0)))))) (evCons (evP (evC (.v (.ty "str")))) evNil)))))))
    (sRet (evC (.v (.bl false)))) sNext)
    (sExp (evExt 1 (evN (alt pListOf pListD) (evCons (evP (evSl fSl (evP (evName 2)) (evPart (some (evP (evC (.v (.int 1)))))) (evPart none))) evNil))))) (sIf (evNot (evT (evP (evCallX d__law_whole [false] (evXCons (evFz (evName 2)) evXNil)))))
    (sRet (evC (.v (.bl false)))) sNext)))
def b__law_sound : Rho → Res Fl :=
    (sSeq (sSet 1 (evN evLst (evCons (evS (evName 0)) evNil)))
    (sSeq (whileN C1__law_sound L1__law_sound FUEL)
    (sRet (evC (.v (.bl true))))))
def d__law_sound : FS := fnS [] 1 3 b__law_sound

-- def law(script); slots: script 0, k 1, pot 2, term 3, due 4, text 5, found 6
def L1_law : Rho → Res Fl :=
    (sSeq (sSet 2 (evCallX d__law_pot [false, false] (evXCons (evName 0) (evXCons (evFz (evName 1)) evXNil))))
    (sSeq (sFz 3 (sSet 3 (evCallX (d__law_any_term 20) [true, true, false] (evXCons (evName 2) (evXCons (evN evLst (evCons (evS (evC (.v (.int 39)))) evNil)) (evXCons (evC (.v (.int 12))) evXNil))))))
    (sSeq (sFz 4 (sSet 4 (evCallX (d__law_term_text 20) [false] (evXCons (evFz (evName 3)) evXNil))))
    (sSeq (sFz 5 (sSet 5 (evCallX (d_term_text 20) [false] (evXCons (evFz (evName 3)) evXNil))))
    (sSeq (sIf (evOr (evNot (evT (evP (evN pIsi (evCons (evP (evName 5)) (evCons (evP (evC (.v (.ty "str")))) evNil)))))) (evT (evP (ev2 fNe (evP (evName 5)) (evP (evName 4))))))
    (sRet (evC (.v (.bl false)))) sNext)
    (sSeq (sFz 6 (sSet 6 (evCallX d_read_term [false] (evXCons (evFz (evName 4)) evXNil))))
    (sIf (evOr (evNot (evT (evP (evCallX d__law_sound [false] (evXCons (evFz (evName 6)) evXNil))))) (evOr (evT (evP (ev2 fNe (evP (evName 6)) (evP (evName 3))))) (evT (evP (ev2 fNe (evP (evCallX (d_term_text 20) [false] (evXCons (evFz (evName 6)) evXNil))) (evP (evName 4)))))))
    (sRet (evC (.v (.bl false)))) sNext)))))))
def b_law : Rho → Res Fl :=
    (sSeq (sFor (evRng1 (evCons (evP (evC (.v (.int 12)))) evNil)) (gSet 1) L1_law)
    (sRet (evC (.v (.bl true)))))
def d_law : FS := fnS [] 1 7 b_law
end
end WK
namespace WK
open PySem L2 DL
theorem take_eq (p : Pot) {m : Int} (hm : 0 < m) (hf : fitB m = true) : d__law_take [potO p, I m] = .ok (I (takeR p m)) [potO (takeP p m), I m] := by
  have hb : fitB p.b = true := fit_take p.h0 p.h1
  have hc0 : 0 ≤ takeB p.b := Int.emod_nonneg _ (by decide)
  have hc1 : takeB p.b < 2147483647 := Int.emod_lt_of_pos _ (by decide)
  have hc : fitB (takeB p.b) = true := fit_take hc0 hc1
  have f1 : fitB 69621 = true := fitB_small (by decide)
  have f2 : fitB 64 = true := fitB_small (by decide)
  unfold takeB at hc
  by_cases ha : 0 < p.a
  · simp [d__law_take, b__law_take, fnS, potO, takeR, takeP, atI, ixN, gt, ha, hm, hf]
  · simp [d__law_take, b__law_take, fnS, potO, takeR, takeP, takeB, atI, ixN, gt, ha, hm, hf, hb, hc, f1, f2]
def scr (ns : List Int) : D := .wls (ns.map fun n => .v (.int n))
def cellN (ns : List Int) (k : Nat) : Int := if k < ns.length then ns.getD k 0 % 10000000000000000000000000000000000000000000000000000000000000000000000000000000000000000000000000000000000000000000000000000000000000000000000000000000000000000000000000000000000000000000000000000000000000000000000000000000000000000000000000000000000000000 else 0
def potOf (ns : List Int) (k : Nat) : Pot := ⟨if 1000000000000000000 ≤ cellN ns k then cellN ns k else 0, (cellN ns k % 2147483629 + 7919 * (k : Int) + 1) * 48271 % 2147483647, Int.emod_nonneg _ (by decide), Int.emod_lt_of_pos _ (by decide)⟩
theorem scr_at {ns : List Int} {k : Nat} (h : k < ns.length) : atI (ns.map fun n => D.v (.int n)) (k : Int) = some (.v (.int (ns.getD k 0))) := by
  apply atI_nat
  rw [List.getElem?_map, List.getElem?_eq_getElem h]
  simp [List.getD_eq_getElem?_getD, h]
theorem pot_eq (ns : List Int) (k : Nat) (hk : k < 1000000) : d__law_pot [.fz (scr ns), I k] = .ok (potO (potOf ns k)) [.fz (scr ns), I k] := by
  have f1 : fitB 10000000000000000000000000000000000000000000000000000000000000000 = true := fitB_of (n := 256) (by decide +kernel) (by decide)
  have f2 : fitB 100000000000000000000000000000000000000000000000000000000000000000000000000000000000000000000000000000000000000000000000000000000 = true := fitB_of (n := 512) (by decide +kernel) (by decide)
  have f3 : fitB 1000000000000000000000000000000000000000000000000000000000000000000000000000000000000000000000000000000000000000000000000000000000000000000000000000000000000000000000000000000000000000000000000 = true := fitB_of (n := 800) (by decide +kernel) (by decide)
  have f4 : fitB 7919 = true := fitB_small (by decide)
  have f5 : fitB 48271 = true := fitB_small (by decide)
  have f6 : fitB (k : Int) = true := fitB_small (by omega)
  have f7 : ∀ c : Int, fitB (c % 2147483629 + 7919 * (k : Int) + 1) = true := fun c => fitB_small (by
    have := Int.emod_nonneg c (show (2147483629 : Int) ≠ 0 by decide)
    have := Int.emod_lt_of_pos c (show (0 : Int) < 2147483629 by decide)
    omega)
  have f8 : fitB (7919 * (k : Int) + 1) = true := fitB_small (by omega)
  by_cases h : k < ns.length
  · by_cases h2 : 1000000000000000000 ≤ cellN ns k
    · have h3 := h2
      unfold cellN at h3
      rw [if_pos h] at h3
      simp [List.getD_eq_getElem?_getD, h] at h3
      simp [d__law_pot, b__law_pot, fnS, gt, scr, h, scr_at h, f1, f2, f3, f4, f5, f6, f7, potO, potOf, cellN, h3]
    · have h3 := h2
      unfold cellN at h3
      rw [if_pos h] at h3
      simp [List.getD_eq_getElem?_getD, h] at h3
      have h4 := Int.not_le.mpr h3
      simp [d__law_pot, b__law_pot, fnS, gt, scr, h, scr_at h, f1, f2, f3, f4, f5, f6, f7, potO, potOf, cellN, h4]
  · simp [d__law_pot, b__law_pot, fnS, gt, scr, h, f4, f5, f6, f8, potO, potOf, cellN]
def isL (c : Nat) : Bool := decide (97 ≤ c) && decide (c ≤ 122)
theorem isL_mem (c : Nat) : decide (c ∈ ("abcdefghijklmnopqrstuvwxyz" : Str).cps.toList) = isL c := by
  have e : ("abcdefghijklmnopqrstuvwxyz" : Str).cps.toList = (List.range 26).map (· + 97) := by decide +kernel
  rw [e, Bool.eq_iff_iff]
  simp only [decide_eq_true_eq, List.mem_map, List.mem_range, isL, Bool.and_eq_true]
  constructor
  · rintro ⟨k, h, rfl⟩
    omega
  · intro h
    exact ⟨c - 97, by omega, by omega⟩
theorem inS_letters (c : Nat) : inS (tx [c]) "abcdefghijklmnopqrstuvwxyz" = isL c := (inS_one c _).trans (isL_mem c)
def isWord (l : List Nat) : Bool := decide (1 ≤ l.length) && decide (l.length ≤ 8) && l.all isL
theorem isword_step (l : List Nat) (c : Nat) : L1_is_word [.fz (T l), .fz (T [c])] = if isL c = true then .ok .next [.fz (T l), .fz (T [c])] else .ok (.ret (ovB false)) [.fz (T l), .fz (T [c])] := by
  cases h : isL c <;> simp [L1_is_word, gt, inS_letters, h]
theorem isword_loop (l : List Nat) : ∀ (m : List Nat) (o : OD), ∃ o', forN (gSet 1) L1_is_word (m.map sgn) [.fz (T l), o] = if m.all isL = true then .ok .next [.fz (T l), o'] else .ok (.ret (ovB false)) [.fz (T l), o']
  | [], o => ⟨o, rfl⟩
  | c :: m, o => by
    have s := isword_step l c
    cases h : isL c with
    | true =>
      obtain ⟨o', ih⟩ := isword_loop l m (.fz (T [c]))
      refine ⟨o', ?_⟩
      rw [h] at s
      rw [List.map_cons, forN_cons]
      simp [tx_sign, s, ih, h]
    | false =>
      refine ⟨.fz (T [c]), ?_⟩
      rw [h] at s
      rw [List.map_cons, forN_cons]
      simp [tx_sign, s, h]
theorem tx_empty : ("" : Str) = tx [] := by decide +kernel
theorem is_word_eq (l : List Nat) (hl : l.length ≤ 1000000) : d_is_word [.fz (T l)] = .ok (B (isWord l)) [.fz (T l)] := by
  obtain ⟨o', e⟩ := isword_loop l l .gone
  have h1 : l.length ≤ 16777216 := by omega
  by_cases h3 : l = []
  · subst h3
    simp [d_is_word, b_is_word, fnS, gt, isWord, scal, tx_empty]
  · have h4 : ¬ tx l = tx [] := fun z => h3 (tx_inj z)
    have h5 : 1 ≤ l.length := by
      have : ¬ l.length = 0 := fun z => h3 (List.length_eq_zero_iff.mp z)
      omega
    by_cases h6 : l.length ≤ 8
    · have h8 : ¬ ((8 : Int) < (l.length : Nat)) := by omega
      cases h7 : l.all isL with
      | true =>
        rw [h7] at e
        simp [d_is_word, b_is_word, fnS, gt, isWord, h4, scal, tx_len, h1, h5, h6, h7, h8, tx_list, tx_empty, e]
      | false =>
        rw [h7] at e
        simp [d_is_word, b_is_word, fnS, gt, isWord, h4, scal, tx_len, h1, h5, h6, h7, h8, tx_list, tx_empty, e]
    · have h8 : ((8 : Int) < (l.length : Nat)) := by omega
      simp [d_is_word, b_is_word, fnS, gt, isWord, h4, scal, tx_len, h1, h5, h6, h8, tx_list, tx_empty, e]
theorem take_ex (p : Pot) (m : Nat) (h0 : 0 < m) (h1 : m < 18446744073709551616) : ∃ (r : Nat) (p' : Pot), r < m ∧ d__law_take [potO p, I (m : Nat)] = .ok (I (r : Nat)) [potO p', I (m : Nat)] := by
  have a := takeR_nonneg (p := p) (m := (m : Int)) (by omega)
  have b := takeR_lt (p := p) (m := (m : Int)) (by omega)
  refine ⟨(takeR p m).toNat, takeP p m, by omega, ?_⟩
  rw [take_eq p (m := (m : Int)) (by omega) (fitB_small (by omega)), Int.toNat_of_nonneg a]
/-- the letters of a number, the least first -/
def lett (n : Nat) : List Nat := (97 + n % 26) :: if h : n / 26 = 0 then [] else lett (n / 26)
termination_by n
decreasing_by omega
theorem abc_at (n : Nat) : atI ("abcdefghijklmnopqrstuvwxyz" : Str).cps.toList ((n : Int) % 26) = some (97 + n % 26) := by
  have e : ("abcdefghijklmnopqrstuvwxyz" : Str).cps.toList = (List.range 26).map (· + 97) := by decide +kernel
  have h : n % 26 < 26 := Nat.mod_lt _ (by decide)
  have e2 : ((n : Int) % 26) = ((n % 26 : Nat) : Int) := by omega
  rw [e, e2]
  apply atI_nat
  rw [List.getElem?_map, List.getElem?_range h]
  simp
  omega
theorem abc_len : ("abcdefghijklmnopqrstuvwxyz" : Str).length = 26 := by decide +kernel
theorem lett_eq (n : Nat) : lett n = (97 + n % 26) :: if n / 26 = 0 then [] else lett (n / 26) := by
  rw [lett]
  split <;> rfl
theorem lett_len : ∀ (k n : Nat), n < 26 ^ (k + 1) → (lett n).length ≤ k + 1
  | 0, n, h => by
    have : n / 26 = 0 := by omega
    rw [lett_eq, if_pos this]
    simp
  | k + 1, n, h => by
    rw [lett_eq]
    split
    · simp
    · have h2 : n / 26 < 26 ^ (k + 1) := by
        rw [Nat.pow_succ] at h
        exact Nat.div_lt_of_lt_mul (by rw [Nat.mul_comm]; exact h)
      have := lett_len k (n / 26) h2
      simp only [List.length_cons]
      omega
theorem letters_step (n : Nat) (w : List Nat) (hw : w.length < 16777216) : L1__law_letters [I n, .fz (T w)] = .ok .next [I (n / 26 : Nat), .fz (T (w ++ [97 + n % 26]))] := by
  have h : I (n / 26 : Nat) = I ((n : Int) / 26) := by
    have : ((n / 26 : Nat) : Int) = (n : Int) / 26 := by omega
    rw [this]
  rw [h]
  have f1 : fitB 26 = true := fitB_small (by decide)
  have a1 := abc_at n
  have a2 := abc_len
  unfold L1__law_letters
  generalize ("abcdefghijklmnopqrstuvwxyz" : Str) = z at *
  have hw2 : w.length + 1 ≤ 16777216 := hw
  simp [gt, a1, a2, tx_sign, tx_app, tx_len, hw2, f1]
theorem letters_test (n : Nat) (w : List Nat) : C1__law_letters [I n, .fz (T w)] = .ok (decide (w = []) || decide (0 < n)) [I n, .fz (T w)] := by
  have e : ("" : Str) = tx [] := by decide +kernel
  by_cases h : w = []
  · subst h
    simp [C1__law_letters, gt, scal, e]
  · have h2 : ¬ tx w = tx [] := fun z => h (tx_inj z)
    simp [C1__law_letters, gt, scal, e, h, h2]
theorem letters_loop : ∀ (fuel n : Nat) (w : List Nat), w ≠ [] → n < fuel → (w ++ if n = 0 then [] else lett n).length < 16777216 → whileN C1__law_letters L1__law_letters fuel [I n, .fz (T w)] = .ok .next [I 0, .fz (T (w ++ if n = 0 then [] else lett n))]
  | 0, n, w, _, h, _ => by omega
  | fuel + 1, n, w, hw, h, hl => by
    unfold whileN
    rw [letters_test]
    by_cases h0 : n = 0
    · subst h0
      simp [hw]
    · have h1 : 0 < n := by omega
      simp only [hw, h1, decide_true, decide_false, Bool.false_or]
      rw [if_neg h0, lett_eq] at hl
      have hl2 : ((w ++ [97 + n % 26]) ++ if n / 26 = 0 then [] else lett (n / 26)).length < 16777216 := by
        rw [List.append_assoc]
        exact hl
      rw [letters_step n w (by rw [List.length_append, List.length_append] at hl2; simp at hl2; omega)]
      dsimp only
      rw [letters_loop fuel (n / 26) (w ++ [97 + n % 26]) (by simp) (by omega) hl2, List.append_assoc, if_neg h0, lett_eq n]
      rfl
theorem letters_eq (n : Nat) (h : n < 900000000000) : d__law_letters [I n] = .ok (.fz (T (lett n))) [I n] := by
  have e : whileN C1__law_letters L1__law_letters FUEL [I n, .fz (T [])] = .ok .next [I 0, .fz (T (lett n))] := by
    obtain ⟨f, hf⟩ : ∃ f, FUEL = f + 1 := ⟨999999999999, by rw [FUEL_eq]⟩
    have hf2 := FUEL_eq
    rw [hf]
    unfold whileN
    rw [letters_test]
    simp only [decide_true, Bool.true_or]
    rw [letters_step n [] (by decide)]
    dsimp only
    have hl := lett_len 8 n (by omega)
    rw [lett_eq] at hl
    rw [letters_loop f (n / 26) _ (by simp) (by omega) (by
      show ((97 + n % 26) :: if n / 26 = 0 then [] else lett (n / 26)).length < 16777216
      omega), lett_eq n]
    rfl
  have e0 : (OD.fz (.v (.str ""))) = .fz (T []) := by
    have : ("" : Str) = tx [] := by decide +kernel
    rw [this]
  rw [← e0] at e
  simp [d__law_letters, b__law_letters, fnS, gt, e]
theorem sSeq_next {t u : Rho → Res Fl} {ρ ρ1 : Rho} (h : t ρ = .ok .next ρ1) : sSeq t u ρ = u ρ1 := by
  unfold sSeq
  rw [h]
theorem sSeq_ret {t u : Rho → Res Fl} {ρ ρ1 : Rho} {ov : OV} (h : t ρ = .ok (.ret ov) ρ1) : sSeq t u ρ = .ok (.ret ov) ρ1 := by
  unfold sSeq
  rw [h]
theorem fnS_o {pn : List Nat} {n m : Nat} {b : Rho → Res Fl} {args ρ os : Rho} {o : OD} (h0 : (args.length == n && (ownIx 0 args).all fun i => pn.contains i) = true) (h : b (args ++ List.replicate (m - n) .gone) = .ok (.ret (.o o)) ρ) (h2 : outs args ρ = some os) : fnS pn n m b args = .ok o os := by
  unfold fnS
  rw [if_pos h0, h]
  dsimp only
  rw [h2]
@[simp] theorem flatV_str (z : Str) : flatV (V.str z) = true := rfl
@[simp] theorem flatV_int (z : Int) : flatV (V.int z) = true := rfl
abbrev tv (l : List Nat) : V := .str (tx l)
abbrev td (l : List Nat) : PyData := .str (tx l)
@[simp] theorem flats_T : ∀ ws : List (List Nat), flats (ws.map T) = some (ws.map tv)
  | [] => rfl
  | w :: ws => by
    rw [List.map_cons]
    unfold flats
    rw [if_pos (show flatV (tv w) = true from rfl), flats_T ws]
    rfl
theorem tx_beq (l m : List Nat) : (tx l == tx m) = decide (l = m) := by
  rw [Bool.eq_iff_iff, beq_iff_eq, decide_eq_true_eq]
  exact ⟨tx_inj, fun h => by rw [h]⟩
@[simp] theorem inV_T (l : List Nat) : ∀ ws : List (List Nat), inV (tv l) (ws.map tv) = decide (l ∈ ws)
  | [] => rfl
  | w :: ws => by
    have ih := inV_T l ws
    unfold inV at ih ⊢
    rw [List.map_cons, List.any_cons, ih]
    have e : eqV (tv w) (tv l) = decide (w = l) := tx_beq w l
    rw [e, Bool.eq_iff_iff]
    simp only [Bool.or_eq_true, decide_eq_true_eq, List.mem_cons]
    exact ⟨fun h => h.elim (fun h => .inl h.symm) .inr, fun h => h.elim (fun h => .inl h.symm) .inr⟩
@[simp] theorem inV_nil (v : V) : inV v [] = false := rfl
@[simp] theorem pys_T : ∀ ws : List (List Nat), pys (ws.map T) = some (ws.map td)
  | [] => rfl
  | w :: ws => by
    rw [List.map_cons]
    unfold pys
    rw [pys_T ws]
    rfl
/-- signs that are signs -/
def okc (w : List Nat) : Bool := w.all fun c => decide (c < 1114112)
theorem strOk_tx (w : List Nat) : PyData.strOk (tx w) = okc w := by
  unfold PyData.strOk okc tx
  simp
theorem lay_T : ∀ ws : List (List Nat), ws.all okc = true → PyData.canLayAll0 (ws.map td) = true
  | [], _ => rfl
  | w :: ws, h => by
    rw [List.all_cons] at h
    obtain ⟨h1, h2⟩ := Bool.and_eq_true_iff.mp h
    rw [List.map_cons]
    unfold PyData.canLayAll0
    rw [lay_T ws h2]
    simp only [PyData.canLay0, strOk_tx, h1, Bool.and_self]
theorem depth_T : ∀ ws : List (List Nat), PyData.depthAll (ws.map td) = 0
  | [] => rfl
  | w :: ws => by
    rw [List.map_cons]
    unfold PyData.depthAll
    rw [depth_T ws]
    rfl
@[simp] theorem shaped_lT (ws : List (List Nat)) (h : ws.all okc = true) : SeqAt.shaped (.list (ws.map td)) = true := by
  unfold SeqAt.shaped PyData.canLay0 PyData.depth
  rw [lay_T ws h, depth_T]
  rfl
@[simp] theorem shaped_tT (ws : List (List Nat)) (h : ws.all okc = true) : SeqAt.shaped (.tuple (ws.map td)) = true := by
  unfold SeqAt.shaped PyData.canLay0 PyData.depth
  rw [lay_T ws h, depth_T]
  rfl
@[simp] theorem shaped_nil : SeqAt.shaped (.list []) = true := shaped_lT [] rfl
@[simp] theorem shaped_tnil : SeqAt.shaped (.tuple []) = true := shaped_tT [] rfl
theorem eqvAll_T : ∀ ws vs : List (List Nat), PyData.eqvAll (ws.map td) (vs.map td) = decide (ws = vs)
  | [], [] => rfl
  | [], _ :: _ => rfl
  | _ :: _, [] => rfl
  | w :: ws, v :: vs => by
    rw [List.map_cons, List.map_cons, PyData.eqvAll, eqvAll_T ws vs, PyData.eqv, tx_beq, Bool.eq_iff_iff]
    simp
@[simp] theorem eqv_lT (ws vs : List (List Nat)) : PyData.eqv (.list (ws.map td)) (.list (vs.map td)) = decide (ws = vs) := by
  rw [PyData.eqv, eqvAll_T]
@[simp] theorem eqv_lT0 (ws : List (List Nat)) : PyData.eqv (.list (ws.map td)) (.list []) = decide (ws = []) := eqv_lT ws []
@[simp] theorem eqv_nil : PyData.eqv (.list []) (.list []) = true := eqv_lT [] []
@[simp] theorem eqv_tnil : PyData.eqv (.tuple []) (.tuple []) = true := by rw [PyData.eqv]; rfl
theorem cutS_take (l : List Nat) (k : Nat) : cutS (tx l) none (some (k : Int)) = tx (l.take k) := by
  unfold cutS
  rw [tx_list]
  show tx ((l.drop (HT.sIx _ 0 none)).take (HT.sIx (tx l).length (tx l).length (some (k : Int)) - HT.sIx _ 0 none)) = _
  rw [HT.sIx_none, HT.sIx_nat, tx_len]
  simp only [List.drop_zero, Nat.sub_zero]
  congr 1
  rw [List.take_eq_take_iff]
  omega
theorem isWord_ok {w : List Nat} (h : isWord w = true) : w.length ≤ 8 ∧ 1 ≤ w.length ∧ w.all isL = true ∧ okc w = true := by
  unfold isWord at h
  simp only [Bool.and_eq_true, decide_eq_true_eq] at h
  refine ⟨h.1.2, h.1.1, h.2, List.all_eq_true.mpr fun c hc => ?_⟩
  have := List.all_eq_true.mp h.2 c hc
  unfold isL at this
  simp only [Bool.and_eq_true, decide_eq_true_eq] at this
  exact decide_eq_true (by omega)
theorem isWord_mk {w : List Nat} (h1 : 1 ≤ w.length) (h2 : w.length ≤ 8) (h3 : w.all isL = true) : isWord w = true := by
  unfold isWord
  simp only [Bool.and_eq_true, decide_eq_true_eq]
  exact ⟨⟨h1, h2⟩, h3⟩
theorem words_ok {ws : List (List Nat)} (h : ∀ w ∈ ws, isWord w = true) : ws.all okc = true := List.all_eq_true.mpr fun w hw => (isWord_ok (h w hw)).2.2.2
theorem lett_all : ∀ (k n : Nat), n < 26 ^ (k + 1) → (lett n).all isL = true
  | 0, n, h => by
    have : n / 26 = 0 := by omega
    have h2 : n % 26 < 26 := Nat.mod_lt _ (by decide)
    rw [lett_eq, if_pos this]
    simp [isL]
    omega
  | k + 1, n, h => by
    have h2 : n % 26 < 26 := Nat.mod_lt _ (by decide)
    rw [lett_eq, List.all_cons]
    have h3 : isL (97 + n % 26) = true := by simp [isL]; omega
    rw [h3, Bool.true_and]
    split
    · rfl
    · refine lett_all k (n / 26) ?_
      rw [Nat.pow_succ] at h
      exact Nat.div_lt_of_lt_mul (by rw [Nat.mul_comm]; exact h)
theorem lett_pos (n : Nat) : 1 ≤ (lett n).length := by rw [lett_eq]; simp
theorem lett_word {n : Nat} (h : n < 26 ^ 8) : isWord (lett n) = true := isWord_mk (lett_pos n) (lett_len 7 n h) (lett_all 7 n h)
theorem lett_small {n : Nat} (h : n < 26) : lett n = [97 + n] := by
  have h1 : n / 26 = 0 := by omega
  have h2 : n % 26 = n := by omega
  rw [lett_eq, if_pos h1, h2]
/-- among many unlike numbers one's letters are new -/
theorem fresh_lett : ∀ (m : Nat) (ws : List (List Nat)), ws.length < m → m ≤ 26 → ∃ n, n < m ∧ lett n ∉ ws
  | 0, ws, h, _ => by omega
  | m + 1, ws, h, hm => by
    by_cases hx : lett m ∈ ws
    · obtain ⟨n, h1, h2⟩ := fresh_lett m (ws.erase (lett m)) (by rw [List.length_erase_of_mem hx]; have := List.length_pos_of_mem hx; omega) (by omega)
      refine ⟨n, by omega, fun z => h2 ?_⟩
      refine (List.mem_erase_of_ne fun e => ?_).mpr z
      rw [lett_small (by omega), lett_small (by omega)] at e
      simp at e
      omega
    · exact ⟨m, by omega, hx⟩
def SOME : List (List Nat) := [[107, 105, 110, 100], [117, 110, 100, 101, 114], [110, 97, 109, 101], [100, 101, 101, 100], [103, 105, 118, 101, 115], [119, 105, 116, 104], [110, 111, 110, 101], [99, 108, 97, 115, 104], [97], [97, 98], [97, 98, 99], [97, 98, 99, 100, 101, 102, 103, 104], [101, 118, 101, 110]]
theorem some_word : ∀ w ∈ SOME, isWord w = true := by decide +kernel
abbrev WS (ws : List (List Nat)) : OD := .fz (.lst (ws.map T))
abbrev ST : OD := .fz (.tup (SOME.map T))
theorem some_eq : [D.v (.str "kind"), .v (.str "under"), .v (.str "name"), .v (.str "deed"), .v (.str "gives"), .v (.str "with"), .v (.str "none"), .v (.str "clash"), .v (.str "a"), .v (.str "ab"), .v (.str "abc"), .v (.str "abcdefgh"), .v (.str "even")] = SOME.map T := by
  have e : [("kind" : Str), "under", "name", "deed", "gives", "with", "none", "clash", "a", "ab", "abc", "abcdefgh", "even"] = SOME.map tx := by decide +kernel
  have e2 := congrArg (List.map fun s : Str => D.v (.str s)) e
  rw [List.map_map] at e2
  exact e2
theorem word_test (o0 o2 o3 : OD) (n : OD) (w : List Nat) (ws : List (List Nat)) : C1__law_word [o0, WS ws, o2, o3, .fz (T w), n] = .ok (decide (w ∈ ws)) [o0, WS ws, o2, o3, .fz (T w), n] := by
  simp [C1__law_word, gt]
theorem word_step (o0 o2 o3 : OD) (n : Nat) (w : List Nat) (ws : List (List Nat)) (hn : n < 1000) : L1__law_word [o0, WS ws, o2, o3, .fz (T w), I (n : Nat)] = .ok .next [o0, WS ws, o2, o3, .fz (T (lett n)), I ((n : Int) + 1)] := by
  have e := letters_eq n (by omega)
  simp [L1__law_word, gt, e]
theorem word_loop (o0 o2 o3 : OD) (ws : List (List Nat)) (N : Nat) (hN : lett N ∉ ws) (hN2 : N < 26) : ∀ (fuel n : Nat) (w : List Nat), n ≤ N + 1 → isWord w = true → (n = N + 1 → w = lett N) → N + 1 - n < fuel →
    ∃ w' o, isWord w' = true ∧ w' ∉ ws ∧ whileN C1__law_word L1__law_word fuel [o0, WS ws, o2, o3, .fz (T w), I (n : Nat)] = .ok .next [o0, WS ws, o2, o3, .fz (T w'), o]
  | 0, n, w, _, _, _, h => by omega
  | fuel + 1, n, w, hn, hw, he, hf => by
    unfold whileN
    rw [word_test]
    by_cases hx : w ∈ ws
    · have h1 : n < N + 1 := by
        rcases Nat.lt_or_ge n (N + 1) with h | h
        · exact h
        · have : w = lett N := he (by omega)
          rw [this] at hx
          exact absurd hx hN
      simp only [hx, decide_true]
      rw [word_step _ _ _ _ _ _ (by omega)]
      dsimp only
      exact word_loop o0 o2 o3 ws N hN hN2 fuel (n + 1) (lett n) (by omega) (lett_word (by omega)) (fun h => by
        have : n = N := by omega
        rw [this]) (by omega)
    · simp only [hx, decide_false]
      exact ⟨w, I (n : Nat), hw, hx, rfl⟩
theorem nth_T {ws : List (List Nat)} {r : Nat} (h : r < ws.length) : ∃ w, w ∈ ws ∧ atI (ws.map T) (r : Int) = some (T w) := by
  refine ⟨ws[r], List.getElem_mem h, ?_⟩
  apply atI_nat
  rw [List.getElem?_map, List.getElem?_eq_getElem h]
  rfl
theorem word_eq (p : Pot) (ws : List (List Nat)) (hw : ∀ w ∈ ws, isWord w = true) (hl : ws.length ≤ 24) : ∃ l p', isWord l = true ∧ l ∉ ws ∧ d__law_word [potO p, WS ws] = .ok (.fz (T l)) [potO p', WS ws] := by
  obtain ⟨way, p1, hway, e1⟩ := take_ex p 4 (by decide) (by decide)
  obtain ⟨r2, p2, hr2, e2⟩ := take_ex p1 13 (by decide) (by decide)
  obtain ⟨w0, hw0, a2⟩ := nth_T (ws := SOME) (r := r2) (by exact hr2)
  have hw0 := some_word w0 hw0
  have okws := words_ok hw
  have b1 : fitB 8 = true := fitB_small (by decide)
  -- the first if
  have s4 : ∃ w' p', isWord w' = true ∧ ∀ o5, sIf (evT (evP (ev2 fEq (evP (evName 3)) (evP (evC (.v (.int 1)))))))
      (sSet 4 (evCallX d__law_letters [false] (evXCons (evCallX d__law_take [true, false] (evXCons (evName 0) (evXCons (ev2 fSub (evP (ev2 fPow (evP (evC (.v (.int 26)))) (evP (evC (.v (.int 8)))))) (evP (evC (.v (.int 26))))) evXNil))) evXNil))) sNext [potO p2, WS ws, ST, I (way : Nat), .fz (T w0), o5] = .ok .next [potO p', WS ws, ST, I (way : Nat), .fz (T w'), o5] := by
    by_cases h : way = 1
    · subst h
      obtain ⟨r, p', hr, e⟩ := take_ex p2 208827064550 (by decide) (by decide)
      have e3 := letters_eq r (by omega)
      refine ⟨lett r, p', lett_word (by omega), fun o5 => ?_⟩
      have e' : d__law_take [potO p2, I 208827064550] = .ok (I (r : Nat)) [potO p', I 208827064550] := e
      simp [gt, e', e3, scal]
    · refine ⟨w0, p2, hw0, fun o5 => ?_⟩
      have h' : ¬ (way : Int) = 1 := by omega
      simp [gt, h', scal]
  obtain ⟨w4, p4, hw4, s4⟩ := s4
  have s5 : ∃ w' p', isWord w' = true ∧ ∀ o5, (sIf (evAnd (evT (evP (ev2 fEq (evP (evName 3)) (evP (evC (.v (.int 2))))))) (evT (evP (ev2 fNe (evP (evName 1)) (evP (evN evLst evNil))))))
    (sSeq (sSet 4 (ev2 fIx (evP (evName 1)) (evP (evCallX d__law_take [true, false] (evXCons (evName 0) (evXCons (evN pLen (evCons (evP (evName 1)) evNil)) evXNil))))))
    (sSet 4 (evSl fSl (evP (ev2 fAdd (evP (evName 4)) (evP (evCallX d__law_letters [false] (evXCons (evCallX d__law_take [true, false] (evXCons (evName 0) (evXCons (evC (.v (.int 26))) evXNil))) evXNil))))) (evPart none) (evPart (some (evP (evC (.v (.int 8))))))))) sNext) [potO p4, WS ws, ST, I (way : Nat), .fz (T w4), o5] = .ok .next [potO p', WS ws, ST, I (way : Nat), .fz (T w'), o5] := by
    by_cases h : way = 2
    · subst h
      by_cases hws : ws = []
      · subst hws
        exact ⟨w4, p4, hw4, fun o5 => by simp [gt, scal]⟩
      · have hpos : 0 < ws.length := List.length_pos_iff.mpr hws
        obtain ⟨r, p5, hr, e⟩ := take_ex p4 ws.length hpos (by omega)
        obtain ⟨w1, hw1, a1⟩ := nth_T hr
        obtain ⟨k, p6, hk, e'⟩ := take_ex p5 26 (by decide) (by decide)
        have e3 := letters_eq k (by omega)
        have q1 := isWord_ok (hw w1 hw1)
        have q2 := isWord_ok (lett_word (n := k) (by omega))
        have c := cutS_take (w1 ++ lett k) 8
        have e'' : d__law_take [potO p5, I 26] = .ok (I (k : Nat)) [potO p6, I 26] := e'
        refine ⟨(w1 ++ lett k).take 8, p6, isWord_mk ?_ (by rw [List.length_take]; omega) ?_, fun o5 => ?_⟩
        · rw [List.length_take, List.length_append]; omega
        · exact List.all_eq_true.mpr fun x hx => by
            rcases List.mem_append.mp (List.mem_of_mem_take hx) with z | z
            · exact List.all_eq_true.mp q1.2.2.1 x z
            · exact List.all_eq_true.mp q2.2.2.1 x z
        · have g1 : w1.length + (lett k).length ≤ 16777216 := by omega
          have c' : cutS (tx (w1 ++ lett k)) none (some 8) = tx ((w1 ++ lett k).take 8) := c
          simp [gt, scal, hws, okws, e, a1, e'', e3, tx_app, tx_len, g1, c', hl]
    · have h' : ¬ (way : Int) = 2 := by omega
      exact ⟨w4, p4, hw4, fun o5 => by simp [gt, scal, h']⟩
  obtain ⟨w5, p5, hw5, s5⟩ := s5
  have s6 : ∃ w' p', isWord w' = true ∧ ∀ o5, (sIf (evAnd (evT (evP (ev2 fEq (evP (evName 3)) (evP (evC (.v (.int 3))))))) (evT (evP (ev2 fNe (evP (evName 1)) (evP (evN evLst evNil))))))
    (sSeq (sSet 4 (ev2 fIx (evP (evName 1)) (evP (evCallX d__law_take [true, false] (evXCons (evName 0) (evXCons (evN pLen (evCons (evP (evName 1)) evNil)) evXNil))))))
    (sSet 4 (evSl fSl (evP (evName 4)) (evPart none) (evPart (some (evP (ev2 fAdd (evP (evC (.v (.int 1)))) (evP (evCallX d__law_take [true, false] (evXCons (evName 0) (evXCons (evN pLen (evCons (evP (evName 4)) evNil)) evXNil))))))))))) sNext) [potO p5, WS ws, ST, I (way : Nat), .fz (T w5), o5] = .ok .next [potO p', WS ws, ST, I (way : Nat), .fz (T w'), o5] := by
    by_cases h : way = 3
    · subst h
      by_cases hws : ws = []
      · subst hws
        exact ⟨w5, p5, hw5, fun o5 => by simp [gt, scal]⟩
      · have hpos : 0 < ws.length := List.length_pos_iff.mpr hws
        obtain ⟨r, p6, hr, e⟩ := take_ex p5 ws.length hpos (by omega)
        obtain ⟨w1, hw1, a1⟩ := nth_T hr
        have q1 := isWord_ok (hw w1 hw1)
        obtain ⟨k, p7, hk, e'⟩ := take_ex p6 w1.length (by omega) (by omega)
        have c := cutS_take w1 (1 + k)
        refine ⟨w1.take (1 + k), p7, isWord_mk ?_ (by rw [List.length_take]; omega) ?_, fun o5 => ?_⟩
        · rw [List.length_take]; omega
        · exact List.all_eq_true.mpr fun x hx => List.all_eq_true.mp q1.2.2.1 x (List.mem_of_mem_take hx)
        · have g1 : w1.length ≤ 16777216 := by omega
          have c' : cutS (tx w1) none (some (1 + (k : Int))) = tx (w1.take (1 + k)) := by
            rw [← c]
            congr 2
          simp [gt, scal, hws, okws, e, a1, e', tx_len, g1, c', hl]
    · have h' : ¬ (way : Int) = 3 := by omega
      exact ⟨w5, p5, hw5, fun o5 => by simp [gt, scal, h']⟩
  obtain ⟨w6, p6, hw6, s6⟩ := s6
  obtain ⟨N, hN1, hN⟩ := fresh_lett 26 ws (by omega) (Nat.le_refl _)
  obtain ⟨l, o, l1, l2, e8⟩ := word_loop (potO p6) ST (I (way : Nat)) ws N hN hN1 FUEL 0 w6 (by omega) hw6 (fun h => by omega) (by rw [FUEL_eq]; omega)
  refine ⟨l, p6, l1, l2, ?_⟩
  have e1' : d__law_take [potO p, I 4] = .ok (I (way : Nat)) [potO p1, I 4] := e1
  have e2' : d__law_take [potO p1, I 13] = .ok (I (r2 : Nat)) [potO p2, I 13] := e2
  refine fnS_o (ρ := [potO p6, WS ws, ST, I (way : Nat), .fz (T l), o]) (by simp) ?_ (by simp)
  show b__law_word [potO p, WS ws, .gone, .gone, .gone, .gone] = _
  unfold b__law_word
  rw [sSeq_next (ρ1 := [potO p, WS ws, ST, .gone, .gone, .gone]) (by
    have := some_eq
    have sl : SOME.length = 13 := rfl
    simp [this, sl])]
  rw [sSeq_next (ρ1 := [potO p1, WS ws, ST, I (way : Nat), .gone, .gone]) (by simp [gt, e1'])]
  rw [sSeq_next (ρ1 := [potO p2, WS ws, ST, I (way : Nat), .fz (T w0), .gone]) (by simp [gt, e2', a2])]
  rw [sSeq_next (s4 _), sSeq_next (s5 _), sSeq_next (s6 _)]
  rw [sSeq_next (ρ1 := [potO p6, WS ws, ST, I (way : Nat), .fz (T w6), I (0 : Nat)]) (by simp [gt])]
  rw [sSeq_next e8]
  simp [gt]
theorem sFor_eq {t : Rho → Res (List D)} {g : GR} {b : Rho → Res Fl} {ρ ρ1 : Rho} {ds : List D} (h : t ρ = .ok ds ρ1) : sFor t g b ρ = forN g b ds ρ1 := by
  unfold sFor
  rw [h]
theorem rng1_eq {t : Rho → Res (List Opd)} {ρ ρ1 : Rho} {z : Int} (h : t ρ = .ok [.d (.v (.int z))] ρ1) (b1 : inR z = true) : evRng1 t ρ = .ok (rngD 0 z.toNat) ρ1 := by
  unfold evRng1
  rw [h]
  exact if_pos b1
theorem sFor_rng {t : Rho → Res (List Opd)} {g : GR} {b : Rho → Res Fl} {ρ ρ1 : Rho} {r : Res Fl} {m : Nat} (h : t ρ = .ok [.d (.v (.int (m : Int)))] ρ1) (hm : m ≤ 1000000) (e : forN g b (rngD 0 m) ρ1 = r) : sFor (evRng1 t) g b ρ = r := by
  have b1 : inR (m : Int) = true := inR_of (by omega) (by omega)
  have e2 : m = (m : Int).toNat := (Int.toNat_natCast m).symm
  rw [e2] at e
  generalize (m : Int) = z at h b1 e
  rw [sFor_eq (rng1_eq h b1)]
  exact e
mutual
/-- plain data, at most n deep -/
def gD : Nat → D → Bool
  | _, .v .non => true
  | _, .v (.int _) => true
  | _, .v (.str z) => PyData.strOk z
  | n + 1, .tup ds => gDs n ds
  | n + 1, .wtp ds => gDs n ds
  | n + 1, .lst ds => gDs n ds
  | _, _ => false
def gDs : Nat → List D → Bool
  | _, [] => true
  | n, d :: ds => gD n d && gDs n ds
end
mutual
def pyD : D → PyData
  | .v (.int i) => .int i
  | .v (.str z) => .str z
  | .tup ds => .tuple (pyDs ds)
  | .wtp ds => .tuple (pyDs ds)
  | .lst ds => .list (pyDs ds)
  | _ => .none
def pyDs : List D → List PyData
  | [] => []
  | d :: ds => pyD d :: pyDs ds
end
mutual
/-- == of plain data -/
def dE : D → D → Bool
  | .v .non, .v .non => true
  | .v (.int a), .v (.int b) => a == b
  | .v (.str a), .v (.str b) => a == b
  | .tup a, .tup b => dEs a b
  | .tup a, .wtp b => dEs a b
  | .wtp a, .tup b => dEs a b
  | .wtp a, .wtp b => dEs a b
  | .lst a, .lst b => dEs a b
  | _, _ => false
def dEs : List D → List D → Bool
  | [], [] => true
  | a :: as, b :: bs => dE a b && dEs as bs
  | _, _ => false
end
mutual
theorem gD_ok : ∀ (n : Nat) (d : D), gD n d = true → d.py = some (pyD d) ∧ (pyD d).canLay0 = true ∧ (pyD d).depth ≤ n
  | _, .v .non, _ => by simp [pyD, PyData.canLay0, PyData.depth]
  | _, .v (.int _), _ => by simp [pyD, PyData.canLay0, PyData.depth]
  | _, .v (.str z), h => by
    unfold gD at h
    simp [pyD, PyData.canLay0, PyData.depth, h]
  | n + 1, .tup ds, h => by
    obtain ⟨h1, h2, h3⟩ := gDs_ok n ds h
    refine ⟨by simp [D.py, h1, pyD], by rw [pyD, PyData.canLay0]; exact h2, by rw [pyD, PyData.depth]; omega⟩
  | n + 1, .wtp ds, h => by
    obtain ⟨h1, h2, h3⟩ := gDs_ok n ds h
    refine ⟨by simp [D.py, h1, pyD], by rw [pyD, PyData.canLay0]; exact h2, by rw [pyD, PyData.depth]; omega⟩
  | n + 1, .lst ds, h => by
    obtain ⟨h1, h2, h3⟩ := gDs_ok n ds h
    refine ⟨by simp [D.py, h1, pyD], by rw [pyD, PyData.canLay0]; exact h2, by rw [pyD, PyData.depth]; omega⟩
  | 0, .tup _, h => by cases h
  | 0, .wtp _, h => by cases h
  | 0, .lst _, h => by cases h
  | _, .v (.bl _), h => by cases h
  | _, .v (.ty _), h => by cases h
  | _, .v (.byt _), h => by cases h
  | _, .v (.flt _), h => by cases h
  | _, .v (.ref _), h => by cases h
  | _, .dic _, h => by cases h
  | _, .dct _, h => by cases h
  | _, .ins _ _, h => by cases h
  | _, .exc _ _, h => by cases h
theorem gDs_ok : ∀ (n : Nat) (ds : List D), gDs n ds = true → pys ds = some (pyDs ds) ∧ PyData.canLayAll0 (pyDs ds) = true ∧ PyData.depthAll (pyDs ds) ≤ n
  | n, [], _ => ⟨rfl, rfl, by simp [pyDs, PyData.depthAll]⟩
  | n, d :: ds, h => by
    unfold gDs at h
    obtain ⟨h1, h2⟩ := Bool.and_eq_true_iff.mp h
    obtain ⟨a1, a2, a3⟩ := gD_ok n d h1
    obtain ⟨b1, b2, b3⟩ := gDs_ok n ds h2
    refine ⟨by simp [pys, a1, b1, pyDs], by rw [pyDs, PyData.canLayAll0, a2, b2]; rfl, by rw [pyDs, PyData.depthAll]; omega⟩
end
mutual
def pl : D → Bool
  | .v .non => true
  | .v (.int _) => true
  | .v (.str _) => true
  | .tup ds => pls ds
  | .wtp ds => pls ds
  | .lst ds => pls ds
  | _ => false
def pls : List D → Bool
  | [] => true
  | d :: ds => pl d && pls ds
end
mutual
theorem pl_of : ∀ (n : Nat) (d : D), gD n d = true → pl d = true
  | _, .v .non, _ => rfl
  | _, .v (.int _), _ => rfl
  | _, .v (.str z), _ => rfl
  | n + 1, .tup ds, h => pls_of n ds h
  | n + 1, .wtp ds, h => pls_of n ds h
  | n + 1, .lst ds, h => pls_of n ds h
  | 0, .tup _, h => by cases h
  | 0, .wtp _, h => by cases h
  | 0, .lst _, h => by cases h
  | _, .v (.bl _), h => by cases h
  | _, .v (.ty _), h => by cases h
  | _, .v (.byt _), h => by cases h
  | _, .v (.flt _), h => by cases h
  | _, .v (.ref _), h => by cases h
  | _, .dic _, h => by cases h
  | _, .dct _, h => by cases h
  | _, .ins _ _, h => by cases h
  | _, .exc _ _, h => by cases h
theorem pls_of : ∀ (n : Nat) (ds : List D), gDs n ds = true → pls ds = true
  | n, [], _ => rfl
  | n, d :: ds, h => by
    unfold gDs at h
    obtain ⟨h1, h2⟩ := Bool.and_eq_true_iff.mp h
    rw [pls, pl_of n d h1, pls_of n ds h2]
    rfl
end
mutual
theorem eqv_pl : ∀ (d e : D), pl d = true → pl e = true → PyData.eqv (pyD d) (pyD e) = dE d e
  | .v .non, e, _, h => by
    cases e with
    | v x => cases x <;> first | rfl | cases h
    | _ => first | rfl | cases h
  | .v (.int _), e, _, h => by
    cases e with
    | v x => cases x <;> first | rfl | cases h
    | _ => first | rfl | cases h
  | .v (.str _), e, _, h => by
    cases e with
    | v x => cases x <;> first | rfl | cases h
    | _ => first | rfl | cases h
  | .tup ds, e, h1, h => by
    cases e with
    | v x => cases x <;> first | rfl | cases h
    | tup es => rw [pyD, pyD, PyData.eqv, dE]; exact eqvs_pl ds es h1 h
    | wtp es => rw [pyD, pyD, PyData.eqv, dE]; exact eqvs_pl ds es h1 h
    | _ => first | rfl | cases h
  | .wtp ds, e, h1, h => by
    cases e with
    | v x => cases x <;> first | rfl | cases h
    | tup es => rw [pyD, pyD, PyData.eqv, dE]; exact eqvs_pl ds es h1 h
    | wtp es => rw [pyD, pyD, PyData.eqv, dE]; exact eqvs_pl ds es h1 h
    | _ => first | rfl | cases h
  | .lst ds, e, h1, h => by
    cases e with
    | v x => cases x <;> first | rfl | cases h
    | lst es => rw [pyD, pyD, PyData.eqv, dE]; exact eqvs_pl ds es h1 h
    | _ => first | rfl | cases h
theorem eqvs_pl : ∀ (ds es : List D), pls ds = true → pls es = true → PyData.eqvAll (pyDs ds) (pyDs es) = dEs ds es
  | [], [], _, _ => rfl
  | [], _ :: _, _, _ => rfl
  | _ :: _, [], _, _ => rfl
  | d :: ds, e :: es, h1, h2 => by
    unfold pls at h1 h2
    obtain ⟨a1, a2⟩ := Bool.and_eq_true_iff.mp h1
    obtain ⟨b1, b2⟩ := Bool.and_eq_true_iff.mp h2
    rw [pyDs, pyDs, PyData.eqvAll, eqv_pl d e a1 b1, eqvs_pl ds es a2 b2, dEs]
end
mutual
theorem dE_refl : ∀ d : D, pl d = true → dE d d = true
  | .v .non, _ => rfl
  | .v (.int a), _ => by rw [dE]; exact beq_self_eq_true a
  | .v (.str a), _ => by rw [dE]; exact beq_self_eq_true a
  | .tup ds, h => by rw [dE]; exact dEs_refl ds h
  | .wtp ds, h => by rw [dE]; exact dEs_refl ds h
  | .lst ds, h => by rw [dE]; exact dEs_refl ds h
theorem dEs_refl : ∀ ds : List D, pls ds = true → dEs ds ds = true
  | [], _ => rfl
  | d :: ds, h => by
    unfold pls at h
    obtain ⟨a1, a2⟩ := Bool.and_eq_true_iff.mp h
    rw [dEs, dE_refl d a1, dEs_refl ds a2]
    rfl
end
def isV : D → Bool
  | .v _ => true
  | _ => false
theorem shaped_pl {d : D} (h : gD 64 d = true) : SeqAt.shaped (pyD d) = true := by
  obtain ⟨_, h2, h3⟩ := gD_ok 64 d h
  unfold SeqAt.shaped
  rw [h2, decide_eq_true h3]
  rfl
theorem pVV_nv {C : V → V → Bool} {g : V → V → V} {d e : D} (h : isV d = false ∨ isV e = false) : pVV C g [d, e] = none := by
  rcases h with h | h
  · cases d <;> first | rfl | cases h
  · cases d with
    | v x => cases e <;> first | rfl | cases h
    | _ => rfl
theorem fEq_pl {d e : D} (hd : gD 64 d = true) (he : gD 64 e = true) (nv : isV d = false ∨ isV e = false) : fEq [d, e] = some (.fz (.v (.bl (dE d e)))) := by
  unfold fEq DL.alt
  rw [pVV_nv nv]
  unfold pPP
  dsimp only
  rw [(gD_ok 64 d hd).1]
  dsimp only
  rw [(gD_ok 64 e he).1]
  dsimp only
  rw [shaped_pl hd, shaped_pl he, eqv_pl d e (pl_of 64 d hd) (pl_of 64 e he)]
  rfl
theorem fNe_pl {d e : D} (hd : gD 64 d = true) (he : gD 64 e = true) (nv : isV d = false ∨ isV e = false) : fNe [d, e] = some (.fz (.v (.bl (!dE d e)))) := by
  unfold fNe DL.alt
  rw [pVV_nv nv]
  unfold pPP
  dsimp only
  rw [(gD_ok 64 d hd).1]
  dsimp only
  rw [(gD_ok 64 e he).1]
  dsimp only
  rw [shaped_pl hd, shaped_pl he, eqv_pl d e (pl_of 64 d hd) (pl_of 64 e he)]
  rfl
theorem gDs_all {n : Nat} : ∀ {ds : List D}, (∀ d ∈ ds, gD n d = true) → gDs n ds = true
  | [], _ => rfl
  | d :: ds, h => by rw [gDs, h d List.mem_cons_self, gDs_all fun x hx => h x (List.mem_cons_of_mem _ hx)]; rfl
theorem gDs_map {α : Type} {n : Nat} {f : α → D} {xs : List α} (h : ∀ x ∈ xs, gD n (f x) = true) : gDs n (xs.map f) = true := gDs_all fun d hd => by
  obtain ⟨x, hx, rfl⟩ := List.mem_map.mp hd
  exact h x hx
mutual
theorem gD_mono : ∀ {n k : Nat} {d : D}, n ≤ k → gD n d = true → gD k d = true
  | _, _, .v .non, _, _ => by unfold gD; rfl
  | _, _, .v (.int _), _, _ => by unfold gD; rfl
  | _, _, .v (.str z), _, h => by unfold gD at h ⊢; exact h
  | n + 1, k + 1, .tup ds, hl, h => gDs_mono (n := n) (k := k) (ds := ds) (by omega) h
  | n + 1, k + 1, .wtp ds, hl, h => gDs_mono (n := n) (k := k) (ds := ds) (by omega) h
  | n + 1, k + 1, .lst ds, hl, h => gDs_mono (n := n) (k := k) (ds := ds) (by omega) h
  | 0, _, .tup _, _, h => by cases h
  | 0, _, .wtp _, _, h => by cases h
  | 0, _, .lst _, _, h => by cases h
  | n + 1, 0, .tup _, hl, h => by omega
  | n + 1, 0, .wtp _, hl, h => by omega
  | n + 1, 0, .lst _, hl, h => by omega
  | _, _, .v (.bl _), _, h => by cases h
  | _, _, .v (.ty _), _, h => by cases h
  | _, _, .v (.byt _), _, h => by cases h
  | _, _, .v (.flt _), _, h => by cases h
  | _, _, .v (.ref _), _, h => by cases h
  | _, _, .dic _, _, h => by cases h
  | _, _, .dct _, _, h => by cases h
  | _, _, .ins _ _, _, h => by cases h
  | _, _, .exc _ _, _, h => by cases h
theorem gDs_mono : ∀ {n k : Nat} {ds : List D}, n ≤ k → gDs n ds = true → gDs k ds = true
  | n, k, [], _, _ => by unfold gDs; rfl
  | n, k, d :: ds, hl, h => by
    unfold gDs at h ⊢
    obtain ⟨h1, h2⟩ := Bool.and_eq_true_iff.mp h
    rw [gD_mono hl h1, gDs_mono hl h2]
    rfl
end
abbrev nI (j : Nat) : D := .v (.int (j : Nat))
abbrev W := List Nat
abbrev Rows := List (W × List W)
def keys {α : Type} (R : List (W × α)) : List W := R.map (·.1)
@[simp] theorem keys_nil {α : Type} : keys ([] : List (W × α)) = [] := rfl
@[simp] theorem keys_cons {α : Type} (p : W × α) (R : List (W × α)) : keys (p :: R) = p.1 :: keys R := rfl
@[simp] theorem keys_app {α : Type} (R S : List (W × α)) : keys (R ++ S) = keys R ++ keys S := List.map_append
@[simp] theorem keys_len {α : Type} (R : List (W × α)) : (keys R).length = R.length := List.length_map _
theorem mem_keys {α : Type} {R : List (W × α)} {w : W} : w ∈ keys R ↔ ∃ x, (w, x) ∈ R := by
  unfold keys
  rw [List.mem_map]
  exact ⟨fun ⟨r, h, e⟩ => ⟨r.2, by rw [← e]; exact h⟩, fun ⟨x, h⟩ => ⟨_, h, rfl⟩⟩
theorem mem_row {α : Type} {R : List (W × α)} {r : W × α} (h : r ∈ R) : r.1 ∈ keys R := mem_keys.mpr ⟨r.2, h⟩
def lk {α : Type} (kvs : List (W × α)) (w : W) : Option α := (kvs.find? fun p => decide (p.1 = w)).map (·.2)
theorem lk_nil {α : Type} (w : W) : lk ([] : List (W × α)) w = none := rfl
theorem lk_cons {α : Type} (p : W × α) (kvs : List (W × α)) (w : W) : lk (p :: kvs) w = if p.1 = w then some p.2 else lk kvs w := by
  unfold lk
  rw [List.find?_cons]
  by_cases h : p.1 = w
  · simp [h]
  · simp [h]
theorem lk_some {α : Type} : ∀ {kvs : List (W × α)} {w : W} {x : α}, lk kvs w = some x → (w, x) ∈ kvs
  | [], w, x, h => by cases h
  | p :: kvs, w, x, h => by
    rw [lk_cons] at h
    split at h
    · rename_i e
      cases h
      subst e
      exact List.mem_cons_self
    · exact List.mem_cons_of_mem _ (lk_some h)
theorem lk_none {α : Type} : ∀ {kvs : List (W × α)} {w : W}, lk kvs w = none ↔ w ∉ keys kvs
  | [], w => by simp [lk_nil]
  | p :: kvs, w => by
    rw [lk_cons, keys_cons, List.mem_cons]
    have ih := lk_none (kvs := kvs) (w := w)
    by_cases h : p.1 = w
    · simp [h]
    · rw [if_neg h, ih]
      constructor
      · rintro h1 (h2 | h2)
        · exact h h2.symm
        · exact h1 h2
      · exact fun h1 h2 => h1 (.inr h2)
theorem lk_ex {α : Type} {kvs : List (W × α)} {w : W} (h : w ∈ keys kvs) : ∃ x, lk kvs w = some x := by
  cases e : lk kvs w with
  | none => exact absurd h (lk_none.mp e)
  | some x => exact ⟨x, rfl⟩
def ups (R : Rows) (w : W) : List W := (lk R w).getD []
theorem ups_mem {R : Rows} {w : W} (h : w ∈ keys R) : (w, ups R w) ∈ R := by
  obtain ⟨x, e⟩ := lk_ex h
  unfold ups
  rw [e]
  exact lk_some e
def addU (f us : List W) : List W := us.foldl (fun f u => if u ∈ f then f else f ++ [u]) f
theorem addU_cons (f : List W) (u : W) (us : List W) : addU f (u :: us) = addU (if u ∈ f then f else f ++ [u]) us := rfl
theorem addU_pre : ∀ (us f : List W), ∃ l, addU f us = f ++ l
  | [], f => ⟨[], by simp [addU]⟩
  | u :: us, f => by
    rw [addU_cons]
    split
    · exact addU_pre us f
    · obtain ⟨l, e⟩ := addU_pre us (f ++ [u])
      exact ⟨u :: l, by rw [e]; simp⟩
theorem addU_mem : ∀ (us f : List W) (x : W), x ∈ addU f us ↔ x ∈ f ∨ x ∈ us
  | [], f, x => by simp [addU]
  | u :: us, f, x => by
    rw [addU_cons, addU_mem us _ x, List.mem_cons]
    split
    · rename_i h
      constructor
      · rintro (z | z)
        · exact .inl z
        · exact .inr (.inr z)
      · rintro (z | z | z)
        · exact .inl z
        · rw [z]; exact .inl h
        · exact .inr z
    · rw [List.mem_append, List.mem_singleton, or_assoc]
theorem addU_nd : ∀ (us f : List W), f.Nodup → (addU f us).Nodup
  | [], f, h => h
  | u :: us, f, h => by
    rw [addU_cons]
    split
    · exact addU_nd us f h
    · rename_i hu
      refine addU_nd us _ (List.nodup_append.mpr ⟨h, by simp, fun a ha b hb z => ?_⟩)
      rw [List.mem_singleton.mp hb] at z
      rw [z] at ha
      exact hu ha
theorem nd_len : ∀ {a b : List W}, a.Nodup → (∀ x ∈ a, x ∈ b) → a.length ≤ b.length
  | [], b, _, _ => by simp
  | x :: a, b, nd, h => by
    rw [List.nodup_cons] at nd
    have hx : x ∈ b := h x List.mem_cons_self
    have := nd_len (a := a) (b := b.erase x) nd.2 fun y hy => by
      refine (List.mem_erase_of_ne fun e => ?_).mpr (h y (List.mem_cons_of_mem _ hy))
      rw [e] at hy
      exact nd.1 hy
    rw [List.length_erase_of_mem hx] at this
    have := List.length_pos_of_mem hx
    rw [List.length_cons]
    omega
def gupN (R : Rows) : Nat → Nat → List W → List W
  | 0, _, f => f
  | n + 1, i, f => if h : i < f.length then gupN R n (i + 1) (addU f (ups R f[i])) else f
/-- all kinds under which one stands, as the program finds them -/
def gup (R : Rows) (w : W) : List W := gupN R 25 0 [w]
def Closed (R : Rows) : Prop := ∀ r ∈ R, ∀ u ∈ r.2, u ∈ keys R
/-- the state while it is gone up -/
structure Gu (R : Rows) (w : W) (i : Nat) (f : List W) : Prop where
  nd : f.Nodup
  sub : ∀ x ∈ f, x ∈ keys R
  le : i ≤ f.length
  cl : ∀ j, (h : j < f.length) → j < i → ∀ u ∈ ups R f[j], u ∈ f
  hd : ∃ l, f = w :: l
theorem Gu.start {R : Rows} {w : W} (h : w ∈ keys R) : Gu R w 0 [w] :=
  ⟨by simp, by simpa using h, by simp, fun j _ z => by omega, [], rfl⟩
theorem Gu.step {R : Rows} {w : W} {i : Nat} {f : List W} (c : Closed R) (g : Gu R w i f) (h : i < f.length) : Gu R w (i + 1) (addU f (ups R f[i])) := by
  obtain ⟨l, e⟩ := addU_pre (ups R f[i]) f
  refine ⟨addU_nd _ _ g.nd, fun x hx => ?_, ?_, fun j hj hji u hu => ?_, ?_⟩
  · rcases (addU_mem _ _ _).mp hx with z | z
    · exact g.sub x z
    · exact c _ (ups_mem (g.sub _ (List.getElem_mem h))) x z
  · rw [e, List.length_append]; omega
  · have hjf : j < f.length := by omega
    have e2 : (addU f (ups R f[i]))[j] = f[j] := by
      simp only [e]
      exact List.getElem_append_left hjf
    rw [e2] at hu
    rw [addU_mem]
    by_cases hj2 : j < i
    · exact .inl (g.cl j hjf hj2 u hu)
    · obtain rfl : j = i := by omega
      exact .inr hu
  · obtain ⟨m, e3⟩ := g.hd
    exact ⟨m ++ l, by rw [e, e3]; rfl⟩
theorem Gu.len {R : Rows} {w : W} {i : Nat} {f : List W} (g : Gu R w i f) : f.length ≤ R.length := by
  have := nd_len g.nd g.sub
  simpa using this
theorem Gu.run {R : Rows} {w : W} (c : Closed R) : ∀ (n i : Nat) (f : List W), Gu R w i f → R.length < n + i → ∃ j, Gu R w j (gupN R n i f) ∧ j = (gupN R n i f).length
  | 0, i, f, g, h => by have := g.len; have := g.le; omega
  | n + 1, i, f, g, h => by
    unfold gupN
    split
    · rename_i hi
      exact Gu.run c n (i + 1) _ (g.step c hi) (by omega)
    · exact ⟨i, g, by have := g.le; omega⟩
inductive Up (R : Rows) : W → W → Prop
  | refl (w : W) : Up R w w
  | step {w u v : W} : u ∈ ups R w → Up R u v → Up R w v
theorem Up.trans {R : Rows} {a b c : W} (h : Up R a b) (k : Up R b c) : Up R a c := by
  induction h with
  | refl => exact k
  | step hu _ ih => exact .step hu (ih k)
theorem Up.one {R : Rows} {a b : W} (h : b ∈ ups R a) : Up R a b := .step h (.refl _)
theorem gupN_up {R : Rows} {w : W} : ∀ (n i : Nat) (f : List W), (∀ x ∈ f, Up R w x) → ∀ x ∈ gupN R n i f, Up R w x
  | 0, i, f, h => h
  | n + 1, i, f, h => by
    unfold gupN
    split
    · rename_i hi
      refine gupN_up n (i + 1) _ fun x hx => ?_
      rcases (addU_mem _ _ _).mp hx with z | z
      · exact h x z
      · exact (h _ (List.getElem_mem hi)).trans (.one z)
    · exact h
structure GupOk (R : Rows) (w : W) (f : List W) : Prop where
  nd : f.Nodup
  sub : ∀ x ∈ f, x ∈ keys R
  hd : ∃ l, f = w :: l
  cl : ∀ x ∈ f, ∀ u ∈ ups R x, u ∈ f
  up : ∀ x, x ∈ f ↔ Up R w x
theorem gup_ok {R : Rows} {w : W} (c : Closed R) (hl : R.length ≤ 24) (h : w ∈ keys R) : GupOk R w (gup R w) := by
  obtain ⟨j, g, e⟩ := Gu.run c 25 0 [w] (.start h) (by omega)
  have cl : ∀ x ∈ gup R w, ∀ u ∈ ups R x, u ∈ gup R w := fun x hx u hu => by
    obtain ⟨k, hk, rfl⟩ := List.getElem_of_mem hx
    exact g.cl k hk (by rw [e]; exact hk) u hu
  obtain ⟨l, hd⟩ := g.hd
  have w0 : w ∈ gup R w := by
    show w ∈ gupN R 25 0 [w]
    rw [hd]
    exact List.mem_cons_self
  have up : ∀ {a x : W}, Up R a x → a ∈ gup R w → x ∈ gup R w := fun hx => by
    induction hx with
    | refl => exact id
    | step hu _ ih => exact fun ha => ih (cl _ ha _ hu)
  exact ⟨g.nd, g.sub, ⟨l, hd⟩, cl, fun x => ⟨gupN_up 25 0 [w] (fun y hy => by rw [List.mem_singleton.mp hy]; exact .refl _) x, fun hx => up hx w0⟩⟩
/-- rows that make a book -/
structure BkOk (R : Rows) : Prop where
  l1 : 1 ≤ R.length
  l2 : R.length ≤ 24
  wd : ∀ w ∈ keys R, isWord w = true
  nd : (keys R).Nodup
  ul : ∀ r ∈ R, r.2.length ≤ 8
  us : Closed R
  un : ∀ r ∈ R, r.2.Nodup
  ac : ∃ rk : W → Nat, ∀ w ∈ keys R, ∀ u ∈ ups R w, rk u < rk w
theorem BkOk.gup {R : Rows} (b : BkOk R) {w : W} (h : w ∈ keys R) : GupOk R w (gup R w) := gup_ok b.us b.l2 h
theorem BkOk.sub {R : Rows} (b : BkOk R) {w u : W} (h : w ∈ keys R) (hu : u ∈ ups R w) : u ∈ keys R := b.us _ (ups_mem h) u hu
/-- whether one stands under another one -/
def un (R : Rows) (a b : W) : Bool := decide (b ∈ gup R a)
theorem BkOk.un_iff {R : Rows} (b : BkOk R) {x y : W} (h : x ∈ keys R) : WK.un R x y = true ↔ Up R x y := by
  unfold WK.un
  rw [decide_eq_true_eq]
  exact (b.gup h).up y
theorem lcN_typed {α : Type} {g : GR} {c : Rho → Res Bool} {e : Rho → Res Opd} {vs : List Nat} {ρ0 : Rho} (enc : α → D) (P : α → Bool) (out : α → D) : ∀ (xs : List α), (∀ x ∈ xs, ∃ ρ1, g (enc x) ρ0 = some ρ1 ∧ c ρ1 = .ok (P x) ρ1 ∧ (P x = true → e ρ1 = .ok (.d (out x)) ρ1) ∧ wipeR vs ρ1 = ρ0) → lcN g c e vs (xs.map enc) ρ0 = .ok ((xs.filter P).map out) ρ0
  | [], _ => rfl
  | x :: xs, h => by
    obtain ⟨ρ1, h1, h2, h3, h4⟩ := h x List.mem_cons_self
    have ih := lcN_typed (g := g) (c := c) (e := e) (vs := vs) (ρ0 := ρ0) enc P out xs fun y hy => h y (List.mem_cons_of_mem _ hy)
    rw [List.map_cons]
    unfold lcN
    rw [h1]
    dsimp only
    rw [h2]
    cases hp : P x with
    | true =>
      dsimp only
      rw [h3 hp]
      dsimp only
      rw [h4, ih, List.filter_cons_of_pos hp]
      rfl
    | false =>
      dsimp only
      rw [h4, ih, List.filter_cons_of_neg (by simp [hp])]
/-- the same without a condition -/
theorem lcN_map {α : Type} {g : GR} {c : Rho → Res Bool} {e : Rho → Res Opd} {vs : List Nat} {ρ0 : Rho} (enc : α → D) (out : α → D) (xs : List α) (h : ∀ x ∈ xs, ∃ ρ1, g (enc x) ρ0 = some ρ1 ∧ c ρ1 = .ok true ρ1 ∧ e ρ1 = .ok (.d (out x)) ρ1 ∧ wipeR vs ρ1 = ρ0) : lcN g c e vs (xs.map enc) ρ0 = .ok (xs.map out) ρ0 := by
  rw [lcN_typed enc (fun _ => true) out xs fun x hx => (h x hx).imp fun ρ1 q => ⟨q.1, q.2.1, fun _ => q.2.2.1, q.2.2.2⟩, List.filter_eq_self.mpr fun _ _ => rfl]
theorem lk_D {α : Type} (enc : α → D) (kvs : List (W × α)) (w : W) : dval (kvs.map fun p => ((.inr (tx p.1), enc p.2) : Key × D)) (.inr (tx w)) = (lk kvs w).map enc := by
  induction kvs with
  | nil => rfl
  | cons p kvs ih =>
    unfold dval at ih ⊢
    rw [List.map_cons, List.find?_cons, lk_cons]
    by_cases h : p.1 = w
    · subst h
      simp
    · have : ¬ (Sum.inr (tx p.1) : Key) = .inr (tx w) := fun z => h (tx_inj (Sum.inr.inj z))
      rw [decide_eq_false this, if_neg h]
      exact ih
/-- a dict from words -/
def WD {α : Type} (enc : α → D) (kvs : List (W × α)) : List (Key × D) := kvs.map fun p => (.inr (tx p.1), enc p.2)
@[simp] theorem dval_WD {α : Type} (enc : α → D) (kvs : List (W × α)) (w : W) : dval (WD enc kvs) (.inr (tx w)) = (lk kvs w).map enc := lk_D enc kvs w
@[simp] theorem dkeys_WD {α : Type} (enc : α → D) : ∀ kvs : List (W × α), dkeys (WD enc kvs) = (keys kvs).map T
  | [] => rfl
  | p :: kvs => by
    show keyD (.inr (tx p.1)) :: dkeys (WD enc kvs) = _
    rw [dkeys_WD enc kvs]
    rfl
@[simp] theorem ditems_WD {α : Type} (enc : α → D) : ∀ kvs : List (W × α), ditems (WD enc kvs) = kvs.map fun p => .tup [T p.1, enc p.2]
  | [] => rfl
  | p :: kvs => by
    show D.tup [keyD (.inr (tx p.1)), enc p.2] :: ditems (WD enc kvs) = _
    rw [ditems_WD enc kvs]
    rfl
@[simp] theorem WD_len {α : Type} (enc : α → D) (kvs : List (W × α)) : (WD enc kvs).length = kvs.length := List.length_map _
@[simp] theorem WD_nil {α : Type} (enc : α → D) : WD enc [] = [] := rfl
theorem key_eq (a b : W) : ((Sum.inr (tx a) : Key) = .inr (tx b)) = (a = b) := propext ⟨fun z => tx_inj (Sum.inr.inj z), fun z => by rw [z]⟩
@[simp] theorem ukeys_WD {α : Type} (enc : α → D) : ∀ kvs : List (W × α), (keys kvs).Nodup → ukeys (WD enc kvs) = true
  | [], _ => rfl
  | p :: kvs, nd => by
    rw [show keys (p :: kvs) = p.1 :: keys kvs from rfl, List.nodup_cons] at nd
    show (!((WD enc kvs).any fun q => decide (q.1 = (.inr (tx p.1) : Key))) && ukeys (WD enc kvs)) = true
    rw [ukeys_WD enc kvs nd.2, Bool.and_true, Bool.not_eq_true', List.any_eq_false]
    intro q hq z
    obtain ⟨r, hr, rfl⟩ := List.mem_map.mp hq
    have := tx_inj (Sum.inr.inj (of_decide_eq_true z))
    exact nd.1 (by rw [← this]; exact mem_row hr)
@[simp] theorem putD_WD {α : Type} (enc : α → D) (x : α) (w : W) : ∀ kvs : List (W × α), w ∉ keys kvs → putD (WD enc kvs) (.inr (tx w)) (enc x) = WD enc (kvs ++ [(w, x)])
  | [], _ => rfl
  | p :: kvs, h => by
    rw [show keys (p :: kvs) = p.1 :: keys kvs from rfl, List.mem_cons, not_or] at h
    show putD (((.inr (tx p.1), enc p.2) : Key × D) :: WD enc kvs) (.inr (tx w)) (enc x) = _
    unfold putD
    rw [if_neg (by rw [key_eq]; exact fun z => h.1 z.symm), putD_WD enc x w kvs h.2]
    rfl
@[simp] theorem toDk_fzK : ∀ kvs : List (Key × D), toDk (fzK kvs) = kvs
  | [] => rfl
  | (k, d) :: r => by
    show (k, d) :: toDk (fzK r) = _
    rw [toDk_fzK r]
@[simp] theorem inV_T' (l : W) (ws : List W) : inV (tv l) (ws.map tv) = decide (l ∈ ws) := inV_T l ws
abbrev TW (us : List W) : D := .tup (us.map T)
@[simp] theorem imms_T : ∀ us : List W, imms (us.map T) = true
  | [] => rfl
  | u :: us => by
    rw [List.map_cons]
    unfold imms
    rw [imms_T us]
    rfl
theorem okk {R : Rows} (b : BkOk R) : (keys R).all okc = true := words_ok b.wd
theorem bools_all {α : Type} (p : α → Bool) : ∀ xs : List α, bools (xs.map fun x => D.v (.bl (p x))) = some (xs.map p)
  | [] => rfl
  | x :: xs => by
    rw [List.map_cons, bools, bools_all p xs]
    rfl
/-- a chain: each next one is among the ups of the one ahead, none twice -/
structure ChOk (R : Rows) (x y : W) (c : List W) : Prop where
  hd : ∃ l, c = x :: l
  la : ∃ l, c = l ++ [y]
  nd : c.Nodup
  st : ∀ k, (h : k + 1 < c.length) → c[k + 1] ∈ ups R c[k]
  sub : ∀ z ∈ c, z ∈ keys R
  eq : x = y → c = [x]
structure Ch (R : Rows) (x y : W) (pre : List W) (z : W) : Prop where
  hd : ∃ l, pre ++ [z] = x :: l
  nd : (pre ++ [z]).Nodup
  st : ∀ k, (h : k + 1 < (pre ++ [z]).length) → (pre ++ [z])[k + 1] ∈ ups R (pre ++ [z])[k]
  sub : ∀ u ∈ pre ++ [z], u ∈ keys R
  up : Up R z y
  ab : ∀ u ∈ pre, Up R u z
  ny : ∀ u ∈ pre, u ≠ y
theorem Ch.fin {R : Rows} {x y : W} {pre : List W} (c : Ch R x y pre y) : ChOk R x y (pre ++ [y]) := by
  refine ⟨c.hd, ⟨pre, rfl⟩, c.nd, c.st, c.sub, fun e => ?_⟩
  obtain ⟨l, h⟩ := c.hd
  cases pre with
  | nil => rw [e]; rfl
  | cons p pre =>
    have : p = x := by
      rw [List.cons_append] at h
      exact (List.cons.inj h).1
    exact absurd (this.trans e) (c.ny p List.mem_cons_self)
abbrev Call := List W
abbrev pc (c : Call) : PyData := .tuple (c.map td)
@[simp] theorem pys_TW : ∀ cs : List Call, pys (cs.map TW) = some (cs.map pc)
  | [] => rfl
  | c :: cs => by
    rw [List.map_cons]
    unfold pys
    rw [pys_TW cs]
    simp
def okC (c : Call) : Bool := c.all okc
theorem eqv_tT (a b : Call) : PyData.eqv (pc a) (pc b) = decide (a = b) := by
  rw [pc, pc, PyData.eqv, eqvAll_T]
@[simp] theorem any_pc (c : Call) : ∀ cs : List Call, anyP (pc c) (cs.map pc) = decide (c ∈ cs)
  | [] => rfl
  | a :: cs => by
    have ih := any_pc c cs
    unfold anyP at ih ⊢
    rw [List.map_cons, List.any_cons, ih, eqv_tT, Bool.eq_iff_iff]
    simp only [Bool.or_eq_true, decide_eq_true_eq, List.mem_cons]
    exact ⟨fun h => h.elim (fun h => .inl h.symm) .inr, fun h => h.elim (fun h => .inl h.symm) .inr⟩
abbrev kc (c : Call) : List Key := c.map fun w => .inr (tx w)
@[simp] theorem keysOf_T : ∀ c : Call, keysOf (c.map T) = some (kc c)
  | [] => rfl
  | w :: c => by
    rw [List.map_cons]
    unfold keysOf
    rw [keysOf_T c]
    rfl
theorem kc_inj : ∀ {a b : Call}, kc a = kc b → a = b
  | [], [], _ => rfl
  | [], _ :: _, h => by simp at h
  | _ :: _, [], h => by simp at h
  | x :: a, y :: b, h => by
    rw [kc, kc, List.map_cons, List.map_cons] at h
    injection h with h1 h2
    rw [tx_inj (Sum.inr.inj h1), kc_inj h2]
theorem kc_D (c : Call) : D.tup ((kc c).map keyD) = TW c := by
  simp [List.map_map, Function.comp_def]
def lkc {α : Type} (kvs : List (Call × α)) (c : Call) : Option α := (kvs.find? fun p => decide (p.1 = c)).map (·.2)
theorem lkc_cons {α : Type} (p : Call × α) (kvs : List (Call × α)) (c : Call) : lkc (p :: kvs) c = if p.1 = c then some p.2 else lkc kvs c := by
  unfold lkc
  rw [List.find?_cons]
  by_cases h : p.1 = c <;> simp [h]
def keysC {α : Type} (kvs : List (Call × α)) : List Call := kvs.map (·.1)
@[simp] theorem keysC_cons {α : Type} (p : Call × α) (R : List (Call × α)) : keysC (p :: R) = p.1 :: keysC R := rfl
@[simp] theorem keysC_app {α : Type} (R S : List (Call × α)) : keysC (R ++ S) = keysC R ++ keysC S := List.map_append
/-- a dict from calls -/
def CD {α : Type} (enc : α → D) (kvs : List (Call × α)) : List (List Key × D) := kvs.map fun p => (kc p.1, enc p.2)
@[simp] theorem CD_nil {α : Type} (enc : α → D) : CD enc [] = [] := rfl
@[simp] theorem CD_len {α : Type} (enc : α → D) (kvs : List (Call × α)) : (CD enc kvs).length = kvs.length := List.length_map _
@[simp] theorem dval_CD {α : Type} (enc : α → D) (kvs : List (Call × α)) (c : Call) : dval (CD enc kvs) (kc c) = (lkc kvs c).map enc := by
  induction kvs with
  | nil => rfl
  | cons p kvs ih =>
    unfold CD dval at ih ⊢
    rw [List.map_cons, List.find?_cons, lkc_cons]
    by_cases h : p.1 = c
    · subst h
      simp
    · have : ¬ kc p.1 = kc c := fun z => h (kc_inj z)
      rw [decide_eq_false this, if_neg h]
      exact ih
@[simp] theorem ukeys_CD {α : Type} (enc : α → D) : ∀ kvs : List (Call × α), (keysC kvs).Nodup → ukeys (CD enc kvs) = true
  | [], _ => rfl
  | p :: kvs, nd => by
    rw [keysC_cons, List.nodup_cons] at nd
    show (!((CD enc kvs).any fun q => decide (q.1 = kc p.1)) && ukeys (CD enc kvs)) = true
    rw [ukeys_CD enc kvs nd.2, Bool.and_true, Bool.not_eq_true', List.any_eq_false]
    intro q hq z
    obtain ⟨r, hr, rfl⟩ := List.mem_map.mp hq
    have := kc_inj (of_decide_eq_true z)
    exact nd.1 (by rw [← this]; exact List.mem_map.mpr ⟨r, hr, rfl⟩)
@[simp] theorem putD_CD {α : Type} (enc : α → D) (x : α) (c : Call) : ∀ kvs : List (Call × α), c ∉ keysC kvs → putD (CD enc kvs) (kc c) (enc x) = CD enc (kvs ++ [(c, x)])
  | [], _ => rfl
  | p :: kvs, h => by
    rw [keysC_cons, List.mem_cons, not_or] at h
    show putD ((kc p.1, enc p.2) :: CD enc kvs) (kc c) (enc x) = _
    unfold putD
    rw [if_neg (fun z => h.1 (kc_inj z).symm), putD_CD enc x c kvs h.2]
    rfl
@[simp] theorem toDt_fzT : ∀ kvs : List (List Key × D), toDt (fzT kvs) = kvs
  | [] => rfl
  | (k, d) :: r => by
    show (k, d) :: toDt (fzT r) = _
    rw [toDt_fzT r]
@[simp] theorem tkeys_CD {α : Type} (enc : α → D) : ∀ kvs : List (Call × α), tkeys (CD enc kvs) = (keysC kvs).map TW
  | [] => rfl
  | p :: kvs => by
    show D.tup ((kc p.1).map keyD) :: tkeys (CD enc kvs) = _
    rw [tkeys_CD enc kvs, kc_D]
    rfl
@[simp] theorem imms_TW : ∀ cs : List Call, imms (cs.map TW) = true
  | [] => rfl
  | c :: cs => by
    rw [List.map_cons]
    unfold imms
    rw [imms_TW cs]
    simp
theorem gD_T {n : Nat} {w : W} (h : okc w = true) : gD n (T w) = true := by
  unfold gD
  rw [strOk_tx]
  exact h
def CallOk (R : Rows) (m : Nat) (c : Call) : Prop := c.length = m ∧ ∀ w ∈ c, w ∈ keys R
structure BdOk (R : Rows) (m : Nat) (ds : List Call) : Prop where
  b : BkOk R
  m1 : 1 ≤ m
  m4 : m ≤ 4
  l : ds.length ≤ 64
  ok : ∀ d ∈ ds, CallOk R m d
  nd : ds.Nodup
theorem CallOk.ok {R : Rows} {m : Nat} {c : Call} (b : BkOk R) (h : CallOk R m c) : okC c = true := List.all_eq_true.mpr fun w hw => List.all_eq_true.mp (okk b) w (h.2 w hw)
section
variable {R : Rows} {m : Nat} {ds : List Call}
/-- one call within another one -/
def wi (R : Rows) (a b : Call) : Bool := (a.zip b).all fun p => un R p.1 p.2
abbrev dAt (ds : List Call) (k : Nat) : Call := ds.getD k []
theorem dAt_mem {k : Nat} (h : k < ds.length) : dAt ds k ∈ ds := by
  unfold dAt
  rw [List.getD_eq_getElem?_getD, List.getElem?_eq_getElem h]
  exact List.getElem_mem h
abbrev ti (n : Nat) : PyData := .int (n : Nat)
@[simp] theorem pys_nI : ∀ ns : List Nat, pys (ns.map nI) = some (ns.map ti)
  | [] => rfl
  | n :: ns => by
    rw [List.map_cons]
    unfold pys
    rw [pys_nI ns]
    rfl
@[simp] theorem imms_nI : ∀ ns : List Nat, imms (ns.map nI) = true
  | [] => rfl
  | n :: ns => by
    rw [List.map_cons]
    unfold imms
    rw [imms_nI ns]
    rfl
theorem lay_nI : ∀ ns : List Nat, PyData.canLayAll0 (ns.map ti) = true
  | [] => rfl
  | n :: ns => by
    rw [List.map_cons]
    unfold PyData.canLayAll0
    rw [lay_nI ns]
    rfl
theorem depth_nI : ∀ ns : List Nat, PyData.depthAll (ns.map ti) = 0
  | [] => rfl
  | n :: ns => by
    rw [List.map_cons]
    unfold PyData.depthAll
    rw [depth_nI ns]
    rfl
@[simp] theorem shaped_nI (ns : List Nat) : SeqAt.shaped (.list (ns.map ti)) = true := by
  unfold SeqAt.shaped PyData.canLay0 PyData.depth
  rw [lay_nI ns, depth_nI]
  rfl
theorem eqvAll_nI : ∀ ns ms : List Nat, PyData.eqvAll (ns.map ti) (ms.map ti) = decide (ns = ms)
  | [], [] => rfl
  | [], _ :: _ => rfl
  | _ :: _, [] => rfl
  | n :: ns, k :: ms => by
    rw [List.map_cons, List.map_cons, PyData.eqvAll, eqvAll_nI ns ms]
    have : PyData.eqv (ti n) (ti k) = decide (n = k) := by
      rw [Bool.eq_iff_iff]
      simp [ti, PyData.eqv]
      omega
    rw [this, Bool.eq_iff_iff]
    simp
@[simp] theorem eqv_nI (ns ms : List Nat) : PyData.eqv (.list (ns.map ti)) (.list (ms.map ti)) = decide (ns = ms) := by
  rw [PyData.eqv, eqvAll_nI]
def toldD : List Nat → D
  | [] => .wtp [.v (.str "none")]
  | [a] => .tup [.v (.str "deed"), nI a]
  | a :: c :: _ => .tup [.v (.str "clash"), nI a, nI c]
@[simp] theorem imm_toldD : ∀ ns : List Nat, (toldD ns).imm = true
  | [] => rfl
  | [a] => rfl
  | a :: c :: _ => rfl
end
section
variable {R : Rows} {m : Nat} {ds : List Call}
end
theorem wi_trans {R : Rows} (b : BkOk R) : ∀ {x y z : Call}, (∀ w ∈ x, w ∈ keys R) → (∀ w ∈ y, w ∈ keys R) → x.length = y.length → y.length = z.length → wi R x y = true → wi R y z = true → wi R x z = true
  | [], _, _, _, _, _, _, _, _ => rfl
  | a :: x, [], z, _, _, h, _, _, _ => by simp at h
  | a :: x, c :: y, [], _, _, _, h, _, _ => by simp at h
  | a :: x, c :: y, d :: z, hx, hy, h1, h2, h3, h4 => by
    unfold wi at h3 h4 ⊢
    rw [List.zip_cons_cons, List.all_cons, Bool.and_eq_true] at h3 h4 ⊢
    have ha := hx a List.mem_cons_self
    have hc := hy c List.mem_cons_self
    refine ⟨(b.un_iff ha).mpr (((b.un_iff ha).mp h3.1).trans ((b.un_iff hc).mp h4.1)), ?_⟩
    exact wi_trans b (fun w hw => hx w (List.mem_cons_of_mem _ hw)) (fun w hw => hy w (List.mem_cons_of_mem _ hw)) (by simpa using h1) (by simpa using h2) h3.2 h4.2
section
variable {R : Rows} {m : Nat} {ds : List Call}
theorem BdOk.at_ (b : BdOk R m ds) {k : Nat} (h : k < ds.length) : CallOk R m (dAt ds k) := b.ok _ (dAt_mem h)
theorem BdOk.trans (b : BdOk R m ds) {i j k : Nat} (hi : i < ds.length) (hj : j < ds.length) (hk : k < ds.length) (h1 : wi R (dAt ds i) (dAt ds j) = true) (h2 : wi R (dAt ds j) (dAt ds k) = true) : wi R (dAt ds i) (dAt ds k) = true :=
  wi_trans b.b (b.at_ hi).2 (b.at_ hj).2 ((b.at_ hi).1.trans (b.at_ hj).1.symm) ((b.at_ hj).1.trans (b.at_ hk).1.symm) h1 h2
end
section
variable {ws : List W}
end
@[simp] theorem flats_nI : ∀ ns : List Nat, flats (ns.map nI) = some (ns.map fun n => V.int (n : Nat))
  | [] => rfl
  | n :: ns => by
    rw [List.map_cons]
    unfold flats
    rw [if_pos (show flatV (V.int (n : Nat)) = true from rfl), flats_nI ns]
    rfl
@[simp] theorem inV_nI (k : Nat) : ∀ ns : List Nat, inV (V.int (k : Nat)) (ns.map fun n => V.int (n : Nat)) = decide (k ∈ ns)
  | [] => rfl
  | n :: ns => by
    have ih := inV_nI k ns
    unfold inV at ih ⊢
    rw [List.map_cons, List.any_cons, ih]
    have e : eqV (V.int (n : Nat)) (V.int (k : Nat)) = decide (n = k) := by
      rw [Bool.eq_iff_iff]
      simp [eqV]
      omega
    rw [e, Bool.eq_iff_iff]
    simp only [Bool.or_eq_true, decide_eq_true_eq, List.mem_cons]
    exact ⟨fun h => h.elim (fun h => .inl h.symm) .inr, fun h => h.elim (fun h => .inl h.symm) .inr⟩
abbrev pNone : PyData := .tuple [.str (Str.ofString "none")]
abbrev pDeed (a : Nat) : PyData := .tuple [.str (Str.ofString "deed"), .int (a : Nat)]
abbrev pClash (a b : Nat) : PyData := .tuple [.str (Str.ofString "clash"), .int (a : Nat), .int (b : Nat)]
@[simp] theorem sh_none : SeqAt.shaped pNone = true := by decide +kernel
theorem ok_deed : PyData.strOk (Str.ofString "deed") = true := by decide +kernel
theorem ok_clash : PyData.strOk (Str.ofString "clash") = true := by decide +kernel
@[simp] theorem sh_deed (a : Nat) : SeqAt.shaped (pDeed a) = true := by
  have := ok_deed
  simp only [SeqAt.shaped, PyData.canLay0, PyData.canLayAll0, PyData.depth, PyData.depthAll, this]
  rfl
@[simp] theorem sh_clash (a b : Nat) : SeqAt.shaped (pClash a b) = true := by
  have := ok_clash
  simp only [SeqAt.shaped, PyData.canLay0, PyData.canLayAll0, PyData.depth, PyData.depthAll, this]
  rfl
@[simp] theorem q_deed_none : (Str.ofString "deed" = Str.ofString "none") = False := eq_false (by decide +kernel)
@[simp] theorem q_clash_none : (Str.ofString "clash" = Str.ofString "none") = False := eq_false (by decide +kernel)
@[simp] theorem q_clash_deed : (Str.ofString "clash" = Str.ofString "deed") = False := eq_false (by decide +kernel)
@[simp] theorem q_deed_clash : (Str.ofString "deed" = Str.ofString "clash") = False := eq_false (by decide +kernel)
@[simp] theorem q_none_clash : (Str.ofString "none" = Str.ofString "clash") = False := eq_false (by decide +kernel)
@[simp] theorem q_none_deed : (Str.ofString "none" = Str.ofString "deed") = False := eq_false (by decide +kernel)
@[simp] theorem ev_nn : PyData.eqv pNone pNone = true := by decide +kernel
@[simp] theorem ev_dn (a : Nat) : PyData.eqv (pDeed a) pNone = false := by
  simp [PyData.eqv, PyData.eqvAll]
@[simp] theorem ev_nd (a : Nat) : PyData.eqv pNone (pDeed a) = false := by
  simp [PyData.eqv, PyData.eqvAll]
@[simp] theorem ev_cn (a b : Nat) : PyData.eqv (pClash a b) pNone = false := by
  simp [PyData.eqv, PyData.eqvAll]
@[simp] theorem ev_nc (a b : Nat) : PyData.eqv pNone (pClash a b) = false := by
  simp [PyData.eqv, PyData.eqvAll]
@[simp] theorem ev_cd (a b c : Nat) : PyData.eqv (pClash a b) (pDeed c) = false := by
  simp [PyData.eqv, PyData.eqvAll]
@[simp] theorem ev_dc (a b c : Nat) : PyData.eqv (pDeed c) (pClash a b) = false := by
  simp [PyData.eqv, PyData.eqvAll]
theorem ti_eqv (a b : Nat) : PyData.eqv (.int (a : Nat)) (.int (b : Nat)) = decide (a = b) := by
  rw [Bool.eq_iff_iff]
  simp [PyData.eqv]
  omega
@[simp] theorem ev_dd (a b : Nat) : PyData.eqv (pDeed a) (pDeed b) = decide (a = b) := by
  have := ti_eqv a b
  simp only [PyData.eqv] at this
  simp [PyData.eqv, PyData.eqvAll, this]
@[simp] theorem ev_cc (a b c d : Nat) : PyData.eqv (pClash a b) (pClash c d) = (decide (a = c) && decide (b = d)) := by
  have h1 := ti_eqv a c
  have h2 := ti_eqv b d
  simp only [PyData.eqv] at h1 h2
  simp [PyData.eqv, PyData.eqvAll, h1, h2]
theorem sFor_rng2 {t : Rho → Res (List Opd)} {g : GR} {b : Rho → Res Fl} {ρ ρ1 : Rho} {r : Res Fl} {lo hi : Nat} (h : t ρ = .ok [.d (.v (.int (lo : Int))), .d (.v (.int (hi : Int)))] ρ1) (hl : lo ≤ 1000000) (hm : hi ≤ 1000000) (e : forN g b (rngD (lo : Int) (hi - lo)) ρ1 = r) : sFor (evRng2 t) g b ρ = r := by
  have b1 : (inR (lo : Int) && inR (hi : Int)) = true := by
    rw [inR_of (by omega) (by omega), inR_of (by omega) (by omega)]
    rfl
  have e2 : hi - lo = ((hi : Int) - (lo : Int)).toNat := by omega
  rw [e2] at e
  generalize (hi : Int) = y at h b1 e
  generalize (lo : Int) = z at h b1 e
  have : evRng2 t ρ = .ok (rngD z (y - z).toNat) ρ1 := by
    unfold evRng2
    rw [h]
    exact if_pos b1
  rw [sFor_eq this]
  exact e
def toldT : List Nat → D
  | [] => .tup [.v (.str "none")]
  | [a] => .tup [.v (.str "deed"), nI a]
  | a :: c :: _ => .tup [.v (.str "clash"), nI a, nI c]
@[simp] theorem imm_toldT : ∀ ns : List Nat, (toldT ns).imm = true
  | [] => rfl
  | [a] => rfl
  | a :: c :: _ => rfl
def TL (d : D) (ns : List Nat) : Prop := d = toldD ns ∨ d = toldT ns
theorem TL.d {ns : List Nat} : TL (toldD ns) ns := .inl rfl
theorem TL.t {ns : List Nat} : TL (toldT ns) ns := .inr rfl
theorem TL.nv {d : D} {ns : List Nat} (h : TL d ns) : ∀ x, d ≠ .v x := by
  rcases h with rfl | rfl <;> (intro x z; match ns with
    | [] => cases z
    | [a] => cases z
    | a :: c :: _ => cases z)
def optC : Option Call → D
  | none => .v .non
  | some c => TW c
@[simp] theorem imm_optC : ∀ q : Option Call, (optC q).imm = true
  | none => rfl
  | some c => by simp [optC]
section
variable {R : Rows} {m : Nat} {ds : List Call}
end
section
variable {R : Rows} {m : Nat} {ds : List Call} {k : Nat}
end
section
variable {R : Rows} {m : Nat} {ds : List Call}
end
section
variable {R : Rows} {m : Nat} {ds : List Call}
end
section
variable {R : Rows} {m : Nat} {ds : List Call}
end
section
variable {R : Rows} {m : Nat} {ds : List Call}
end
section
variable {R : Rows} {m : Nat} {ds : List Call}
end
section
variable {R : Rows} {m : Nat} {ds : List Call}
end
section
variable {R : Rows} {m : Nat} {ds : List Call}
end
abbrev Nm := W × Nat × List (Call × W)
section
variable {R : Rows} {m : Nat}
end
section
variable {R : Rows}
end
def tellF {β : Type} (ov : β → OV) (o : Option β) (ρ : Rho) : Res Fl := match o with
  | some y => .ok (.ret (ov y)) ρ
  | none => .ok .next ρ
@[simp] theorem tellF_some {β : Type} (ov : β → OV) (y : β) (ρ : Rho) : tellF ov (some y) ρ = .ok (.ret (ov y)) ρ := rfl
@[simp] theorem tellF_none {β : Type} (ov : β → OV) (ρ : Rho) : tellF ov none ρ = .ok .next ρ := rfl
section
variable {R : Rows}
end
section
variable {R : Rows}
@[simp] theorem q_even_clash : (Str.ofString "even" = Str.ofString "clash") = False := eq_false (by decide +kernel)
end
section
variable {R : Rows}
end
section
variable {R : Rows}
end
inductive Tm where
  | th (i : Nat)
  | ap (w : W) (ts : List Tm)
mutual
def tmD : Tm → D
  | .th i => nI i
  | .ap w ts => .tup (T w :: tmDs ts)
def tmDs : List Tm → List D
  | [] => []
  | t :: ts => tmD t :: tmDs ts
end
theorem tmDs_map : ∀ ts : List Tm, tmDs ts = ts.map tmD
  | [] => by rw [tmDs]; rfl
  | t :: ts => by rw [tmDs, tmDs_map ts]; rfl
theorem tmD_th (i : Nat) : tmD (.th i) = nI i := by rw [tmD]
theorem tmD_ap (w : W) (ts : List Tm) : tmD (.ap w ts) = .tup (T w :: ts.map tmD) := by rw [tmD, tmDs_map]
mutual
def szT : Tm → Nat
  | .th _ => 1
  | .ap _ ts => 1 + szTs ts
def szTs : List Tm → Nat
  | [] => 0
  | t :: ts => szT t + szTs ts
end
theorem szTs_sum : ∀ ts : List Tm, szTs ts = (ts.map szT).sum
  | [] => by rw [szTs]; rfl
  | t :: ts => by rw [szTs, szTs_sum ts, List.map_cons, List.sum_cons]
/-- a term of the book's names over so many things, so deep -/
inductive OkT (xs : List Nm) (many : Nat) : Nat → Tm → Prop where
  | th {n i : Nat} (h : i < many) : OkT xs many (n + 1) (.th i)
  | ap {n : Nat} {x : Nm} {ts : List Tm} (hx : x ∈ xs) (hl : ts.length = x.2.1) (h : ∀ t ∈ ts, OkT xs many n t) : OkT xs many (n + 1) (.ap x.1 ts)
theorem OkT.mono {xs : List Nm} {many : Nat} : ∀ {n k : Nat} {t : Tm}, n ≤ k → OkT xs many n t → OkT xs many k t
  | 0, _, _, _, h => by cases h
  | n + 1, 0, _, hl, _ => absurd hl (by omega)
  | n + 1, k + 1, _, hl, .th h => .th h
  | n + 1, k + 1, _, hl, .ap hx he h => .ap hx he fun t ht => (h t ht).mono (by omega)
theorem sl_tail (a : D) (ds : List D) : fSl (some 1) none [.tup (a :: ds)] = some (.fz (.tup ds)) := by
  have s1 : HT.sIx (ds.length + 1) 0 (some (1 : Int)) = 1 := by rw [show (1 : Int) = ((1 : Nat) : Int) from rfl, HT.sIx_nat]; omega
  have s2 : HT.sIx (ds.length + 1) (ds.length + 1) none = ds.length + 1 := HT.sIx_none _ _
  simp [s1, s2]
theorem at_hd (a : D) (ds : List D) : atI (a :: ds) 0 = some a := by
  have : ixN (ds.length + 1) 0 = some 0 := by unfold ixN; rw [if_pos (by decide), if_pos (by omega)]; rfl
  simp [atI, this]
theorem k_ii : kitB "int" "int" = some true := by decide +kernel
theorem k_it : kitB "int" "tuple" = some false := by decide +kernel
theorem k_ti : kitB "tuple" "int" = some false := by decide +kernel
theorem k_tt : kitB "tuple" "tuple" = some true := by decide +kernel
theorem k_ib : kitB "int" "bool" = some false := by decide +kernel
section
variable {R : Rows} {xs : List Nm}
end
theorem szT_pos : ∀ t : Tm, 1 ≤ szT t
  | .th _ => by rw [szT]; omega
  | .ap _ _ => by rw [szT]; omega
theorem szTs_len : ∀ ts : List Tm, ts.length ≤ szTs ts
  | [] => by simp
  | t :: ts => by
    have h1 := szT_pos t
    have h2 := szTs_len ts
    rw [szTs, List.length_cons]
    omega
theorem lcN_inv {g : GR} {c : Rho → Res Bool} {e : Rho → Res Opd} {vs : List Nat} (P : List D → Rho → Prop) : ∀ (ds ys : List D) (ρ : Rho), P ys ρ → (∀ d ∈ ds, ∀ ys ρ, P ys ρ → ∃ ρ1 ρ2 y, g d ρ = some ρ1 ∧ c ρ1 = .ok true ρ1 ∧ e ρ1 = .ok (.d y) ρ2 ∧ P (ys ++ [y]) (wipeR vs ρ2)) → ∃ zs ρ', lcN g c e vs ds ρ = .ok zs ρ' ∧ P (ys ++ zs) ρ' ∧ zs.length = ds.length
  | [], ys, ρ, h, _ => ⟨[], ρ, rfl, by simpa using h, rfl⟩
  | d :: ds, ys, ρ, h, hs => by
    obtain ⟨ρ1, ρ2, y, e1, e2, e3, h2⟩ := hs d List.mem_cons_self ys ρ h
    obtain ⟨zs, ρ', e4, h4, hl⟩ := lcN_inv P ds (ys ++ [y]) _ h2 fun d hd => hs d (List.mem_cons_of_mem _ hd)
    refine ⟨y :: zs, ρ', ?_, by simpa using h4, by simp [hl]⟩
    unfold lcN
    rw [e1]
    dsimp only
    rw [e2]
    dsimp only
    rw [e3]
    dsimp only
    rw [e4]
section
variable {R : Rows} {xs : List Nm}
end
section
variable {R : Rows} {xs : List Nm}
end
theorem OkT.many {xs : List Nm} {a b : Nat} (h : a ≤ b) : ∀ {n : Nat} {t : Tm}, OkT xs a n t → OkT xs b n t
  | _, _, .th hi => .th (by omega)
  | _, _, .ap hx hl ht => .ap hx hl fun u hu => (ht u hu).many h
section
variable {R : Rows} {xs : List Nm}
end
section
variable {R : Rows} {xs : List Nm}
end
section
variable {R : Rows} {xs : List Nm}
end
section
variable {R : Rows}
end
section
variable {R : Rows} {xs : List Nm}
end
section
variable {R : Rows}
end
def kindT : W := [107, 105, 110, 100, 32]
def underT : W := [32, 117, 110, 100, 101, 114]
def underT2 : W := [32, 117, 110, 100, 101, 114, 32]
def nameT : W := [110, 97, 109, 101, 32]
def deedT : W := [100, 101, 101, 100, 32]
def givesT : W := [32, 103, 105, 118, 101, 115, 32]
def spT : W := [32]
def lfT : W := [10]
theorem e_kindT : ("kind " : Str) = tx kindT := by decide +kernel
theorem e_underT : (" under" : Str) = tx underT := by decide +kernel
theorem e_underT2 : (" under " : Str) = tx underT2 := by decide +kernel
theorem e_nameT : ("name " : Str) = tx nameT := by decide +kernel
theorem e_deedT : ("deed " : Str) = tx deedT := by decide +kernel
theorem e_givesT : (" gives " : Str) = tx givesT := by decide +kernel
theorem e_spT : (" " : Str) = tx spT := by decide +kernel
theorem e_lfT : ("\n" : Str) = tx lfT := by decide +kernel
def jn (sep : W) : List W → W
  | [] => []
  | [w] => w
  | w :: ws => w ++ sep ++ jn sep ws
theorem join_tx (sep : W) : ∀ ws : List W, Txt.join (tx sep) (ws.map tx) = tx (jn sep ws)
  | [] => by rw [TL.join_eq]; rfl
  | [w] => by rw [TL.join_eq]; rfl
  | w :: v :: ws => by
    have ih := join_tx sep (v :: ws)
    rw [TL.join_eq] at ih ⊢
    show tx w ++ tx sep ++ Str.join (tx sep) ((v :: ws).map tx) = tx (w ++ sep ++ jn sep (v :: ws))
    rw [ih, tx_app, tx_app]
theorem jn_flat (ups : List W) (h : ups ≠ []) : ups.flatMap (fun u => spT ++ u) = spT ++ jn spT ups := by
  induction ups with
  | nil => exact absurd rfl h
  | cons u ups ih =>
    cases ups with
    | nil => simp [jn]
    | cons v ups =>
      rw [List.flatMap_cons, ih (by simp)]
      show _ = spT ++ (u ++ spT ++ jn spT (v :: ups))
      simp only [List.append_assoc]
theorem flatW_len {f : W → W} {k : Nat} : ∀ {ups : List W}, (∀ u ∈ ups, (f u).length ≤ k) → (ups.flatMap f).length ≤ k * ups.length
  | [], _ => by simp
  | u :: ups, h => by
    have ih := flatW_len (ups := ups) fun x hx => h x (List.mem_cons_of_mem _ hx)
    have h1 := h u List.mem_cons_self
    rw [List.flatMap_cons, List.length_append, List.length_cons, Nat.mul_add]
    omega
theorem jn_len {sep : W} {k : Nat} : ∀ {ws : List W}, (∀ u ∈ ws, u.length ≤ k) → (jn sep ws).length ≤ (k + sep.length) * ws.length
  | [], _ => by simp [jn]
  | [w], h => by
    have h1 := h w List.mem_cons_self
    show w.length ≤ _
    simp
    omega
  | w :: v :: ws, h => by
    have ih := jn_len (sep := sep) (ws := v :: ws) fun x hx => h x (List.mem_cons_of_mem _ hx)
    have h1 := h w List.mem_cons_self
    show (w ++ sep ++ jn sep (v :: ws)).length ≤ _
    rw [List.length_append, List.length_append, List.length_cons, Nat.mul_add]
    omega
theorem txtsOf_W : ∀ ws : List W, txtsOf (ws.map T) = some (ws.map tx)
  | [] => rfl
  | w :: ws => by
    show (match txtsOf (ws.map T) with
      | some ps => some (tx w :: ps)
      | none => none) = _
    rw [txtsOf_W ws]
    rfl
theorem sum_len {k : Nat} : ∀ {ws : List W}, (∀ u ∈ ws, u.length ≤ k) → ((ws.map tx).map (·.length)).sum ≤ k * ws.length
  | [], _ => by simp
  | w :: ws, h => by
    have ih := sum_len (ws := ws) fun x hx => h x (List.mem_cons_of_mem _ hx)
    have h1 := h w List.mem_cons_self
    rw [List.map_cons, List.map_cons, List.sum_cons, List.length_cons, Nat.mul_add, tx_len]
    omega
theorem pJoin_T {sep : W} {ws : List W} {k : Nat} (h : ∀ u ∈ ws, u.length ≤ k) (hk : k ≤ 1000) (hl : ws.length ≤ 1000) (hs : sep.length ≤ 10) : pJoin [T sep, .lst (ws.map T)] = some (.fz (T (jn sep ws))) ∧ pJoin [T sep, .tup (ws.map T)] = some (.fz (T (jn sep ws))) := by
  have z : joinSz (tx sep) (ws.map tx) ≤ 16777216 := by
    unfold joinSz
    have s1 := sum_len h
    have s2 : k * ws.length ≤ 1000 * 1000 := Nat.mul_le_mul hk hl
    have s3 : (ws.map tx).length * (tx sep).length ≤ 1000 * 10 := Nat.mul_le_mul (by rw [List.length_map]; exact hl) (by rw [tx_len]; exact hs)
    omega
  have e := txtsOf_W ws
  have j := join_tx sep ws
  unfold pJoin
  dsimp only
  rw [e]
  dsimp only
  rw [if_pos (decide_eq_true z), j]
  exact ⟨rfl, rfl⟩
theorem fAdd_T (a b : W) (h : a.length + b.length ≤ 16777216) : fAdd [T a, T b] = some (.fz (T (a ++ b))) := by
  have h' : (tx a).length + (tx b).length ≤ 16777216 := by rw [tx_len, tx_len]; exact h
  have e : tx a ++ tx b = tx (a ++ b) := tx_app a b
  simp [h', e]
/-- any term: words, one to ten parts each, numbers below a hundred, so deep -/
inductive OkA : Nat → Tm → Prop where
  | th {n i : Nat} (h : i < 100) : OkA (n + 1) (.th i)
  | ap {n : Nat} {w : W} {ts : List Tm} (hw : isWord w = true) (h1 : 1 ≤ ts.length) (h2 : ts.length ≤ 10) (h : ∀ t ∈ ts, OkA n t) : OkA (n + 1) (.ap w ts)
abbrev anS (p : Pot) (room deep : Nat) (o3 o4 : OD) : Rho := [potO p, .lst [I (room : Nat)], I (deep : Nat), o3, o4, .gone]
def an_leaf : Rho → Res Fl := (sRet (evCallX d__law_take [true, false] (evXCons (evName 0) (evXCons (ev2 fIx (evP (evN evTup (evCons (evS (evC (.v (.int 10)))) (evCons (evS (evC (.v (.int 100)))) evNil)))) (evP (evCallX d__law_take [true, false] (evXCons (evName 0) (evXCons (evC (.v (.int 2))) evXNil))))) evXNil))))
def an_if : Rho → Res Fl := (sIf (evOr (evT (evP (ev2 fLt (evP (evName 2)) (evP (evC (.v (.int 2))))))) (evOr (evT (evP (ev2 fLt (evP (ev2 fIx (evP (evName 1)) (evP (evC (.v (.int 0)))))) (evP (evC (.v (.int 1))))))) (evT (evP (ev2 fEq (evP (evCallX d__law_take [true, false] (evXCons (evName 0) (evXCons (evC (.v (.int 4))) evXNil)))) (evP (evC (.v (.int 0))))))))) an_leaf sNext)
theorem an_leaf_eq (p : Pot) (room deep : Nat) : ∃ i p', i < 100 ∧ an_leaf (anS p room deep .gone .gone) = .ok (.ret (.o (I (i : Nat)))) (anS p' room deep .gone .gone) := by
  obtain ⟨r, p1, hr, e1⟩ := take_ex p 2 (by decide) (by decide)
  have e1' : d__law_take [potO p, I 2] = .ok (I (r : Nat)) [potO p1, I 2] := e1
  obtain ⟨m, hm, am⟩ : ∃ m : Nat, (m = 10 ∨ m = 100) ∧ atI [D.v (.int 10), .v (.int 100)] (r : Int) = some (nI m) := by
    obtain rfl | rfl : r = 0 ∨ r = 1 := by omega
    · exact ⟨10, .inl rfl, rfl⟩
    · exact ⟨100, .inr rfl, rfl⟩
  obtain ⟨i, p2, hi, e2⟩ := take_ex p1 m (by omega) (by omega)
  refine ⟨i, p2, by omega, ?_⟩
  unfold an_leaf
  simp [anS, gt, e1', am, e2]
theorem an_if_eq (p : Pot) (room deep : Nat) : (∃ i p', i < 100 ∧ an_if (anS p room deep .gone .gone) = .ok (.ret (.o (I (i : Nat)))) (anS p' room deep .gone .gone)) ∨ (2 ≤ deep ∧ 1 ≤ room ∧ ∃ p', an_if (anS p room deep .gone .gone) = .ok .next (anS p' room deep .gone .gone)) := by
  by_cases hd : deep < 2
  · left
    obtain ⟨i, p', hi, e⟩ := an_leaf_eq p room deep
    have hd' : (deep : Int) < 2 := by omega
    refine ⟨i, p', hi, ?_⟩
    rw [← e]
    unfold an_if
    generalize an_leaf = al
    simp [anS, gt, scal, hd, hd']
  · have hd' : ¬ (deep : Int) < 2 := by omega
    by_cases hr : room < 1
    · left
      obtain ⟨i, p', hi, e⟩ := an_leaf_eq p room deep
      have hr0 : room = 0 := by omega
      refine ⟨i, p', hi, ?_⟩
      rw [← e]
      subst hr0
      unfold an_if
      generalize an_leaf = al
      simp [anS, gt, scal, hd, hd', at_hd]
    · obtain ⟨q, p1, hq, e1⟩ := take_ex p 4 (by decide) (by decide)
      have e1' : d__law_take [potO p, I 4] = .ok (I (q : Nat)) [potO p1, I 4] := e1
      have hr' : ¬ (room : Int) < 1 := by omega
      have hr0 : ¬ room = 0 := by omega
      by_cases hq0 : q = 0
      · left
        obtain ⟨i, p', hi, e⟩ := an_leaf_eq p1 room deep
        refine ⟨i, p', hi, ?_⟩
        rw [← e]
        subst hq0
        unfold an_if
        generalize an_leaf = al
        simp [anS, gt, scal, hd, hd', hr, hr', hr0, at_hd, e1']
      · right
        have hq' : ¬ (q : Int) = 0 := by omega
        refine ⟨by omega, by omega, p1, ?_⟩
        unfold an_if
        generalize an_leaf = al
        simp [anS, gt, scal, hd, hd', hr, hr', hr0, at_hd, e1', hq0, hq']
theorem law_any_term_eq : ∀ (n deep : Nat), 1 ≤ deep → deep ≤ n → ∀ (room : Nat) (p : Pot), room ≤ 1000 → ∃ t p' room', OkA deep t ∧ szT t + room' ≤ room + 1 ∧
    d__law_any_term n [potO p, .lst [I (room : Nat)], I (deep : Nat)] = .ok (.fz (tmD t)) [potO p', .lst [I (room' : Nat)], I (deep : Nat)]
  | 0, deep, h1, h2, _, _, _ => absurd h1 (by omega)
  | n + 1, deep, h1, h2, room, p, hr => by
    obtain ⟨dd, rfl⟩ : ∃ dd, deep = dd + 1 := ⟨deep - 1, by omega⟩
    rcases an_if_eq p room (dd + 1) with ⟨i, p', hi, e⟩ | ⟨hd, hrm, p1, e⟩
    · refine ⟨.th i, p', room, .th hi, by rw [szT]; omega, ?_⟩
      rw [tmD_th]
      refine fnS_o (ρ := anS p' room (dd + 1) .gone .gone) (by rfl) ?_ (by rfl)
      show b__law_any_term (d__law_any_term n) (anS p room (dd + 1) .gone .gone) = _
      unfold b__law_any_term
      exact sSeq_ret e
    · obtain ⟨mn, hmn, hpm⟩ : ∃ mn : Nat, (1 ≤ mn ∧ mn ≤ 10 ∧ mn ≤ room) ∧ pMin [.v (.int 10), nI room] = some (I (mn : Nat)) := by
        by_cases h : room < 10
        · have h' : (room : Int) < 10 := by omega
          exact ⟨room, ⟨hrm, by omega, by omega⟩, by simp [h, h']⟩
        · have h' : ¬ (room : Int) < 10 := by omega
          exact ⟨10, ⟨by decide, by decide, by omega⟩, by simp [h, h']⟩
      obtain ⟨r, p2, hr2, e2⟩ := take_ex p1 mn (by omega) (by omega)
      obtain ⟨w, p3, hw, _, e3⟩ := word_eq p2 [] (by simp) (by simp)
      obtain ⟨many, hmany⟩ : ∃ many, many = 1 + r := ⟨_, rfl⟩
      have m1 : ((1 : Int) + (r : Int)) = (many : Int) := by omega
      have rs : ((room : Int) - (many : Int)) = ((room - many : Nat) : Int) := by omega
      have ddq : (((dd + 1 : Nat) : Int) - 1) = (dd : Int) := by omega
      obtain ⟨zs, ρ', f, ⟨ts, p4, room4, hz, h3, h4, hρ⟩, zl⟩ := lcN_inv (g := gSet 5) (c := C1__law_any_term (d__law_any_term n)) (e := L1__law_any_term (d__law_any_term n)) (vs := [5]) (fun ys ρ => ∃ (ts : List Tm) (q : Pot) (rm : Nat), ys = ts.map tmD ∧ (∀ t ∈ ts, OkA dd t) ∧ szTs ts + rm ≤ room - many + ts.length ∧ ρ = anS q rm (dd + 1) (I (many : Nat)) (.fz (T w)))
        (rngD 0 many) [] (anS p3 (room - many) (dd + 1) (I (many : Nat)) (.fz (T w))) ⟨[], p3, room - many, rfl, (fun t h => by cases h), by rw [szTs]; omega, rfl⟩ (fun d hd ys ρ ⟨ts, q, rm, hy, ht, hsz, hρ⟩ => by
        obtain ⟨j, hj, rfl⟩ : ∃ j : Nat, j < many ∧ d = .v (.int (j : Nat)) := by
          unfold rngD at hd
          obtain ⟨j, hj, z⟩ := List.mem_map.mp hd
          exact ⟨j, List.mem_range.mp hj, by rw [← z, Int.zero_add]⟩
        subst hρ
        obtain ⟨t, q', rm', o1, o2, e9⟩ := law_any_term_eq n dd (by omega) (by omega) rm q (by have := szTs_len ts; omega)
        refine ⟨[potO q, .lst [I (rm : Nat)], I ((dd + 1 : Nat)), I (many : Nat), .fz (T w), I (j : Nat)], [potO q', .lst [I (rm' : Nat)], I ((dd + 1 : Nat)), I (many : Nat), .fz (T w), I (j : Nat)], tmD t, rfl, ?_, ?_, ts ++ [t], q', rm', by rw [hy]; simp, fun u hu => ?_, ?_, rfl⟩
        · simp [C1__law_any_term]
        · generalize tmD t = td at *
          simp [L1__law_any_term, gt, ddq, e9]
        · rcases List.mem_append.mp hu with z | z
          · exact ht u z
          · rw [List.mem_singleton.mp z]; exact o1
        · rw [szTs_sum] at hsz ⊢
          rw [List.map_append, List.sum_append, List.length_append]
          simp
          omega)
      subst hρ
      rw [List.nil_append] at hz
      have tl : ts.length = many := by
        have : zs.length = ts.length := by rw [hz, List.length_map]
        rw [← this, zl]
        exact rng_len
      have zl4 : zs.length ≤ 16777216 := by rw [hz, List.length_map]; omega
      have zl5 : 1 + zs.length ≤ 16777216 := by rw [hz, List.length_map]; omega
      refine ⟨.ap w ts, p4, room4, .ap hw (by omega) (by omega) h3, by rw [szT]; omega, ?_⟩
      refine fnS_o (ρ := anS p4 room4 (dd + 1) (I (many : Nat)) (.fz (T w))) (by rfl) ?_ (by rfl)
      show b__law_any_term (d__law_any_term n) (anS p room (dd + 1) .gone .gone) = _
      unfold b__law_any_term
      have e0 := e
      unfold an_if an_leaf at e0
      rw [sSeq_next e0]
      rw [sSeq_next (ρ1 := anS p2 room (dd + 1) (I (many : Nat)) .gone) (by simp [-pMin, anS, gt, at_hd, hpm, e2, m1])]
      rw [sSeq_next (ρ1 := anS p2 (room - many) (dd + 1) (I (many : Nat)) .gone) (by
        simp only [anS]
        rw [← rs]
        simp [gt, at_hd, show ixN 1 0 = some 0 from rfl])]
      rw [sSeq_next (ρ1 := anS p3 (room - many) (dd + 1) (I (many : Nat)) (.fz (T w))) (by
        have e3' : d__law_word [potO p2, .fz (.lst [])] = .ok (.fz (T w)) [potO p3, .fz (.lst [])] := e3
        simp [anS, gt, e3'])]
      have i1 : inR (many : Int) = true := inR_of (by omega) (by omega)
      rw [tmD_ap, ← hz]
      have dq : (((dd + 1 : Nat)) : Int) = (dd : Int) + 1 := by omega
      simp only [anS, dq] at f ⊢
      simp [gt, f, i1, zl4, zl5]
def obT : W := [40]
def cbT : W := [41]
def cmT : W := [44, 32]
theorem e_obT : ("(" : Str) = tx obT := by decide +kernel
theorem e_cbT : (")" : Str) = tx cbT := by decide +kernel
theorem e_cmT : (", " : Str) = tx cmT := by decide +kernel
def figW (i : Nat) : W := if i < 10 then [48 + i] else [48 + i / 10, 48 + i % 10]
mutual
def txT : Tm → W
  | .th i => figW i
  | .ap w ts => w ++ obT ++ txTs ts ++ cbT
def txTs : List Tm → W
  | [] => []
  | t :: ts => txT t ++ txTr ts
def txTr : List Tm → W
  | [] => []
  | t :: ts => cmT ++ (txT t ++ txTr ts)
end
theorem txTr_flat : ∀ ts : List Tm, txTr ts = ts.flatMap fun t => cmT ++ txT t
  | [] => by rw [txTr]; rfl
  | t :: ts => by rw [txTr, txTr_flat ts, List.flatMap_cons, List.append_assoc]
theorem txTs_jn : ∀ ts : List Tm, txTs ts = jn cmT (ts.map txT)
  | [] => by rw [txTs]; rfl
  | [t] => by rw [txTs, txTr, List.append_nil]; rfl
  | t :: u :: ts => by
    have ih := txTs_jn (u :: ts)
    rw [txTs] at ih
    rw [txTs, txTr, ih]
    show _ = txT t ++ cmT ++ jn cmT ((u :: ts).map txT)
    simp only [List.append_assoc]
theorem txTs_snoc : ∀ (ts : List Tm) (t : Tm), ts ≠ [] → txTs (ts ++ [t]) = txTs ts ++ cmT ++ txT t
  | [], _, h => absurd rfl h
  | u :: ts, t, _ => by
    show txTs (u :: (ts ++ [t])) = _
    rw [txTs, txTs, txTr_flat, txTr_flat, List.flatMap_append]
    simp [List.append_assoc]
theorem figs_ok : ∀ i : Nat, i < 100 → ((toString ((i : Nat) : Int) : String) : Str) = tx (figW i) ∧ PySem.intText? (tx (figW i)) = some ((i : Nat) : Int) := by decide +kernel
theorem fig_len (i : Nat) : 1 ≤ (figW i).length ∧ (figW i).length ≤ 2 := by
  unfold figW
  split <;> simp
theorem strI_fig {i : Nat} (h : i < 100) : pStrI [nI i] = some (.fz (T (figW i))) := by
  have e := (figs_ok i h).1
  have l : ((i : Nat) : Int).natAbs.log2 < 1920 := by
    rw [Int.natAbs_natCast]
    have : i.log2 ≤ i := Nat.log2_le_self i
    omega
  have l' := decide_eq_true l
  unfold pStrI
  dsimp only
  rw [if_pos l']
  exact congrArg (fun z : Str => some (OD.fz (.v (.str z)))) e
theorem intT_fig {i : Nat} (h : i < 100) : pIntT [T (figW i)] = some (I (i : Nat)) := by
  have e := (figs_ok i h).2
  have l : (tx (figW i)).length ≤ 640 := by rw [tx_len]; have := fig_len i; omega
  unfold pIntT
  dsimp only
  rw [e]
  dsimp only
  rw [if_pos (decide_eq_true l)]
theorem OkA.mono : ∀ {n k : Nat} {t : Tm}, n ≤ k → OkA n t → OkA k t
  | 0, _, _, _, h => by cases h
  | n + 1, 0, _, hl, _ => absurd hl (by omega)
  | n + 1, k + 1, _, hl, .th h => .th h
  | n + 1, k + 1, _, hl, .ap hw h1 h2 h => .ap hw h1 h2 fun t ht => (h t ht).mono (by omega)
theorem txTr_len : ∀ {l : List Tm}, (∀ t ∈ l, (txT t).length + 2 ≤ 13 * szT t) → (txTr l).length ≤ 13 * szTs l
  | [], _ => by rw [txTr, szTs]; simp
  | t :: l, hh => by
    have h3 := txTr_len (l := l) fun u hu => hh u (List.mem_cons_of_mem _ hu)
    have h4 := hh t List.mem_cons_self
    have : cmT.length = 2 := rfl
    rw [txTr, szTs, List.length_append, List.length_append]
    omega
theorem txTs_len {l : List Tm} (hh : ∀ t ∈ l, (txT t).length + 2 ≤ 13 * szT t) : (txTs l).length ≤ 13 * szTs l := by
  cases l with
  | nil => rw [txTs, szTs]; simp
  | cons t l =>
    have h3 := txTr_len (l := l) fun u hu => hh u (List.mem_cons_of_mem _ hu)
    have h4 := hh t List.mem_cons_self
    rw [txTs, szTs, List.length_append]
    omega
theorem txT_len : ∀ {n : Nat} {t : Tm}, OkA n t → (txT t).length + 2 ≤ 13 * szT t
  | n + 1, _, .th (i := i) h => by
    rw [txT, szT]
    have := fig_len i
    omega
  | n + 1, _, .ap (w := w) (ts := ts) hw h1 h2 h => by
    have h3 := txTs_len (l := ts) fun t ht => txT_len (h t ht)
    have h4 := (isWord_ok hw).1
    rw [txT, szT, List.length_append, List.length_append, List.length_append]
    have : obT.length = 1 := rfl
    have : cbT.length = 1 := rfl
    omega
/-- parts are no larger than the whole -/
theorem sz_part {ts : List Tm} {t : Tm} (h : t ∈ ts) : szT t ≤ szTs ts := by
  induction ts with
  | nil => cases h
  | cons u ts ih =>
    rw [szTs]
    rcases List.mem_cons.mp h with z | z
    · rw [z]; omega
    · have := ih z; omega
abbrev txS (t : D) (s : W) (k : OD) : Rho := [.fz t, .fz (T s), k]
theorem at_k {a : D} {ds : List D} {k : Nat} {d : D} (h : ds[k]? = some d) : atI (a :: ds) ((1 : Int) + (k : Int)) = some d := by
  have e : ((1 : Int) + (k : Int)) = ((k + 1 : Nat) : Int) := by omega
  have hk := (List.getElem?_eq_some_iff.mp h).1
  have p : (0 : Int) ≤ (k : Int) + 1 := by omega
  rw [e]
  simp [atI, ixN, hk, p, (List.getElem?_eq_some_iff.mp h).2]
theorem law_term_text_eq : ∀ {k : Nat} {t : Tm}, OkA k t → ∀ {n : Nat}, k ≤ n → szT t ≤ 1000 → d__law_term_text n [.fz (tmD t)] = .ok (.fz (T (txT t))) [.fz (tmD t)]
  | k + 1, _, .th (i := i) h, n, hn, hs => by
    obtain ⟨n, rfl⟩ : ∃ m, n = m + 1 := ⟨n - 1, by omega⟩
    have e := strI_fig h
    rw [tmD_th, txT]
    generalize figW i = fw at *
    unfold d__law_term_text
    simp [-pStrI, b__law_term_text, fnS, gt, k_it, e]
  | k + 1, _, .ap (w := w) (ts := ts) hw h1 h2 h, n, hn, hs => by
    obtain ⟨n, rfl⟩ : ∃ m, n = m + 1 := ⟨n - 1, by omega⟩
    have hs' := hs
    rw [szT] at hs'
    have ih : ∀ t ∈ ts, d__law_term_text n [.fz (tmD t)] = .ok (.fz (T (txT t))) [.fz (tmD t)] := fun t ht => law_term_text_eq (h t ht) (by omega) (by have := sz_part ht; omega)
    have tl : (txT (.ap w ts)).length ≤ 100000 := by have := txT_len (.ap hw h1 h2 h : OkA (k + 1) (.ap w ts)); omega
    have wl := (isWord_ok hw).1
    have ol : obT.length = 1 := rfl
    have cl' : cbT.length = 1 := rfl
    have ml : cmT.length = 2 := rfl
    have tl2 := tl
    rw [txT, List.length_append, List.length_append, List.length_append] at tl2
    obtain ⟨td, htd⟩ : ∃ td, td = tmD (.ap w ts) := ⟨_, rfl⟩
    have htd2 := htd
    rw [tmD_ap] at htd2
    obtain ⟨ρ', f, o', rfl⟩ := forN_all (g := gSet 2) (b := L1__law_term_text (d__law_term_text n)) (fun j ρ => ∃ o, ρ = txS td (w ++ obT ++ txTs (ts.take j)) o)
      (rngD ((1 : Nat) : Int) ts.length) 0 (txS td (w ++ obT) .gone) ⟨.gone, by rw [List.take_zero, txTs, List.append_nil]⟩ fun j d ρ hj ⟨o, hρ⟩ => by
        obtain ⟨hj1, rfl⟩ := rng_at hj
        subst hρ
        rw [Nat.zero_add]
        have q : ((1 : Nat) : Int) + (j : Int) = ((1 : Int) + (j : Int)) := by omega
        rw [q]
        obtain ⟨t, ht⟩ : ∃ t, ts[j]? = some t := ⟨_, List.getElem?_eq_getElem hj1⟩
        have e1 := ih t (List.mem_of_getElem? ht)
        have e2 : atI (T w :: ts.map tmD) ((1 : Int) + (j : Int)) = some (tmD t) := at_k (by rw [List.getElem?_map, ht]; rfl)
        have tk : ts.take (j + 1) = ts.take j ++ [t] := by rw [List.take_succ, ht]; rfl
        have sub : (txTs (ts.take (j + 1))).length ≤ 100000 := by
          have : szTs (ts.take (j + 1)) ≤ szTs ts := by
            have e : szTs ts = szTs (ts.take (j + 1)) + szTs (ts.drop (j + 1)) := by
              rw [szTs_sum, szTs_sum, szTs_sum, ← List.sum_append, ← List.map_append, List.take_append_drop]
            omega
          have h5 := txTs_len (l := ts.take (j + 1)) fun t ht => txT_len (h t (List.mem_of_mem_take ht))
          omega
        refine ⟨txS td (w ++ obT ++ txTs (ts.take j)) (I ((1 : Int) + (j : Int))), txS td (w ++ obT ++ txTs (ts.take (j + 1))) (I ((1 : Int) + (j : Int))), rfl, ?_, _, rfl⟩
        unfold L1__law_term_text
        by_cases hj0 : j = 0
        · subst hj0
          have c0 : ¬ (1 : Int) < 1 + ((0 : Nat) : Int) := by omega
          have z0 : txTs (ts.take 0) = [] := by rw [List.take_zero, txTs]
          have z1 : txTs (ts.take 1) = txT t := by rw [tk, List.take_zero, List.nil_append, txTs, txTr, List.append_nil]
          rw [Nat.zero_add] at sub
          rw [z1] at sub
          rw [z0, z1, List.append_nil]
          have a1 := fAdd_T (w ++ obT) (txT t) (by rw [List.length_append]; omega)
          rw [sSeq_next (ρ1 := txS td (w ++ obT) (I ((1 : Int) + ((0 : Nat) : Int)))) (by simp [txS, gt, scal, c0])]
          have e2' : atI (T w :: ts.map tmD) (1 : Int) = some (tmD t) := e2
          rw [htd2]
          generalize tmD t = dt at *
          generalize txT t = xt at *
          generalize ts.map tmD = td at *
          simp [-fAdd, txS, gt, e1, e2', a1]
        · have c0 : (1 : Int) < 1 + (j : Int) := by omega
          have ne : ts.take j ≠ [] := by
            intro z
            have := congrArg List.length z
            rw [List.length_take, List.length_nil] at this
            omega
          have z1 : w ++ obT ++ txTs (ts.take (j + 1)) = w ++ obT ++ txTs (ts.take j) ++ cmT ++ txT t := by
            rw [tk, txTs_snoc _ _ ne]
            simp only [List.append_assoc]
          have z2 : (w ++ obT ++ txTs (ts.take j) ++ cmT ++ txT t).length ≤ 200000 := by
            rw [← z1, List.length_append, List.length_append]; omega
          rw [z1]
          generalize w ++ obT ++ txTs (ts.take j) = s at *
          rw [List.length_append, List.length_append] at z2
          have a1 := fAdd_T s cmT (by omega)
          have a2 := fAdd_T (s ++ cmT) (txT t) (by rw [List.length_append]; omega)
          rw [sSeq_next (ρ1 := txS td (s ++ cmT) (I ((1 : Int) + (j : Int)))) (by simp [-fAdd, txS, gt, scal, c0, e_cmT, a1])]
          rw [htd2]
          generalize tmD t = dt at *
          generalize txT t = xt at *
          generalize ts.map tmD = td at *
          simp [-fAdd, txS, gt, e1, e2, a2]
    have l1 : (rngD ((1 : Nat) : Int) ts.length).length = ts.length := rng_len
    rw [Nat.zero_add, l1, List.take_length] at f
    have a1 := fAdd_T w obT (by omega)
    have a2 := fAdd_T (w ++ obT ++ txTs ts) cbT (by rw [List.length_append, List.length_append]; omega)
    have b1 : (inR (1 : Int) && inR ((ts.length : Int) + 1)) = true := by
      rw [inR_of (by omega) (by omega), inR_of (by omega) (by omega)]
      rfl
    have tl3 : ts.length + 1 ≤ 16777216 := by omega
    rw [← htd, txT]
    refine fnS_o (ρ := txS td (w ++ obT ++ txTs ts) o') (by rfl) ?_ (by rfl)
    show b__law_term_text (d__law_term_text n) [.fz td, .gone, .gone] = _
    unfold b__law_term_text
    rw [sSeq_next (ρ1 := [.fz td, .gone, .gone]) (by rw [htd2]; generalize ts.map tmD = ds; simp [gt, k_tt])]
    rw [sSeq_next (ρ1 := txS td (w ++ obT) .gone) (by rw [htd2]; generalize ts.map tmD = ds; simp [-fAdd, gt, at_hd, e_obT, a1])]
    rw [sSeq_next (sFor_rng2 (lo := 1) (hi := ts.length + 1) (ρ1 := txS td (w ++ obT) .gone) (by
      have dl : (ts.map tmD).length = ts.length := List.length_map _
      rw [htd2]
      generalize ts.map tmD = ds at *
      simp [gt, dl, tl3]) (by decide) (by omega) (by rw [Nat.add_sub_cancel]; exact f))]
    generalize w ++ obT ++ txTs ts = s at *
    simp [-fAdd, txS, gt, e_cbT, a2]
theorem sl_tail0 (a : D) (ds : List D) : fSl (some 1) none [.tup (a :: ds)] = some (.fz (.tup ds)) := sl_tail a ds
theorem term_text_eq : ∀ {k : Nat} {t : Tm}, OkA k t → ∀ {n : Nat}, k ≤ n → szT t ≤ 70 → d_term_text n [.fz (tmD t)] = .ok (.fz (T (txT t))) [.fz (tmD t)]
  | k + 1, _, .th (i := i) h, n, hn, hs => by
    obtain ⟨n, rfl⟩ : ∃ m, n = m + 1 := ⟨n - 1, by omega⟩
    have e := strI_fig h
    rw [tmD_th, txT]
    generalize figW i = fw at *
    unfold d_term_text
    simp [-pStrI, b_term_text, fnS, gt, k_ii, e]
  | k + 1, _, .ap (w := w) (ts := ts) hw h1 h2 h, n, hn, hs => by
    obtain ⟨n, rfl⟩ : ∃ m, n = m + 1 := ⟨n - 1, by omega⟩
    have hs' := hs
    rw [szT] at hs'
    have ih : ∀ t ∈ ts, d_term_text n [.fz (tmD t)] = .ok (.fz (T (txT t))) [.fz (tmD t)] := fun t ht => term_text_eq (h t ht) (by omega) (by have := sz_part ht; omega)
    have tl : (txT (.ap w ts)).length ≤ 100000 := by have := txT_len (.ap hw h1 h2 h : OkA (k + 1) (.ap w ts)); omega
    have wl := (isWord_ok hw).1
    have ol : obT.length = 1 := rfl
    have cl' : cbT.length = 1 := rfl
    have tl2 := tl
    rw [txT, List.length_append, List.length_append, List.length_append] at tl2
    have st := sl_tail (T w) (ts.map tmD)
    have lc := lcN_map (g := gSet 1) (c := C1_term_text (d_term_text n)) (e := L1_term_text (d_term_text n)) (vs := [1]) (ρ0 := [.fz (.tup (T w :: ts.map tmD)), .gone]) tmD (fun t => T (txT t)) ts fun t ht => by
      have e := ih t ht
      refine ⟨[.fz (.tup (T w :: ts.map tmD)), .fz (tmD t)], rfl, by simp [C1_term_text], ?_, rfl⟩
      generalize tmD t = td at *
      generalize txT t = xt at *
      simp [L1_term_text, gt, e]
    have jo := (pJoin_T (sep := cmT) (ws := ts.map txT) (k := 1000) (fun u hu => by
      obtain ⟨t, ht, rfl⟩ := List.mem_map.mp hu
      have a := txT_len (h t ht)
      have b := sz_part ht
      omega) (by decide) (by rw [List.length_map]; omega) (by decide)).1
    rw [List.map_map, ← txTs_jn] at jo
    have jo' : pJoin [T cmT, .lst (ts.map fun t => T (txT t))] = some (.fz (T (txTs ts))) := jo
    have a1 := fAdd_T w obT (by omega)
    have a2 := fAdd_T (w ++ obT) (txTs ts) (by rw [List.length_append]; omega)
    have a3 := fAdd_T (w ++ obT ++ txTs ts) cbT (by rw [List.length_append, List.length_append]; omega)
    have yl : (ts.map fun t => T (txT t)).length ≤ 16777216 := by rw [List.length_map]; omega
    rw [tmD_ap, txT]
    generalize txTs ts = xs at *
    generalize (ts.map fun t => T (txT t)) = ys at *
    generalize ts.map tmD = td at *
    unfold d_term_text
    simp [-fSl, -fAdd, -pJoin, -List.append_assoc, b_term_text, fnS, gt, k_ti, at_hd, st, lc, yl, e_obT, e_cbT, e_cmT, a1, a2, a3, jo']
def isS (c : Nat) : Bool := isL c || (decide (48 ≤ c) && decide (c ≤ 57))
theorem isS_mem (c : Nat) : decide (c ∈ ("abcdefghijklmnopqrstuvwxyz0123456789" : Str).cps.toList) = isS c := by
  have e : ("abcdefghijklmnopqrstuvwxyz0123456789" : Str).cps.toList = (List.range 26).map (· + 97) ++ (List.range 10).map (· + 48) := by decide +kernel
  rw [e, Bool.eq_iff_iff]
  simp only [decide_eq_true_eq, List.mem_append, List.mem_map, List.mem_range, isS, isL, Bool.and_eq_true, Bool.or_eq_true]
  constructor
  · rintro (⟨k, h, rfl⟩ | ⟨k, h, rfl⟩) <;> omega
  · intro h
    rcases h with h | h
    · exact .inl ⟨c - 97, by omega, by omega⟩
    · exact .inr ⟨c - 48, by omega, by omega⟩
theorem inS_signs (c : Nat) : inS (tx [c]) "abcdefghijklmnopqrstuvwxyz0123456789" = isS c := (inS_one c _).trans (isS_mem c)
theorem figs_in : ∀ i : Nat, i < 100 → isWord (figW i) = false ∧ (figW i).all isS = true ∧ (figW i).all (fun c => decide (c ∈ ("0123456789" : Str).cps.toList)) = true := by decide +kernel
theorem isL_S {w : W} (h : w.all isL = true) : w.all isS = true := List.all_eq_true.mpr fun c hc => by
  have := List.all_eq_true.mp h c hc
  unfold isS
  rw [this]
  rfl
def NS (q : W) : Prop := q = [] ∨ ∃ c r, q = c :: r ∧ isS c = false
theorem at_mid (p q : W) (c : Nat) : atI (p ++ c :: q) ((p.length : Nat) : Int) = some c := by
  have h : ((p.length : Nat) : Int) < ((p.length : Nat) : Int) + (((q.length : Nat) : Int) + 1) := by omega
  simp [atI, ixN, h]
theorem sl_mid {s p u q : W} (e : s = p ++ u ++ q) (hl : s.length ≤ 100000) : fSl (some ((p.length : Nat) : Int)) (some (((p ++ u).length : Nat) : Int)) [T s] = some (.fz (T u)) := by
  have h1 : decide ((tx s).length ≤ 16777216) = true := decide_eq_true (by rw [tx_len]; omega)
  have l : (tx s).length = p.length + u.length + q.length := by rw [tx_len, e, List.length_append, List.length_append]
  have c : cutS (tx s) (some ((p.length : Nat) : Int)) (some (((p ++ u).length : Nat) : Int)) = tx u := by
    have z : cutS (tx s) (some ((p.length : Nat) : Int)) (some (((p ++ u).length : Nat) : Int)) = tx ((s.drop (HT.sIx (tx s).length 0 (some ((p.length : Nat) : Int)))).take (HT.sIx (tx s).length (tx s).length (some (((p ++ u).length : Nat) : Int)) - HT.sIx (tx s).length 0 (some ((p.length : Nat) : Int)))) := by
      unfold cutS
      rw [tx_list]
      rfl
    rw [z, HT.sIx_nat, HT.sIx_nat, List.length_append]
    have m1 : min p.length (tx s).length = p.length := by omega
    have m2 : min (p.length + u.length) (tx s).length = p.length + u.length := by omega
    rw [m1, m2, e, List.append_assoc, List.drop_left, Nat.add_sub_cancel_left, List.take_left]
  unfold fSl
  dsimp only
  rw [if_pos h1, c]
abbrev taS (s : W) (a dp : Nat) (e w n pp : OD) : Rho := [.fz (T s), I (a : Nat), I (dp : Nat), e, w, n, pp]
theorem ta_test_in (S : FS) {s p q : W} {c : Nat} (e : s = p ++ c :: q) (hl : s.length ≤ 100000) (a dp : Nat) (w n pp : OD) : C1_term_at S (taS s a dp (I (p.length : Nat)) w n pp) = .ok (isS c) (taS s a dp (I (p.length : Nat)) w n pp) := by
  have h1 : s.length ≤ 16777216 := by omega
  have h2 : ((p.length : Nat) : Int) < ((s.length : Nat) : Int) := by rw [e, List.length_append, List.length_cons]; omega
  have h3 : atI s ((p.length : Nat) : Int) = some c := by rw [e]; exact at_mid p q c
  have h4 := inS_signs c
  unfold C1_term_at
  generalize ("abcdefghijklmnopqrstuvwxyz0123456789" : Str) = z at *
  generalize p.length = pl at *
  simp [gt, scal, h1, h2, h3, tx_len, tx_list, tx_sign, h4]
theorem ta_test_end (S : FS) {s : W} (hl : s.length ≤ 100000) (a dp : Nat) (w n pp : OD) : C1_term_at S (taS s a dp (I (s.length : Nat)) w n pp) = .ok false (taS s a dp (I (s.length : Nat)) w n pp) := by
  have h1 : s.length ≤ 16777216 := by omega
  simp [C1_term_at, gt, scal, h1, tx_len]
theorem ta_loop (S : FS) {s : W} (hl : s.length ≤ 100000) (a dp : Nat) (w n pp : OD) : ∀ (u p q : W) (fuel : Nat), u.all isS = true → NS q → s = p ++ u ++ q → u.length < fuel → whileN (C1_term_at S) (L1_term_at S) fuel (taS s a dp (I (p.length : Nat)) w n pp) = .ok .next (taS s a dp (I ((p ++ u).length : Nat)) w n pp)
  | _, _, _, 0, _, _, _, h => absurd h (by omega)
  | [], p, q, fuel + 1, _, hq, e, h => by
    rw [List.append_nil] at e ⊢
    unfold whileN
    rcases hq with rfl | ⟨c, r, rfl, hc⟩
    · rw [List.append_nil] at e
      subst e
      rw [ta_test_end S hl]
    · rw [ta_test_in S e hl, hc]
  | c :: u, p, q, fuel + 1, hu, hq, e, h => by
    rw [List.all_cons, Bool.and_eq_true] at hu
    have e1 : s = p ++ c :: (u ++ q) := by rw [e]; simp
    have e2 : s = (p ++ [c]) ++ u ++ q := by rw [e]; simp
    have e3 : p ++ c :: u = (p ++ [c]) ++ u := by simp
    unfold whileN
    rw [ta_test_in S e1 hl, hu.1]
    dsimp only
    have st : L1_term_at S (taS s a dp (I (p.length : Nat)) w n pp) = .ok .next (taS s a dp (I ((p ++ [c]).length : Nat)) w n pp) := by
      rw [List.length_append]
      simp [L1_term_at, gt]
    rw [st]
    dsimp only
    rw [ta_loop S hl a dp w n pp u (p ++ [c]) q fuel hu.2 hq e2 (by rw [List.length_cons] at h; omega), e3]
theorem fig0 : ("0" : Str) = tx [48] := by decide +kernel
theorem number_in_eq {i : Nat} (h : i < 100) : d_number_in [.fz (T (figW i))] = .ok (I (i : Nat)) [.fz (T (figW i))] := by
  have e := intT_fig h
  obtain ⟨_, _, h3⟩ := figs_in i h
  obtain ⟨l1, l2⟩ := fig_len i
  have lc := lcN_map (g := gSet 1) (c := C1_number_in) (e := L1_number_in) (vs := [1]) (ρ0 := [.fz (T (figW i)), .gone]) sgn (fun _ => .v (.bl true)) (figW i) fun c hc => by
    refine ⟨[.fz (T (figW i)), .fz (T [c])], rfl, by simp [C1_number_in], ?_, rfl⟩
    have z := List.all_eq_true.mp h3 c hc
    have z2 := inS_one c ("0123456789" : Str)
    rw [z] at z2
    unfold L1_number_in
    generalize ("0123456789" : Str) = fs at *
    simp [gt, z2]
  have bl := bools_all (fun _ : Nat => true) (figW i)
  have al : ((figW i).map fun _ => true).all id = true := by simp
  have l3 : (figW i).length ≤ 16777216 := by omega
  have l4 : ¬ (2 : Int) < ((figW i).length : Nat) := by omega
  have w0 : ∀ c r, figW i = c :: r → r ≠ [] → ¬ c = 48 := fun c r hc hr z => by
    unfold figW at hc
    split at hc
    · exact hr (List.cons.inj hc).2.symm
    · have := (List.cons.inj hc).1
      omega
  have sz : (if (48 : Nat) = 48 then true else false) = true := rfl
  generalize figW i = fw at *
  unfold d_number_in b_number_in
  cases fw with
  | nil => exact absurd l1 (by simp)
  | cons c r =>
    cases r with
    | nil =>
      simp only [List.map_cons, List.map_nil, sgn, tx_sign] at lc bl
      simp [-pIntT, fnS, gt, scal, lc, bl, al, e, tx_len, tx_list, iterA, List.map_cons, tx_sign]
    | cons c2 r =>
      have r0 : r = [] := by
        cases r with
        | nil => rfl
        | cons _ _ => simp at l2
      subst r0
      have c48 := w0 c [c2] rfl (by simp)
      have c49 : ¬ tx [c] = tx [48] := fun z => c48 (List.cons.inj (tx_inj z)).1
      have a0 : atI [c, c2] (0 : Int) = some c := at_mid [] [c2] c
      simp only [List.map_cons, List.map_nil, sgn, tx_sign] at lc bl
      simp [-pIntT, fnS, gt, scal, lc, bl, al, e, tx_len, tx_list, tx_sign, a0, fig0, c49]
abbrev psS (s : W) (a dp : Nat) (ps o4 : OD) : Rho := [.fz (T s), I (a : Nat), I (dp : Nat), ps, o4]
theorem parts_loop {S : FS} {s : W} (hl : s.length ≤ 100000) (dp : Nat) : ∀ (ts : List Tm) (t : Tm) (p q : W) (done : List D) (o4 : OD) (fuel : Nat), ts.length < fuel → done.length + ts.length ≤ 1000 →
    (∀ u ∈ t :: ts, ∀ p q : W, s = p ++ txT u ++ q → NS q → S [.fz (T s), I (p.length : Nat), I (dp : Nat)] = .ok (.fz (.tup [tmD u, nI (p ++ txT u).length])) [.fz (T s), I (p.length : Nat), I (dp : Nat)]) →
    s = p ++ (txT t ++ txTr ts) ++ cbT ++ q →
    ∃ a' o4', whileN (C1_parts_at S) (L1_parts_at S) fuel (psS s p.length dp (.lst (fzs done)) o4) = .ok (.ret (.o (.tup [.lst (fzs (done ++ tmD t :: ts.map tmD)), I ((p ++ (txT t ++ txTr ts) ++ cbT).length : Nat)]))) (psS s a' dp .gone o4')
  | _, _, _, _, _, _, 0, h, _, _, _ => absurd h (by omega)
  | ts, t, p, q, done, o4, fuel + 1, h, hd, hS, e => by
    obtain ⟨mid, hmid⟩ : ∃ mid, mid = p ++ txT t := ⟨_, rfl⟩
    have dl : done.length < 16777216 := by omega
    cases ts with
    | nil =>
      have e1 : s = p ++ txT t ++ (cbT ++ q) := by rw [e, txTr]; simp only [List.append_assoc, List.append_nil, List.nil_append]
      have c1 := hS t List.mem_cons_self p (cbT ++ q) e1 (.inr ⟨41, q, rfl, by decide⟩)
      have sl := sl_mid (s := s) (p := mid) (u := cbT) (q := q) (by rw [e1, hmid]; simp only [List.append_assoc]) hl
      have m1 : (((mid ++ cbT).length : Nat) : Int) = ((mid.length : Nat) : Int) + 1 := by rw [List.length_append]; rfl
      rw [m1] at sl
      refine ⟨mid.length, .fz (tmD t), ?_⟩
      have e3 : p ++ (txT t ++ txTr []) ++ cbT = mid ++ cbT := by rw [hmid, txTr]; simp only [List.append_assoc, List.append_nil, List.nil_append]
      rw [e3, m1]
      rw [← hmid] at c1
      unfold whileN C1_parts_at L1_parts_at
      generalize tmD t = td at *
      generalize p.length = pl at *
      generalize mid.length = ml at *
      have sn : fzs done ++ [OD.fz td] = fzs (done ++ [td]) := by simp [fzs]
      simp [-fSl, gt, scal, c1, sl, e_cbT, dl, sn]
    | cons u ts =>
      have e1 : s = p ++ txT t ++ (cmT ++ ((txT u ++ txTr ts) ++ cbT ++ q)) := by rw [e, txTr]; simp only [List.append_assoc]
      have c1 := hS t List.mem_cons_self p _ e1 (.inr ⟨44, 32 :: ((txT u ++ txTr ts) ++ cbT ++ q), rfl, by decide⟩)
      rw [← hmid] at c1 e1
      have sl1 := sl_mid (s := s) (p := mid) (u := [44]) (q := 32 :: ((txT u ++ txTr ts) ++ cbT ++ q)) (by rw [e1]; simp [cmT]) hl
      have sl2 := sl_mid (s := s) (p := mid) (u := cmT) (q := (txT u ++ txTr ts) ++ cbT ++ q) (by rw [e1]; simp only [List.append_assoc]) hl
      have m1 : (((mid ++ [44]).length : Nat) : Int) = ((mid.length : Nat) : Int) + 1 := by rw [List.length_append]; rfl
      have m2 : (((mid ++ cmT).length : Nat) : Int) = ((mid.length : Nat) : Int) + 2 := by rw [List.length_append]; rfl
      rw [m1] at sl1
      rw [m2] at sl2
      have ne : ¬ tx [44] = tx cbT := fun z => by have := tx_inj z; cases this
      have st : L1_parts_at S (psS s p.length dp (.lst (fzs done)) o4) = .ok .next (psS s (mid ++ cmT).length dp (.lst (fzs (done ++ [tmD t]))) (.fz (tmD t))) := by
        have sn : fzs done ++ [OD.fz (tmD t)] = fzs (done ++ [tmD t]) := by simp [fzs]
        simp only [psS, m2]
        unfold L1_parts_at
        generalize tmD t = td at *
        generalize p.length = pl at *
        generalize mid.length = ml at *
        simp [-fSl, gt, scal, c1, sl1, sl2, e_cbT, e_cmT, ne, dl, sn]
      obtain ⟨a', o4', ih⟩ := parts_loop hl dp ts u (mid ++ cmT) q (done ++ [tmD t]) (.fz (tmD t)) fuel (by rw [List.length_cons] at h; omega) (by rw [List.length_append, List.length_cons, List.length_nil]; rw [List.length_cons] at hd; omega)
        (fun v hv => hS v (List.mem_cons_of_mem _ hv)) (by rw [e1]; simp only [List.append_assoc])
      refine ⟨a', o4', ?_⟩
      have e3 : p ++ (txT t ++ txTr (u :: ts)) ++ cbT = mid ++ cmT ++ (txT u ++ txTr ts) ++ cbT := by rw [hmid, txTr]; simp only [List.append_assoc]
      have e4 : done ++ tmD t :: (u :: ts).map tmD = (done ++ [tmD t]) ++ tmD u :: ts.map tmD := by simp
      rw [e3, e4, ← ih]
      have ct : C1_parts_at S (psS s p.length dp (.lst (fzs done)) o4) = .ok true (psS s p.length dp (.lst (fzs done)) o4) := by simp [C1_parts_at]
      have un : ∀ c b ρ ρ2, c ρ = Res.ok true ρ → b ρ = .ok .next ρ2 → whileN c b (fuel + 1) ρ = whileN c b fuel ρ2 := fun c b ρ ρ2 h1 h2 => by
        show (match c ρ with
          | .ok true ρ1 => (match b ρ1 with
            | .ok .next ρ2 => whileN c b fuel ρ2
            | .ok .cont ρ2 => whileN c b fuel ρ2
            | .ok .brk ρ2 => .ok .next ρ2
            | r => r)
          | .ok false ρ1 => .ok .next ρ1
          | .err x ρ1 => .err x ρ1
          | .bad => .bad) = _
        rw [h1]
        dsimp only
        rw [h2]
      exact un _ _ _ _ ct st
theorem term_at_eq {s : W} (hl : s.length ≤ 100000) : ∀ {k : Nat} {t : Tm}, OkA k t → ∀ {n dp : Nat} {p q : W}, k ≤ n → 1 ≤ dp → dp + k ≤ 13 → s = p ++ txT t ++ q → NS q →
    d_term_at n [.fz (T s), I (p.length : Nat), I (dp : Nat)] = .ok (.fz (.tup [tmD t, nI (p ++ txT t).length])) [.fz (T s), I (p.length : Nat), I (dp : Nat)]
  | k + 1, _, .th (i := i) h, n, dp, p, q, hn, h1, h2, e, hq => by
    obtain ⟨n, rfl⟩ : ∃ m, n = m + 1 := ⟨n - 1, by omega⟩
    rw [txT] at e ⊢
    obtain ⟨w1, w2, _⟩ := figs_in i h
    have nu := number_in_eq h
    have iw := is_word_eq (figW i) (by have := fig_len i; omega)
    rw [w1] at iw
    have hF := FUEL_eq
    have lp := ta_loop (d_term_at n) hl p.length dp .gone .gone .gone (figW i) p q FUEL w2 hq e (by have := fig_len i; omega)
    have sl := sl_mid e hl
    have d12 : ¬ (12 : Int) < (dp : Int) := by omega
    have ne : ¬ tx (figW i) = tx [] := fun z => by
      have z := tx_inj z
      have := fig_len i
      rw [z] at this
      simp at this
    rw [tmD_th]
    generalize figW i = u at *
    generalize (p ++ u).length = en at *
    generalize p.length = pl at *
    refine fnS_o (ρ := taS s pl dp (I (en : Nat)) (.fz (T u)) (I (i : Nat)) .gone) (by rfl) ?_ (by rfl)
    show b_term_at (d_term_at n) (taS s pl dp .gone .gone .gone .gone) = _
    unfold b_term_at
    rw [sSeq_next (ρ1 := taS s pl dp (I (pl : Nat)) .gone .gone .gone) (by simp [gt])]
    rw [sSeq_next lp]
    rw [sSeq_next (ρ1 := taS s pl dp (I (en : Nat)) (.fz (T u)) .gone .gone) (by simp [-fSl, gt, sl])]
    rw [sSeq_next (ρ1 := taS s pl dp (I (en : Nat)) (.fz (T u)) .gone .gone) (by simp [gt, scal, d12, tx_empty, ne])]
    rw [sSeq_next (ρ1 := taS s pl dp (I (en : Nat)) (.fz (T u)) .gone .gone) (by simp [-fSl, gt, iw])]
    rw [sSeq_next (ρ1 := taS s pl dp (I (en : Nat)) (.fz (T u)) (I (i : Nat)) .gone) (by simp [gt, nu])]
    rw [sSeq_next (ρ1 := taS s pl dp (I (en : Nat)) (.fz (T u)) (I (i : Nat)) .gone) (by simp [gt, scal])]
    simp [gt]
  | k + 1, _, .ap (w := w) (ts := ts) hw h3 h4 h, n, dp, p, q, hn, h1, h2, e, hq => by
    obtain ⟨n, rfl⟩ : ∃ m, n = m + 1 := ⟨n - 1, by omega⟩
    obtain ⟨t0, ts, rfl⟩ : ∃ t0 ts', ts = t0 :: ts' := by
      cases ts with
      | nil => simp at h3
      | cons a b => exact ⟨a, b, rfl⟩
    have tt : txTs (t0 :: ts) = txT t0 ++ txTr ts := by rw [txTs]
    rw [txT, tt] at e ⊢
    obtain ⟨l8, l1, al, _⟩ := isWord_ok hw
    have iw := is_word_eq w (by omega)
    rw [hw] at iw
    have hF := FUEL_eq
    have e1 : s = p ++ w ++ (obT ++ ((txT t0 ++ txTr ts) ++ cbT ++ q)) := by rw [e]; simp only [List.append_assoc]
    have lp := ta_loop (d_term_at n) hl p.length dp .gone .gone .gone w p _ FUEL (isL_S al) (.inr ⟨40, (txT t0 ++ txTr ts) ++ cbT ++ q, rfl, by decide⟩) e1 (by omega)
    have sl := sl_mid e1 hl
    have sl1 := sl_mid (s := s) (p := p ++ w) (u := obT) (q := (txT t0 ++ txTr ts) ++ cbT ++ q) (by rw [e1]; simp only [List.append_assoc]) hl
    have m1 : (((p ++ w ++ obT).length : Nat) : Int) = (((p ++ w).length : Nat) : Int) + 1 := by rw [List.length_append (bs := obT)]; rfl
    rw [m1] at sl1
    have d12 : ¬ (12 : Int) < (dp : Int) := by omega
    have ne : ¬ tx w = tx [] := fun z => by
      have z := tx_inj z
      rw [z] at l1
      simp at l1
    rw [List.length_cons] at h4
    obtain ⟨a', o4', pl⟩ := parts_loop (S := d_term_at n) hl (dp + 1) ts t0 (p ++ w ++ obT) q [] .gone FUEL (by omega) (by simp; omega)
      (fun u hu p' q' e' hq' => term_at_eq hl (h u hu) (by omega) (by omega) (by omega) e' hq') (by rw [e1]; simp only [List.append_assoc])
    have pa : d_parts_at (d_term_at n) [.fz (T s), I ((p ++ w ++ obT).length : Nat), I ((dp + 1 : Nat) : Nat)] = .ok (.tup [.lst (fzs (tmD t0 :: ts.map tmD)), I ((p ++ w ++ obT ++ (txT t0 ++ txTr ts) ++ cbT).length : Nat)]) [.fz (T s), I ((p ++ w ++ obT).length : Nat), I ((dp + 1 : Nat) : Nat)] := by
      refine fnS_o (ρ := psS s a' (dp + 1) .gone o4') (by rfl) ?_ (by rfl)
      show b_parts_at (d_term_at n) (psS s (p ++ w ++ obT).length (dp + 1) .gone .gone) = _
      unfold b_parts_at
      rw [sSeq_next (ρ1 := psS s (p ++ w ++ obT).length (dp + 1) (.lst (fzs [])) .gone) (by simp [gt])]
      exact pl
    have m2 : ((dp + 1 : Nat) : Int) = (dp : Int) + 1 := by omega
    have e5 : p ++ w ++ obT ++ (txT t0 ++ txTr ts) ++ cbT = p ++ (w ++ obT ++ (txT t0 ++ txTr ts) ++ cbT) := by simp only [List.append_assoc]
    rw [e5, m1, m2] at pa
    have tl : (tmD t0 :: ts.map tmD).length ≤ 100 := by rw [List.length_cons, List.length_map]; omega
    have tl1 : (tmD t0 :: ts.map tmD).length ≤ 16777216 := by omega
    have tl2 : 1 + (tmD t0 :: ts.map tmD).length ≤ 16777216 := by omega
    rw [tmD_ap, List.map_cons]
    generalize tmD t0 :: ts.map tmD = ds at *
    generalize (p ++ (w ++ obT ++ (txT t0 ++ txTr ts) ++ cbT)).length = fin at *
    generalize (p ++ w).length = en at *
    generalize p.length = pl0 at *
    refine fnS_o (ρ := taS s pl0 dp (I (fin : Nat)) (.fz (T w)) .gone (.fz (.lst ds))) (by rfl) ?_ (by rfl)
    show b_term_at (d_term_at n) (taS s pl0 dp .gone .gone .gone .gone) = _
    unfold b_term_at
    rw [sSeq_next (ρ1 := taS s pl0 dp (I (pl0 : Nat)) .gone .gone .gone) (by simp [gt])]
    rw [sSeq_next lp]
    rw [sSeq_next (ρ1 := taS s pl0 dp (I (en : Nat)) (.fz (T w)) .gone .gone) (by simp [-fSl, gt, sl])]
    rw [sSeq_next (ρ1 := taS s pl0 dp (I (en : Nat)) (.fz (T w)) .gone .gone) (by simp [gt, scal, d12, tx_empty, ne])]
    refine sSeq_ret ?_
    simp [-fSl, gt, scal, iw, sl1, e_obT, pa, tl1, tl2]
theorem parts_eqA : ∀ {k : Nat} {t : Tm}, OkA k t → ∀ {n : Nat}, k ≤ n → d_parts_of n [.fz (tmD t)] = .ok (I (szT t : Nat)) [.fz (tmD t)]
  | k + 1, _, .th (i := i) h, n, h1 => by
    obtain ⟨n, rfl⟩ : ∃ m, n = m + 1 := ⟨n - 1, by omega⟩
    rw [tmD_th, szT]
    unfold d_parts_of
    simp [b_parts_of, fnS, gt, k_it]
  | k + 1, _, .ap (w := w) (ts := ts) hw h3 h4 h, n, h1 => by
    obtain ⟨n, rfl⟩ : ∃ m, n = m + 1 := ⟨n - 1, by omega⟩
    have ih : ∀ t ∈ ts, d_parts_of n [.fz (tmD t)] = .ok (I (szT t : Nat)) [.fz (tmD t)] := fun t ht => parts_eqA (h t ht) (by omega)
    have st := sl_tail (T w) (ts.map tmD)
    have lc := lcN_map (g := gSet 1) (c := C1_parts_of (d_parts_of n)) (e := L1_parts_of (d_parts_of n)) (vs := [1]) (ρ0 := [.fz (.tup (T w :: ts.map tmD)), .gone]) tmD (fun t => nI (szT t)) ts fun t ht => by
      have e := ih t ht
      refine ⟨[.fz (.tup (T w :: ts.map tmD)), .fz (tmD t)], rfl, by simp [C1_parts_of], ?_, rfl⟩
      generalize tmD t = td at *
      simp [L1_parts_of, gt, e]
    have is : ∀ l : List Tm, intsD (l.map fun t => nI (szT t)) = some (l.map fun t => ((szT t : Nat) : Int)) := fun l => by
      induction l with
      | nil => rfl
      | cons t l ih => rw [List.map_cons, List.map_cons]; unfold intsD; rw [ih]
    have sm : ∀ l : List Tm, (l.map fun t => ((szT t : Nat) : Int)).sum = (((l.map szT).sum : Nat) : Int) := fun l => by
      induction l with
      | nil => rfl
      | cons t l ih => rw [List.map_cons, List.map_cons, List.sum_cons, List.sum_cons, ih]; omega
    have is := is ts
    have sm := sm ts
    have yl : (ts.map fun t => nI (szT t)).length ≤ 16777216 := by rw [List.length_map]; omega
    have z : ((szT (.ap w ts) : Nat) : Int) = 1 + (((ts.map szT).sum : Nat) : Int) := by rw [szT, szTs_sum]; omega
    rw [tmD_ap, z, ← sm]
    generalize (ts.map fun t => ((szT t : Nat) : Int)) = zs at *
    generalize (ts.map fun t => nI (szT t)) = ys at *
    generalize ts.map tmD = td at *
    unfold d_parts_of
    simp [-fSl, b_parts_of, fnS, gt, k_tt, st, lc, yl, is]
theorem read_term_eq {t : Tm} (h : OkA 12 t) (hs : szT t ≤ 40) : d_read_term [.fz (T (txT t))] = .ok (.fz (tmD t)) [.fz (T (txT t))] := by
  have tl := txT_len h
  have hl : (txT t).length ≤ 100000 := by omega
  have e1 := term_at_eq (s := txT t) hl h (n := 20) (dp := 1) (p := []) (q := []) (by decide) (by decide) (by decide) (by simp) (.inl rfl)
  have e2 := parts_eqA h (n := 20) (by decide)
  have z40 : ¬ (40 : Int) < ((szT t : Nat) : Int) := by omega
  have l1 : (txT t).length ≤ 16777216 := by omega
  rw [List.nil_append] at e1
  have e1' : d_term_at 20 [.fz (T (txT t)), I 0, I 1] = .ok (.fz (.tup [tmD t, nI (txT t).length])) [.fz (T (txT t)), I 0, I 1] := e1
  generalize txT t = s at *
  generalize tmD t = td at *
  generalize szT t = sz at *
  simp [d_read_term, b_read_term, fnS, gt, scal, e1', e2, z40, l1, tx_len]
theorem k_ss : kitB "str" "str" = some true := by decide +kernel
theorem gD_tA : ∀ {n : Nat} {t : Tm}, OkA n t → gD n (tmD t) = true
  | n + 1, _, .th h => by rw [tmD_th]; unfold gD; rfl
  | n + 1, _, .ap (w := w) (ts := ts) hw h1 h2 h => by
    rw [tmD_ap]
    unfold gD
    refine gDs_all fun d hd => ?_
    rcases List.mem_cons.mp hd with z | z
    · rw [z]; exact gD_T (isWord_ok hw).2.2.2
    · obtain ⟨t, ht, rfl⟩ := List.mem_map.mp z
      exact gD_tA (h t ht)
theorem eq_nilA {n : Nat} (hn : n ≤ 64) {w : W} {ts : List Tm} (h : OkA n (.ap w ts)) : fEq [.tup (T w :: ts.map tmD), .tup []] = some (.fz (.v (.bl false))) := by
  have g := gD_mono hn (gD_tA h)
  rw [tmD_ap] at g
  rw [fEq_pl g (by rfl) (.inl rfl)]
  rfl
abbrev sdS (td : D) (ds : List D) (o : OD) : Rho := [.fz td, .lst (fzs ds), o]
theorem whole_n (i : Nat) : d__law_whole [I (i : Nat)] = .ok (B true) [I (i : Nat)] := by
  simp [d__law_whole, b__law_whole, fnS, gt, k_ii, k_ib]
theorem pop_last (ds : List D) (d : D) : mLst gPop0 (.lst (fzs (ds ++ [d]))) [] = some (.lst (fzs ds), d) := by
  have e : allFz (fzs (ds ++ [d])) = some (ds ++ [d]) := allFz_fzs
  unfold mLst
  dsimp only
  rw [e]
  simp [gPop0]
theorem sz_app (a b : List Tm) : szTs (a ++ b) = szTs a + szTs b := by
  rw [szTs_sum, szTs_sum, szTs_sum, List.map_append, List.sum_append]
theorem sz_pos (t : Tm) : 1 ≤ szT t := by
  cases t with
  | th i => rw [szT]; omega
  | ap w ts => rw [szT]; omega
theorem len_sz : ∀ ts : List Tm, ts.length ≤ szTs ts
  | [] => by rw [szTs]; exact Nat.le_refl _
  | t :: ts => by
    have := len_sz ts
    have := sz_pos t
    rw [szTs, List.length_cons]
    omega
theorem ne_nilT {ts : List Tm} (h : ∀ t ∈ ts, OkA 12 t) : fNe [.lst (ts.map tmD), .lst []] = some (.fz (.v (.bl (!decide (ts = []))))) := by
  have g : gD 64 (.lst (ts.map tmD)) = true := by
    unfold gD
    exact gDs_map fun t ht => gD_mono (by decide) (gD_tA (h t ht))
  rw [fNe_pl g (by rfl) (.inl rfl)]
  cases ts <;> rfl
theorem sound_test (td : D) (ts : List Tm) (o : OD) (h : ∀ t ∈ ts, OkA 12 t) : C1__law_sound (sdS td (ts.map tmD) o) = .ok (!decide (ts = [])) (sdS td (ts.map tmD) o) := by
  have e := ne_nilT h
  generalize decide (ts = []) = b at *
  generalize ts.map tmD = ds at *
  simp [-fNe, C1__law_sound, gt, e]
theorem sound_loop (td : D) : ∀ (fuel : Nat) (ts : List Tm) (o : OD), (∀ t ∈ ts, OkA 12 t) → szTs ts < fuel → szTs ts ≤ 1000 → ∃ o', whileN C1__law_sound L1__law_sound fuel (sdS td (ts.map tmD) o) = .ok .next (sdS td [] o')
  | 0, ts, o, _, h, _ => absurd h (by omega)
  | fuel + 1, ts, o, hk, h, hl => by
    have tst := sound_test td ts o hk
    rcases List.eq_nil_or_concat ts with rfl | ⟨ts', t, rfl⟩
    · refine ⟨o, ?_⟩
      unfold whileN
      rw [tst]
      rfl
    · rw [List.concat_eq_append] at *
      have ht : OkA 12 t := hk t (by simp)
      rw [sz_app] at h hl
      have z0 : decide (ts' ++ [t] = []) = false := decide_eq_false (by simp)
      rw [z0] at tst
      have pl := pop_last (ts'.map tmD) (tmD t)
      have z1 : szTs [t] = szT t := by rw [szTs, szTs]; omega
      rw [z1] at h hl
      unfold whileN
      rw [tst]
      simp only [Bool.not_false]
      cases t with
      | th i =>
        have w1 := whole_n i
        have st : L1__law_sound (sdS td ((ts' ++ [Tm.th i]).map tmD) o) = .ok .next (sdS td (ts'.map tmD) (I (i : Nat))) := by
          rw [List.map_append]
          show L1__law_sound (sdS td (ts'.map tmD ++ [tmD (.th i)]) o) = _
          rw [tmD_th] at pl ⊢
          generalize ts'.map tmD = ds at *
          simp [-mLst, L1__law_sound, gt, pl, k_it, w1]
        rw [st]
        dsimp only
        rw [szT] at h hl
        exact sound_loop td fuel ts' _ (fun u hu => hk u (by simp [hu])) (by omega) (by omega)
      | ap w us =>
        have ne := eq_nilA (by decide) ht
        have hu : ∀ u ∈ us, OkA 12 u := by
          cases ht with
          | ap hw h1 h2 h3 => exact fun u hu => (h3 u hu).mono (by decide)
        have st := sl_tail (T w) (us.map tmD)
        rw [szT] at h hl
        have l1 := len_sz ts'
        have l2 := len_sz us
        have sm : (ts'.map tmD).length + (us.map tmD).length ≤ 16777216 := by rw [List.length_map, List.length_map]; omega
        have stp : L1__law_sound (sdS td ((ts' ++ [Tm.ap w us]).map tmD) o) = .ok .next (sdS td ((ts' ++ us).map tmD) (.fz (tmD (.ap w us)))) := by
          rw [List.map_append, List.map_append]
          show L1__law_sound (sdS td (ts'.map tmD ++ [tmD (.ap w us)]) o) = _
          rw [tmD_ap] at pl ⊢
          have sn : fzs (ts'.map tmD) ++ fzs (us.map tmD) = fzs (ts'.map tmD ++ us.map tmD) := by simp [fzs]
          generalize ts'.map tmD = ds at *
          generalize us.map tmD = es at *
          have fl : (fzs ds).length = ds.length := by simp [fzs]
          simp [-mLst, -fEq, -fSl, L1__law_sound, gt, pl, k_tt, k_ss, at_hd, ne, st, sm, sn, fl]
        rw [stp]
        dsimp only
        exact sound_loop td fuel (ts' ++ us) _ (fun u hu' => by
          rcases List.mem_append.mp hu' with z | z
          · exact hk u (by simp [z])
          · exact hu u z) (by rw [sz_app]; omega) (by rw [sz_app]; omega)
theorem law_sound_eq {t : Tm} (h : OkA 12 t) (hs : szT t ≤ 40) : d__law_sound [.fz (tmD t)] = .ok (B true) [.fz (tmD t)] := by
  have hF := FUEL_eq
  have z1 : szTs [t] = szT t := by rw [szTs, szTs]; omega
  obtain ⟨o', lp⟩ := sound_loop (tmD t) FUEL [t] .gone (fun u hu => by rw [List.mem_singleton.mp hu]; exact h) (by omega) (by omega)
  refine fnS_o (ρ := sdS (tmD t) [] o') (by rfl) ?_ (by rfl)
  show b__law_sound [.fz (tmD t), .gone, .gone] = _
  unfold b__law_sound
  rw [sSeq_next (ρ1 := sdS (tmD t) ([t].map tmD) .gone) (by rw [List.map_cons, List.map_nil]; generalize tmD t = td; simp [gt, fzs])]
  rw [sSeq_next lp]
  simp
abbrev S74 (sc : OD) (k o2 o3 o4 o5 o6 : OD) : Rho := [sc, k, o2, o3, o4, o5, o6]
theorem ne_tA {t : Tm} (h : OkA 12 t) : fNe [tmD t, tmD t] = some (.fz (.v (.bl false))) := by
  cases h with
  | th h => rw [tmD_th]; simp [scal]
  | @ap _ w ts hw h1 h2 h3 =>
    have g := gD_mono (k := 64) (by decide) (gD_tA (.ap hw h1 h2 h3 : OkA 12 _))
    have nv : isV (tmD (.ap w ts)) = false := by rw [tmD_ap]; rfl
    rw [fNe_pl g g (.inl nv), dE_refl _ (pl_of 64 _ g)]
    rfl
theorem turn74 (ns : List Int) (k : Nat) (hk : k < 1000000) (o2 o3 o4 o5 o6 : OD) : ∃ a2 a3 a4 a5 a6, L1_law (S74 (.fz (scr ns)) (I (k : Nat)) o2 o3 o4 o5 o6) = .ok .next (S74 (.fz (scr ns)) (I (k : Nat)) a2 a3 a4 a5 a6) := by
  have e1 := pot_eq ns k hk
  obtain ⟨t, p', room', ok, hs, e2⟩ := law_any_term_eq 20 12 (by decide) (by decide) 39 (potOf ns k) (by decide)
  have hs : szT t ≤ 40 := by omega
  have e2' : d__law_any_term 20 [potO (potOf ns k), .lst [I 39], I 12] = .ok (.fz (tmD t)) [potO p', .lst [I (room' : Nat)], I 12] := e2
  have e3 := law_term_text_eq ok (n := 20) (by decide) (by omega)
  have e4 := term_text_eq ok (n := 20) (by decide) (by omega)
  have e5 := read_term_eq ok hs
  have e6 := law_sound_eq ok hs
  have e7 := ne_tA ok
  refine ⟨potO p', .fz (tmD t), .fz (T (txT t)), .fz (T (txT t)), .fz (tmD t), ?_⟩
  generalize tmD t = td at *
  generalize txT t = xt at *
  unfold L1_law
  rw [sSeq_next (ρ1 := S74 (.fz (scr ns)) (I (k : Nat)) (potO (potOf ns k)) o3 o4 o5 o6) (by simp [gt, e1])]
  rw [sSeq_next (ρ1 := S74 (.fz (scr ns)) (I (k : Nat)) (potO p') (.fz td) o4 o5 o6) (by simp [gt, e2'])]
  rw [sSeq_next (ρ1 := S74 (.fz (scr ns)) (I (k : Nat)) (potO p') (.fz td) (.fz (T xt)) o5 o6) (by simp [gt, e3])]
  rw [sSeq_next (ρ1 := S74 (.fz (scr ns)) (I (k : Nat)) (potO p') (.fz td) (.fz (T xt)) (.fz (T xt)) o6) (by simp [gt, e4])]
  rw [sSeq_next (ρ1 := S74 (.fz (scr ns)) (I (k : Nat)) (potO p') (.fz td) (.fz (T xt)) (.fz (T xt)) o6) (by simp [gt, scal, k_ss])]
  rw [sSeq_next (ρ1 := S74 (.fz (scr ns)) (I (k : Nat)) (potO p') (.fz td) (.fz (T xt)) (.fz (T xt)) (.fz td)) (by simp [gt, e5])]
  simp [-fNe, gt, scal, e4, e6, e7]
  simp [fNe, scal]
theorem LAWTRUE : ∀ ns : List Int, ns.length ≤ 63 → ∃ ρ', d_law [.fz (.wls (ns.map fun n => .v (.int n)))] = .ok (.fz (.v (.bl true))) ρ' := fun ns hns => by
  obtain ⟨ρ', f, o1, o2, o3, o4, o5, o6, rfl⟩ := forN_all (g := gSet 1) (b := L1_law) (fun j ρ => ∃ (o1 o2 o3 o4 o5 o6 : OD), ρ = S74 (.fz (scr ns)) o1 o2 o3 o4 o5 o6)
    (rngD 0 12) 0 (S74 (.fz (scr ns)) .gone .gone .gone .gone .gone .gone) ⟨_, _, _, _, _, _, rfl⟩ fun j d ρ hj ⟨o1, o2, o3, o4, o5, o6, hρ⟩ => by
      obtain ⟨hj1, rfl⟩ := rng_at hj
      subst hρ
      rw [Int.zero_add]
      obtain ⟨a2, a3, a4, a5, a6, e⟩ := turn74 ns j (by omega) o2 o3 o4 o5 o6
      exact ⟨_, _, rfl, e, _, _, _, _, _, _, rfl⟩
  refine ⟨[.fz (scr ns)], ?_⟩
  refine fnS_o (ρ := S74 (.fz (scr ns)) o1 o2 o3 o4 o5 o6) (by rfl) ?_ (by rfl)
  show b_law (S74 (.fz (scr ns)) .gone .gone .gone .gone .gone .gone) = _
  unfold b_law
  rw [sSeq_next (sFor_rng (m := 12) (ρ1 := S74 (.fz (scr ns)) .gone .gone .gone .gone .gone .gone) (by simp [gt]) (by decide) f)]
  simp
end WK
namespace WK
open PySem L2 DL
def top (i : Nat) : Stmt := PySem.Challenge.pw_manydeeds_k74_terms_there_and_back.main.body.getD i (.Pass ⟨0, 0, 0, 0⟩)
structure Gs (K : PySem.W.Frag) (mg : Str → Option Value) (cl : Nat → Addr) : Prop where
  b_all : mg "all" = none
  b_bool : mg "bool" = none
  b_int : mg "int" = none
  b_isinstance : mg "isinstance" = none
  b_len : mg "len" = none
  b_list : mg "list" = none
  b_min : mg "min" = none
  b_range : mg "range" = none
  b_str : mg "str" = none
  b_sum : mg "sum" = none
  b_tuple : mg "tuple" = none
  c_DEEPEST : ∃ t, mg "DEEPEST" = some (.int 12 t)
  c_FIGURES : ∃ t, mg "FIGURES" = some (.str "0123456789" t)
  c_LETTERS : ∃ t, mg "LETTERS" = some (.str "abcdefghijklmnopqrstuvwxyz" t)
  c_LONGEST : ∃ t, mg "LONGEST" = some (.int 8 t)
  c_MOST_PARTS : ∃ t, mg "MOST_PARTS" = some (.int 40 t)
  c_SIGNS : ∃ t, mg "SIGNS" = some (.str "abcdefghijklmnopqrstuvwxyz0123456789" t)
section
variable {P : Program} {w : World} {K : PySem.W.Frag} {mg : Str → Option Value} {base : Heap} {cl : Nat → Addr}
abbrev s__law_pot : Stmt := top 20
abbrev N__law_pot : List Str := ["script", "k", "cell", "rest"]
theorem sc__law_pot : FnScope ["script", "k", "cell", "rest"] ["script", "k"] (defScope s__law_pot) := ⟨rfl, rfl, rfl, by decide +kernel, rfl, by decide +kernel, by decide +kernel⟩
theorem ok__law_pot (T : Gs K mg cl) {f : Addr} {fd : FuncData} (D : DefAt K mg "_law_pot" s__law_pot ["script", "k"] f fd) : FnOk P w K mg base (L2.CX P w) 1 f fd ["script", "k"] (spD K cl d__law_pot) :=
  fn_ok D.fn sc__law_pot rfl rfl fun cdv A outer s H E hr =>
    (ss_cons (es_set (i := 2) (by decide) sc__law_pot.nd rfl (by first | exact Or.inl rfl | exact Or.inr rfl) ee_int)
    (ss_cons (es_if (et_cc (cc_cmp op_Lt (ee_p (ee_name 1 (pv 1))) (ee_p (ee_len rfl T.b_len (ea_cons (ee_p (ee_name 0 (pv 0))) ea_nil)))))
    (ss_one (es_set (i := 2) (by decide) sc__law_pot.nd rfl (by first | exact Or.inl rfl | exact Or.inr rfl) (ee_op' op_Mod (ee_p (ee_item (hu_of hr) (ee_p (ee_name 0 (pv 0))) (ee_p (ee_name 1 (pv 1))))) (ee_p (ee_op' op_Mul (ee_p (ee_op' op_Mul (ee_p (ee_op' op_Mul (ee_p (ee_op' op_Pow (ee_p ee_int) (ee_p ee_int))) (ee_p (ee_op' op_Pow (ee_p ee_int) (ee_p ee_int))))) (ee_p (ee_op' op_Pow (ee_p ee_int) (ee_p ee_int))))) (ee_p (ee_op' op_Pow (ee_p ee_int) (ee_p ee_int)))))))) ss_nil)
    (ss_cons (es_set (i := 3) (by decide) sc__law_pot.nd rfl (by first | exact Or.inl rfl | exact Or.inr rfl) ee_int)
    (ss_cons (es_if (et_cc (cc_cmp op_Ge (ee_p (ee_name 2 (pv 2))) (ee_p (ee_op' op_Pow (ee_p ee_int) (ee_p ee_int)))))
    (ss_one (es_set (i := 3) (by decide) sc__law_pot.nd rfl (by first | exact Or.inl rfl | exact Or.inr rfl) (ee_name 2 (pv 2)))) ss_nil)
    (ss_one (es_ret (ee_lst (ea_cons (ee_s (ee_name 3 (pv 3))) (ea_cons (ee_s (ee_op' op_Mod (ee_p (ee_op' op_Mul (ee_p (ee_op' op_Add (ee_p (ee_op' op_Add (ee_p (ee_op' op_Mod (ee_p (ee_name 2 (pv 2))) (ee_p ee_int))) (ee_p (ee_op' op_Mul (ee_p ee_int) (ee_p (ee_name 1 (pv 1))))))) (ee_p ee_int))) (ee_p ee_int))) (ee_p ee_int))) ea_nil)))))))))

abbrev s__law_take : Stmt := top 21
abbrev N__law_take : List Str := ["pot", "many", "found"]
theorem sc__law_take : FnScope ["pot", "many", "found"] ["pot", "many"] (defScope s__law_take) := ⟨rfl, rfl, rfl, by decide +kernel, rfl, by decide +kernel, by decide +kernel⟩
theorem ok__law_take (T : Gs K mg cl) {f : Addr} {fd : FuncData} (D : DefAt K mg "_law_take" s__law_take ["pot", "many"] f fd) : FnOk P w K mg base (L2.CX P w) 1 f fd ["pot", "many"] (spD K cl d__law_take) :=
  fn_ok D.fn sc__law_take rfl rfl fun cdv A outer s H E hr =>
    (ss_cons (es_if (et_cc (cc_cmp op_Gt (ee_p (ee_item (hu_of hr) (ee_p (ee_name 0 (pv 0))) (ee_p ee_int))) (ee_p ee_int)))
    (ss_cons (es_set (i := 2) (by decide) sc__law_take.nd rfl (by first | exact Or.inl rfl | exact Or.inr rfl) (ee_op' op_Mod (ee_p (ee_item (hu_of hr) (ee_p (ee_name 0 (pv 0))) (ee_p ee_int))) (ee_p (ee_name 1 (pv 1)))))
    (ss_cons (es_setIx (fun h1 h2 => pg_sub h1 h2 set_list) (pv 0) (ee_p ee_int) (ee_s (ee_op' op_Div (ee_p (ee_item (hu_of hr) (ee_p (ee_name 0 (pv 0))) (ee_p ee_int))) (ee_p (ee_name 1 (pv 1))))))
    (ss_one (es_ret (ee_name 2 (pv 2)))))) ss_nil)
    (ss_cons (es_setIx (fun h1 h2 => pg_sub h1 h2 set_list) (pv 0) (ee_p ee_int) (ee_s (ee_op' op_Mod (ee_p (ee_op' op_Add (ee_p (ee_op' op_Mul (ee_p (ee_item (hu_of hr) (ee_p (ee_name 0 (pv 0))) (ee_p ee_int))) (ee_p ee_int))) (ee_p ee_int))) (ee_p ee_int))))
    (ss_one (es_ret (ee_op' op_Mod (ee_p (ee_op' op_Div (ee_p (ee_op' op_Mod (ee_p (ee_op' op_Mul (ee_p (ee_item (hu_of hr) (ee_p (ee_name 0 (pv 0))) (ee_p ee_int))) (ee_p (ee_item (hu_of hr) (ee_p (ee_name 0 (pv 0))) (ee_p ee_int))))) (ee_p ee_int))) (ee_p ee_int))) (ee_p (ee_name 1 (pv 1))))))))

abbrev s__law_letters : Stmt := top 22
abbrev N__law_letters : List Str := ["number", "word"]
theorem sc__law_letters : FnScope ["number", "word"] ["number"] (defScope s__law_letters) := ⟨rfl, rfl, rfl, by decide +kernel, rfl, by decide +kernel, by decide +kernel⟩
theorem ok__law_letters (T : Gs K mg cl) {f : Addr} {fd : FuncData} (D : DefAt K mg "_law_letters" s__law_letters ["number"] f fd) : FnOk P w K mg base (L2.CX P w) 1 f fd ["number"] (spD K cl d__law_letters) :=
  fn_ok D.fn sc__law_letters rfl rfl fun cdv A outer s H E hr =>
    (ss_cons (es_set (i := 1) (by decide) sc__law_letters.nd rfl (by first | exact Or.inl rfl | exact Or.inr rfl) ee_str)
    (ss_cons (es_while FUEL pown (et_w (ew_or (et_cc (cc_cmp (op_Eq hr.units) (ee_p (ee_name 1 (pv 1))) (ee_p ee_str))) (ew_or1 (et_cc (cc_cmp op_Gt (ee_p (ee_name 0 (pv 0))) (ee_p ee_int))))))
    (ss_cons (es_set (i := 1) (by decide) sc__law_letters.nd rfl (by first | exact Or.inl rfl | exact Or.inr rfl) (ee_op' op_Add (ee_p (ee_name 1 (pv 1))) (ee_p (ee_item (hu_of hr) (ee_p ee_str) (ee_p (ee_op' op_Mod (ee_p (ee_name 0 (pv 0))) (ee_p ee_int)))))))
    (ss_one (es_set (i := 0) (by decide) sc__law_letters.nd rfl (by first | exact Or.inl rfl | exact Or.inr rfl) (ee_op' op_Div (ee_p (ee_name 0 (pv 0))) (ee_p ee_int))))))
    (ss_one (es_ret (ee_name 1 (pv 1))))))

abbrev s__law_word : Stmt := top 23
abbrev N__law_word : List Str := ["pot", "words", "some", "way", "word", "number"]
theorem sc__law_word : FnScope ["pot", "words", "some", "way", "word", "number"] ["pot", "words"] (defScope s__law_word) := ⟨rfl, rfl, rfl, by decide +kernel, rfl, by decide +kernel, by decide +kernel⟩
theorem ok__law_word (T : Gs K mg cl) {f : Addr} {fd : FuncData} (D : DefAt K mg "_law_word" s__law_word ["pot", "words"] f fd) {f__law_take : Addr} {fd__law_take : FuncData} (D__law_take : DefAt K mg "_law_take" s__law_take ["pot", "many"] f__law_take fd__law_take) (G__law_take : FnOk P w K mg base (L2.CX P w) 1 f__law_take fd__law_take ["pot", "many"] (spD K cl d__law_take)) {f__law_letters : Addr} {fd__law_letters : FuncData} (D__law_letters : DefAt K mg "_law_letters" s__law_letters ["number"] f__law_letters fd__law_letters) (G__law_letters : FnOk P w K mg base (L2.CX P w) 1 f__law_letters fd__law_letters ["number"] (spD K cl d__law_letters)) : FnOk P w K mg base (L2.CX P w) 2 f fd ["pot", "words"] (spD K cl d__law_word) :=
  fn_ok D.fn sc__law_word rfl rfl fun cdv A outer s H E hr =>
    (ss_cons (es_set (i := 2) (by decide) sc__law_word.nd rfl (by first | exact Or.inl rfl | exact Or.inr rfl) (ee_tup (ea_cons (ee_s ee_str) (ea_cons (ee_s ee_str) (ea_cons (ee_s ee_str) (ea_cons (ee_s ee_str) (ea_cons (ee_s ee_str) (ea_cons (ee_s ee_str) (ea_cons (ee_s ee_str) (ea_cons (ee_s ee_str) (ea_cons (ee_s ee_str) (ea_cons (ee_s ee_str) (ea_cons (ee_s ee_str) (ea_cons (ee_s ee_str) (ea_cons (ee_s ee_str) ea_nil)))))))))))))))
    (ss_cons (es_set (i := 3) (by decide) sc__law_word.nd rfl (by first | exact Or.inl rfl | exact Or.inr rfl) (ee_callX G__law_take (hr.mono (by decide)) rfl D__law_take.g D__law_take.kp D__law_take.bd px (ex_cons (ee_name 0 (pv 0)) (ex_cons ee_int ex_nil))))
    (ss_cons (es_set (i := 4) (by decide) sc__law_word.nd rfl (by first | exact Or.inl rfl | exact Or.inr rfl) (ee_item (hu_of hr) (ee_p (ee_name 2 (pv 2))) (ee_p (ee_callX G__law_take (hr.mono (by decide)) rfl D__law_take.g D__law_take.kp D__law_take.bd px (ex_cons (ee_name 0 (pv 0)) (ex_cons ee_int ex_nil))))))
    (ss_cons (es_if (et_cc (cc_cmp (op_Eq hr.units) (ee_p (ee_name 3 (pv 3))) (ee_p ee_int)))
    (ss_one (es_set (i := 4) (by decide) sc__law_word.nd rfl (by first | exact Or.inl rfl | exact Or.inr rfl) (ee_callX G__law_letters (hr.mono (by decide)) rfl D__law_letters.g D__law_letters.kp D__law_letters.bd px (ex_cons (ee_callX G__law_take (hr.mono (by decide)) rfl D__law_take.g D__law_take.kp D__law_take.bd px (ex_cons (ee_name 0 (pv 0)) (ex_cons (ee_op' op_Sub (ee_p (ee_op' op_Pow (ee_p ee_int) (ee_p ee_int))) (ee_p ee_int)) ex_nil))) ex_nil)))) ss_nil)
    (ss_cons (es_if (et_w (ew_and (et_cc (cc_cmp (op_Eq hr.units) (ee_p (ee_name 3 (pv 3))) (ee_p ee_int))) (ew_and1 (et_cc (cc_cmp (op_Ne hr.units) (ee_p (ee_name 1 (pv 1))) (ee_p (ee_lst ea_nil)))))))
    (ss_cons (es_set (i := 4) (by decide) sc__law_word.nd rfl (by first | exact Or.inl rfl | exact Or.inr rfl) (ee_item (hu_of hr) (ee_p (ee_name 1 (pv 1))) (ee_p (ee_callX G__law_take (hr.mono (by decide)) rfl D__law_take.g D__law_take.kp D__law_take.bd px (ex_cons (ee_name 0 (pv 0)) (ex_cons (ee_len rfl T.b_len (ea_cons (ee_p (ee_name 1 (pv 1))) ea_nil)) ex_nil))))))
    (ss_one (es_set (i := 4) (by decide) sc__law_word.nd rfl (by first | exact Or.inl rfl | exact Or.inr rfl) (ee_slice (ee_p (ee_op' op_Add (ee_p (ee_name 4 (pv 4))) (ee_p (ee_callX G__law_letters (hr.mono (by decide)) rfl D__law_letters.g D__law_letters.kp D__law_letters.bd px (ex_cons (ee_callX G__law_take (hr.mono (by decide)) rfl D__law_take.g D__law_take.kp D__law_take.bd px (ex_cons (ee_name 0 (pv 0)) (ex_cons ee_int ex_nil))) ex_nil))))) eo_none (eo_some (ee_p ee_int)))))) ss_nil)
    (ss_cons (es_if (et_w (ew_and (et_cc (cc_cmp (op_Eq hr.units) (ee_p (ee_name 3 (pv 3))) (ee_p ee_int))) (ew_and1 (et_cc (cc_cmp (op_Ne hr.units) (ee_p (ee_name 1 (pv 1))) (ee_p (ee_lst ea_nil)))))))
    (ss_cons (es_set (i := 4) (by decide) sc__law_word.nd rfl (by first | exact Or.inl rfl | exact Or.inr rfl) (ee_item (hu_of hr) (ee_p (ee_name 1 (pv 1))) (ee_p (ee_callX G__law_take (hr.mono (by decide)) rfl D__law_take.g D__law_take.kp D__law_take.bd px (ex_cons (ee_name 0 (pv 0)) (ex_cons (ee_len rfl T.b_len (ea_cons (ee_p (ee_name 1 (pv 1))) ea_nil)) ex_nil))))))
    (ss_one (es_set (i := 4) (by decide) sc__law_word.nd rfl (by first | exact Or.inl rfl | exact Or.inr rfl) (ee_slice (ee_p (ee_name 4 (pv 4))) eo_none (eo_some (ee_p (ee_op' op_Add (ee_p ee_int) (ee_p (ee_callX G__law_take (hr.mono (by decide)) rfl D__law_take.g D__law_take.kp D__law_take.bd px (ex_cons (ee_name 0 (pv 0)) (ex_cons (ee_len rfl T.b_len (ea_cons (ee_p (ee_name 4 (pv 4))) ea_nil)) ex_nil))))))))))) ss_nil)
    (ss_cons (es_set (i := 5) (by decide) sc__law_word.nd rfl (by first | exact Or.inl rfl | exact Or.inr rfl) ee_int)
    (ss_cons (es_while FUEL pown (et_cc (cc_in (hu_of hr) (ee_p (ee_name 4 (pv 4))) (ee_p (ee_name 1 (pv 1)))))
    (ss_cons (es_set (i := 4) (by decide) sc__law_word.nd rfl (by first | exact Or.inl rfl | exact Or.inr rfl) (ee_callX G__law_letters (hr.mono (by decide)) rfl D__law_letters.g D__law_letters.kp D__law_letters.bd px (ex_cons (ee_fz (ee_name 5 (pv 5))) ex_nil)))
    (ss_one (es_set (i := 5) (by decide) sc__law_word.nd rfl (by first | exact Or.inl rfl | exact Or.inr rfl) (ee_op' op_Add (ee_p (ee_name 5 (pv 5))) (ee_p ee_int))))))
    (ss_one (es_ret (ee_name 4 (pv 4))))))))))))

abbrev s__law_any_term : Stmt := top 26
abbrev N__law_any_term : List Str := ["pot", "room", "deep", "many", "word", "k"]
theorem sc__law_any_term : FnScope ["pot", "room", "deep", "many", "word", "k"] ["pot", "room", "deep"] (defScope s__law_any_term) := ⟨rfl, rfl, rfl, by decide +kernel, rfl, by decide +kernel, by decide +kernel⟩
theorem ok__law_any_term (T : Gs K mg cl) {f : Addr} {fd : FuncData} (D : DefAt K mg "_law_any_term" s__law_any_term ["pot", "room", "deep"] f fd) {f__law_word : Addr} {fd__law_word : FuncData} (D__law_word : DefAt K mg "_law_word" s__law_word ["pot", "words"] f__law_word fd__law_word) (G__law_word : FnOk P w K mg base (L2.CX P w) 2 f__law_word fd__law_word ["pot", "words"] (spD K cl d__law_word)) {f__law_take : Addr} {fd__law_take : FuncData} (D__law_take : DefAt K mg "_law_take" s__law_take ["pot", "many"] f__law_take fd__law_take) (G__law_take : FnOk P w K mg base (L2.CX P w) 1 f__law_take fd__law_take ["pot", "many"] (spD K cl d__law_take)) : ∀ n : Nat, FnOk P w K mg base (L2.CX P w) (2 + n) f fd ["pot", "room", "deep"] (spD K cl (d__law_any_term n)) := by
  intro n
  induction n with
  | zero => exact fn_bad
  | succ n ih =>
    have G__law_any_term := ih
    have D__law_any_term := D
    exact fn_ok D.fn sc__law_any_term rfl rfl fun cdv A outer s H E hr =>
    (ss_cons (es_if (et_w (ew_or (et_cc (cc_cmp op_Lt (ee_p (ee_name 2 (pv 2))) (ee_p ee_int))) (ew_or (et_cc (cc_cmp op_Lt (ee_p (ee_item (hu_of hr) (ee_p (ee_name 1 (pv 1))) (ee_p ee_int))) (ee_p ee_int))) (ew_or1 (et_cc (cc_cmp (op_Eq hr.units) (ee_p (ee_callX G__law_take (hr.mono (by first | omega | (simp only [Nat.add_eq, Nat.le_eq, Nat.mul_eq]; omega))) rfl D__law_take.g D__law_take.kp D__law_take.bd px (ex_cons (ee_name 0 (pv 0)) (ex_cons ee_int ex_nil)))) (ee_p ee_int)))))))
    (ss_one (es_ret (ee_callX G__law_take (hr.mono (by first | omega | (simp only [Nat.add_eq, Nat.le_eq, Nat.mul_eq]; omega))) rfl D__law_take.g D__law_take.kp D__law_take.bd px (ex_cons (ee_name 0 (pv 0)) (ex_cons (ee_item (hu_of hr) (ee_p (ee_tup (ea_cons (ee_s ee_int) (ea_cons (ee_s ee_int) ea_nil)))) (ee_p (ee_callX G__law_take (hr.mono (by first | omega | (simp only [Nat.add_eq, Nat.le_eq, Nat.mul_eq]; omega))) rfl D__law_take.g D__law_take.kp D__law_take.bd px (ex_cons (ee_name 0 (pv 0)) (ex_cons ee_int ex_nil))))) ex_nil))))) ss_nil)
    (ss_cons (es_set (i := 3) (by decide) sc__law_any_term.nd rfl (by first | exact Or.inl rfl | exact Or.inr rfl) (ee_op' op_Add (ee_p ee_int) (ee_p (ee_callX G__law_take (hr.mono (by first | omega | (simp only [Nat.add_eq, Nat.le_eq, Nat.mul_eq]; omega))) rfl D__law_take.g D__law_take.kp D__law_take.bd px (ex_cons (ee_name 0 (pv 0)) (ex_cons (ee_min rfl rfl T.b_min (ea_cons (ee_p ee_int) (ea_cons (ee_p (ee_item (hu_of hr) (ee_p (ee_name 1 (pv 1))) (ee_p ee_int))) ea_nil))) ex_nil))))))
    (ss_cons (es_setIx (fun h1 h2 => pg_sub h1 h2 set_list) (pv 1) (ee_p ee_int) (ee_s (ee_op' op_Sub (ee_p (ee_item (hu_of hr) (ee_p (ee_name 1 (pv 1))) (ee_p ee_int))) (ee_p (ee_name 3 (pv 3))))))
    (ss_cons (es_fz (i := 4) (es_set (i := 4) (by decide) sc__law_any_term.nd rfl (by first | exact Or.inl rfl | exact Or.inr rfl) (ee_callX G__law_word (hr.mono (by first | omega | (simp only [Nat.add_eq, Nat.le_eq, Nat.mul_eq]; omega))) rfl D__law_word.g D__law_word.kp D__law_word.bd px (ex_cons (ee_name 0 (pv 0)) (ex_cons (ee_lst ea_nil) ex_nil)))))
    (ss_one (es_ret (ee_op' op_Add (ee_p (ee_tup (ea_cons (ee_s (ee_name 4 (pv 4))) ea_nil))) (ee_p (ee_tuple rfl T.b_tuple (ea_cons (ee_p (ee_lc (own := [("k", 5)]) rfl sc__law_any_term.nd (ei_rng1 rfl T.b_range (ea_cons (ee_p (ee_name 3 (pv 3))) ea_nil)) (blkOk_by (N := N__law_any_term) (own := [("k", 5)]) (sc := (defScope s__law_any_term)) (by decide +kernel)) ⟨(fun _ _ _ _ _ => (eg_name (i := 5) sc__law_any_term.nd rfl (by first | exact Or.inl rfl | exact Or.inr rfl))), (fun _ _ _ _ _ => ets_nil), (fun _ _ _ _ _ => (ee_s (ee_callX G__law_any_term (hr.mono (by first | omega | (simp only [Nat.add_eq, Nat.le_eq, Nat.mul_eq]; omega))) rfl D__law_any_term.g D__law_any_term.kp D__law_any_term.bd passes_blk (ex_cons (ee_name 0 (pv 0)) (ex_cons (ee_name 1 (pv 1)) (ex_cons (ee_op' op_Sub (ee_p (ee_name 2 (pv 2))) (ee_p ee_int)) ex_nil))))))⟩)) ea_nil))))))))))

abbrev s__law_term_text : Stmt := top 25
abbrev N__law_term_text : List Str := ["term", "text", "k"]
theorem sc__law_term_text : FnScope ["term", "text", "k"] ["term"] (defScope s__law_term_text) := ⟨rfl, rfl, rfl, by decide +kernel, rfl, by decide +kernel, by decide +kernel⟩
theorem ok__law_term_text (T : Gs K mg cl) {f : Addr} {fd : FuncData} (D : DefAt K mg "_law_term_text" s__law_term_text ["term"] f fd) : ∀ n : Nat, FnOk P w K mg base (L2.CX P w) (0 + n) f fd ["term"] (spD K cl (d__law_term_text n)) := by
  intro n
  induction n with
  | zero => exact fn_bad
  | succ n ih =>
    have G__law_term_text := ih
    have D__law_term_text := D
    exact fn_ok D.fn sc__law_term_text rfl rfl fun cdv A outer s H E hr =>
    (ss_cons (es_if (et_not (et_val (ee_p (ee_isi rfl T.b_isinstance (ea_cons (ee_p (ee_name 0 (pv 0))) (ea_cons (ee_p (ee_ty rfl T.b_tuple (by decide +kernel))) ea_nil))))))
    (ss_one (es_ret (ee_strI rfl T.b_str (ea_cons (ee_p (ee_name 0 (pv 0))) ea_nil)))) ss_nil)
    (ss_cons (es_set (i := 1) (by decide) sc__law_term_text.nd rfl (by first | exact Or.inl rfl | exact Or.inr rfl) (ee_op' op_Add (ee_p (ee_item (hu_of hr) (ee_p (ee_name 0 (pv 0))) (ee_p ee_int))) (ee_p ee_str)))
    (ss_cons (es_for pown rfl (ei_rng2 rfl T.b_range (ea_cons (ee_p ee_int) (ea_cons (ee_p (ee_len rfl T.b_len (ea_cons (ee_p (ee_name 0 (pv 0))) ea_nil))) ea_nil))) (eg_name (i := 2) sc__law_term_text.nd rfl (by first | exact Or.inl rfl | exact Or.inr rfl))
    (ss_cons (es_if (et_cc (cc_cmp op_Gt (ee_p (ee_name 2 (pv 2))) (ee_p ee_int)))
    (ss_one (es_set (i := 1) (by decide) sc__law_term_text.nd rfl (by first | exact Or.inl rfl | exact Or.inr rfl) (ee_op' op_Add (ee_p (ee_name 1 (pv 1))) (ee_p ee_str)))) ss_nil)
    (ss_one (es_fz (i := 1) (es_set (i := 1) (by decide) sc__law_term_text.nd rfl (by first | exact Or.inl rfl | exact Or.inr rfl) (ee_op' op_Add (ee_p (ee_name 1 (pv 1))) (ee_p (ee_callX G__law_term_text (hr.mono (by first | omega | (simp only [Nat.add_eq, Nat.le_eq, Nat.mul_eq]; omega))) rfl D__law_term_text.g D__law_term_text.kp D__law_term_text.bd px (ex_cons (ee_item (hu_of hr) (ee_p (ee_name 0 (pv 0))) (ee_p (ee_name 2 (pv 2)))) ex_nil)))))))))
    (ss_one (es_ret (ee_op' op_Add (ee_p (ee_name 1 (pv 1))) (ee_p ee_str)))))))

abbrev s_term_text : Stmt := top 14
abbrev N_term_text : List Str := ["term", "part"]
theorem sc_term_text : FnScope ["term", "part"] ["term"] (defScope s_term_text) := ⟨rfl, rfl, rfl, by decide +kernel, rfl, by decide +kernel, by decide +kernel⟩
theorem ok_term_text (T : Gs K mg cl) {f : Addr} {fd : FuncData} (D : DefAt K mg "term_text" s_term_text ["term"] f fd) : ∀ n : Nat, FnOk P w K mg base (L2.CX P w) (0 + n) f fd ["term"] (spD K cl (d_term_text n)) := by
  intro n
  induction n with
  | zero => exact fn_bad
  | succ n ih =>
    have G_term_text := ih
    have D_term_text := D
    exact fn_ok D.fn sc_term_text rfl rfl fun cdv A outer s H E hr =>
    (ss_cons (es_if (et_val (ee_p (ee_isi rfl T.b_isinstance (ea_cons (ee_p (ee_name 0 (pv 0))) (ea_cons (ee_p (ee_ty rfl T.b_int (by decide +kernel))) ea_nil)))))
    (ss_one (es_ret (ee_strI rfl T.b_str (ea_cons (ee_p (ee_name 0 (pv 0))) ea_nil)))) ss_nil)
    (ss_one (es_ret (ee_op' op_Add (ee_p (ee_op' op_Add (ee_p (ee_op' op_Add (ee_p (ee_item (hu_of hr) (ee_p (ee_name 0 (pv 0))) (ee_p ee_int))) (ee_p ee_str))) (ee_p (ee_join (ee_p ee_str) (ee_p (ee_lc (own := [("part", 1)]) rfl sc_term_text.nd (ei_seq (ee_s (ee_slice (ee_p (ee_name 0 (pv 0))) (eo_some (ee_p ee_int)) eo_none))) (blkOk_by (N := N_term_text) (own := [("part", 1)]) (sc := (defScope s_term_text)) (by decide +kernel)) ⟨(fun _ _ _ _ _ => (eg_name (i := 1) sc_term_text.nd rfl (by first | exact Or.inl rfl | exact Or.inr rfl))), (fun _ _ _ _ _ => ets_nil), (fun _ _ _ _ _ => (ee_s (ee_callX G_term_text (hr.mono (by first | omega | (simp only [Nat.add_eq, Nat.le_eq, Nat.mul_eq]; omega))) rfl D_term_text.g D_term_text.kp D_term_text.bd passes_blk (ex_cons (ee_fz (ee_name 1 (pv 1))) ex_nil))))⟩)))))) (ee_p ee_str)))))

abbrev s_number_in : Stmt := top 15
abbrev N_number_in : List Str := ["word", "sign"]
theorem sc_number_in : FnScope ["word", "sign"] ["word"] (defScope s_number_in) := ⟨rfl, rfl, rfl, by decide +kernel, rfl, by decide +kernel, by decide +kernel⟩
theorem ok_number_in (T : Gs K mg cl) {f : Addr} {fd : FuncData} (D : DefAt K mg "number_in" s_number_in ["word"] f fd) : FnOk P w K mg base (L2.CX P w) 1 f fd ["word"] (spD K cl d_number_in) :=
  fn_ok D.fn sc_number_in rfl rfl fun cdv A outer s H E hr =>
    (ss_cons (es_if (et_w (ew_or (et_not (et_val (ee_p (ee_all rfl rfl T.b_all (ea_cons (ee_p (ee_lcL (own := [("sign", 1)]) rfl sc_number_in.nd (el_name 0 (pv 0)) (blkOk_by (N := N_number_in) (own := [("sign", 1)]) (sc := (defScope s_number_in)) (by decide +kernel)) ⟨(fun _ _ _ _ _ => (eg_name (i := 1) sc_number_in.nd rfl (by first | exact Or.inl rfl | exact Or.inr rfl))), (fun _ _ _ _ _ => ets_nil), (fun _ _ _ _ _ => (ee_s (ee_cc (cc_in (hu_of hr) (ee_p (ee_name 1 (pv 1))) (ee_p (ee_gstr rfl T.c_FIGURES))))))⟩)) ea_nil))))) (ew_or (et_cc (cc_cmp op_Gt (ee_p (ee_len rfl T.b_len (ea_cons (ee_p (ee_name 0 (pv 0))) ea_nil))) (ee_p ee_int))) (ew_or1 (et_w (ew_and (et_cc (cc_cmp (op_Eq hr.units) (ee_p (ee_len rfl T.b_len (ea_cons (ee_p (ee_name 0 (pv 0))) ea_nil))) (ee_p ee_int))) (ew_and1 (et_cc (cc_cmp (op_Eq hr.units) (ee_p (ee_item (hu_of hr) (ee_p (ee_name 0 (pv 0))) (ee_p ee_int))) (ee_p ee_str))))))))))
    (ss_one (es_ret ee_non)) ss_nil)
    (ss_one (es_ret (ee_intT rfl T.b_int (ea_cons (ee_p (ee_name 0 (pv 0))) ea_nil)))))

abbrev s_is_word : Stmt := top 6
abbrev N_is_word : List Str := ["text", "sign"]
theorem sc_is_word : FnScope ["text", "sign"] ["text"] (defScope s_is_word) := ⟨rfl, rfl, rfl, by decide +kernel, rfl, by decide +kernel, by decide +kernel⟩
theorem ok_is_word (T : Gs K mg cl) {f : Addr} {fd : FuncData} (D : DefAt K mg "is_word" s_is_word ["text"] f fd) : FnOk P w K mg base (L2.CX P w) 1 f fd ["text"] (spD K cl d_is_word) :=
  fn_ok D.fn sc_is_word rfl rfl fun cdv A outer s H E hr =>
    (ss_cons (es_if (et_w (ew_or (et_cc (cc_cmp (op_Eq hr.units) (ee_p (ee_name 0 (pv 0))) (ee_p ee_str))) (ew_or1 (et_cc (cc_cmp op_Gt (ee_p (ee_len rfl T.b_len (ea_cons (ee_p (ee_name 0 (pv 0))) ea_nil))) (ee_p (ee_gint rfl T.c_LONGEST)))))))
    (ss_one (es_ret ee_bl)) ss_nil)
    (ss_cons (es_forL pown rfl (el_name 0 (pv 0)) (eg_name (i := 1) sc_is_word.nd rfl (by first | exact Or.inl rfl | exact Or.inr rfl))
    (ss_one (es_if (et_cc (cc_notin (hu_of hr) (ee_p (ee_name 1 (pv 1))) (ee_p (ee_gstr rfl T.c_LETTERS))))
    (ss_one (es_ret ee_bl)) ss_nil)))
    (ss_one (es_ret ee_bl))))

abbrev s_parts_at : Stmt := top 16
abbrev N_parts_at : List Str := ["text", "at", "deep", "parts", "part"]
theorem sc_parts_at : FnScope ["text", "at", "deep", "parts", "part"] ["text", "at", "deep"] (defScope s_parts_at) := ⟨rfl, rfl, rfl, by decide +kernel, rfl, by decide +kernel, by decide +kernel⟩
theorem ok_parts_at (T : Gs K mg cl) {f : Addr} {fd : FuncData} (D : DefAt K mg "parts_at" s_parts_at ["text", "at", "deep"] f fd) {f_term_at : Addr} {fd_term_at : FuncData} (D_term_at : DefAt K mg "term_at" s_term_at ["text", "at", "deep"] f_term_at fd_term_at) (S : FS) (kM : Nat) (hk : 0 ≤ kM) (G_term_at : FnOk P w K mg base (L2.CX P w) kM f_term_at fd_term_at ["text", "at", "deep"] (spD K cl S)) : FnOk P w K mg base (L2.CX P w) (kM + 1) f fd ["text", "at", "deep"] (spD K cl (d_parts_at S)) :=
  fn_ok D.fn sc_parts_at rfl rfl fun cdv A outer s H E hr =>
    (ss_cons (es_set (i := 3) (by decide) sc_parts_at.nd rfl (by first | exact Or.inl rfl | exact Or.inr rfl) (ee_lst ea_nil))
    (ss_one (es_while FUEL pown (et_val (ee_p ee_bl))
    (ss_cons (es_asgG (ee_s (ee_callX G_term_at (hr.mono (by first | omega | (simp only [Nat.add_eq, Nat.le_eq, Nat.mul_eq]; omega))) rfl D_term_at.g D_term_at.kp D_term_at.bd px (ex_cons (ee_name 0 (pv 0)) (ex_cons (ee_name 1 (pv 1)) (ex_cons (ee_name 2 (pv 2)) ex_nil))))) (eg_tup rfl (egs_cons (eg_name (i := 4) sc_parts_at.nd rfl (by first | exact Or.inl rfl | exact Or.inr rfl)) (egs_cons (eg_name (i := 1) sc_parts_at.nd rfl (by first | exact Or.inl rfl | exact Or.inr rfl)) egs_nil))))
    (ss_cons (es_exp (ee_append (pv 3) (ea_cons (ee_s (ee_name 4 (pv 4))) ea_nil)))
    (ss_cons (es_if (et_cc (cc_cmp (op_Eq hr.units) (ee_p (ee_slice (ee_p (ee_name 0 (pv 0))) (eo_some (ee_p (ee_name 1 (pv 1)))) (eo_some (ee_p (ee_op' op_Add (ee_p (ee_name 1 (pv 1))) (ee_p ee_int)))))) (ee_p ee_str)))
    (ss_one (es_ret (ee_tupO (ex_cons (ee_name 3 (pv 3)) (ex_cons (ee_op' op_Add (ee_p (ee_name 1 (pv 1))) (ee_p ee_int)) ex_nil))))) ss_nil)
    (ss_cons (es_if (et_cc (cc_cmp (op_Ne hr.units) (ee_p (ee_slice (ee_p (ee_name 0 (pv 0))) (eo_some (ee_p (ee_name 1 (pv 1)))) (eo_some (ee_p (ee_op' op_Add (ee_p (ee_name 1 (pv 1))) (ee_p ee_int)))))) (ee_p ee_str)))
    (ss_one es_bad) ss_nil)
    (ss_one (es_set (i := 1) (by decide) sc_parts_at.nd rfl (by first | exact Or.inl rfl | exact Or.inr rfl) (ee_op' op_Add (ee_p (ee_name 1 (pv 1))) (ee_p ee_int)))))))))))

abbrev s_term_at : Stmt := top 17
abbrev N_term_at : List Str := ["text", "at", "deep", "end", "word", "number", "parts"]
theorem sc_term_at : FnScope ["text", "at", "deep", "end", "word", "number", "parts"] ["text", "at", "deep"] (defScope s_term_at) := ⟨rfl, rfl, rfl, by decide +kernel, rfl, by decide +kernel, by decide +kernel⟩
theorem ok_term_at (T : Gs K mg cl) {f : Addr} {fd : FuncData} (D : DefAt K mg "term_at" s_term_at ["text", "at", "deep"] f fd) {f_number_in : Addr} {fd_number_in : FuncData} (D_number_in : DefAt K mg "number_in" s_number_in ["word"] f_number_in fd_number_in) (G_number_in : FnOk P w K mg base (L2.CX P w) 1 f_number_in fd_number_in ["word"] (spD K cl d_number_in)) {f_is_word : Addr} {fd_is_word : FuncData} (D_is_word : DefAt K mg "is_word" s_is_word ["text"] f_is_word fd_is_word) (G_is_word : FnOk P w K mg base (L2.CX P w) 1 f_is_word fd_is_word ["text"] (spD K cl d_is_word)) {f_parts_at : Addr} {fd_parts_at : FuncData} (D_parts_at : DefAt K mg "parts_at" s_parts_at ["text", "at", "deep"] f_parts_at fd_parts_at) : ∀ n : Nat, FnOk P w K mg base (L2.CX P w) (1 + 2 * n) f fd ["text", "at", "deep"] (spD K cl (d_term_at n)) := by
  intro n
  induction n with
  | zero => exact fn_bad
  | succ n ih =>
    have G_term_at := ih
    have D_term_at := D
    have G_parts_at := ok_parts_at (P := P) (w := w) (base := base) T D_parts_at  D (d_term_at n) (1 + 2 * n) (by omega) ih
    exact fn_ok D.fn sc_term_at rfl rfl fun cdv A outer s H E hr =>
    (ss_cons (es_set (i := 3) (by decide) sc_term_at.nd rfl (by first | exact Or.inl rfl | exact Or.inr rfl) (ee_name 1 (pv 1)))
    (ss_cons (es_while FUEL pown (et_w (ew_and (et_cc (cc_cmp op_Lt (ee_p (ee_name 3 (pv 3))) (ee_p (ee_len rfl T.b_len (ea_cons (ee_p (ee_name 0 (pv 0))) ea_nil))))) (ew_and1 (et_cc (cc_in (hu_of hr) (ee_p (ee_item (hu_of hr) (ee_p (ee_name 0 (pv 0))) (ee_p (ee_name 3 (pv 3))))) (ee_p (ee_gstr rfl T.c_SIGNS)))))))
    (ss_one (es_set (i := 3) (by decide) sc_term_at.nd rfl (by first | exact Or.inl rfl | exact Or.inr rfl) (ee_op' op_Add (ee_p (ee_name 3 (pv 3))) (ee_p ee_int)))))
    (ss_cons (es_fz (i := 4) (es_set (i := 4) (by decide) sc_term_at.nd rfl (by first | exact Or.inl rfl | exact Or.inr rfl) (ee_slice (ee_p (ee_name 0 (pv 0))) (eo_some (ee_p (ee_name 1 (pv 1)))) (eo_some (ee_p (ee_name 3 (pv 3)))))))
    (ss_cons (es_if (et_w (ew_or (et_cc (cc_cmp op_Gt (ee_p (ee_name 2 (pv 2))) (ee_p (ee_gint rfl T.c_DEEPEST)))) (ew_or1 (et_cc (cc_cmp (op_Eq hr.units) (ee_p (ee_name 4 (pv 4))) (ee_p ee_str))))))
    (ss_one es_bad) ss_nil)
    (ss_cons (es_if (et_w (ew_and (et_val (ee_p (ee_callX G_is_word (hr.mono (by first | omega | (simp only [Nat.add_eq, Nat.le_eq, Nat.mul_eq]; omega))) rfl D_is_word.g D_is_word.kp D_is_word.bd px (ex_cons (ee_fz (ee_name 4 (pv 4))) ex_nil)))) (ew_and1 (et_cc (cc_cmp (op_Eq hr.units) (ee_p (ee_slice (ee_p (ee_name 0 (pv 0))) (eo_some (ee_p (ee_name 3 (pv 3)))) (eo_some (ee_p (ee_op' op_Add (ee_p (ee_name 3 (pv 3))) (ee_p ee_int)))))) (ee_p ee_str))))))
    (ss_cons (es_asgG (ee_s (ee_callX G_parts_at (hr.mono (by first | omega | (simp only [Nat.add_eq, Nat.le_eq, Nat.mul_eq]; omega))) rfl D_parts_at.g D_parts_at.kp D_parts_at.bd px (ex_cons (ee_name 0 (pv 0)) (ex_cons (ee_op' op_Add (ee_p (ee_name 3 (pv 3))) (ee_p ee_int)) (ex_cons (ee_op' op_Add (ee_p (ee_name 2 (pv 2))) (ee_p ee_int)) ex_nil))))) (eg_tup rfl (egs_cons (eg_name (i := 6) sc_term_at.nd rfl (by first | exact Or.inl rfl | exact Or.inr rfl)) (egs_cons (eg_name (i := 3) sc_term_at.nd rfl (by first | exact Or.inl rfl | exact Or.inr rfl)) egs_nil))))
    (ss_one (es_ret (ee_tup (ea_cons (ee_s (ee_op' op_Add (ee_p (ee_tup (ea_cons (ee_s (ee_name 4 (pv 4))) ea_nil))) (ee_p (ee_tuple rfl T.b_tuple (ea_cons (ee_p (ee_name 6 (pv 6))) ea_nil))))) (ea_cons (ee_s (ee_name 3 (pv 3))) ea_nil)))))) ss_nil)
    (ss_cons (es_fz (i := 5) (es_set (i := 5) (by decide) sc_term_at.nd rfl (by first | exact Or.inl rfl | exact Or.inr rfl) (ee_callX G_number_in (hr.mono (by first | omega | (simp only [Nat.add_eq, Nat.le_eq, Nat.mul_eq]; omega))) rfl D_number_in.g D_number_in.kp D_number_in.bd px (ex_cons (ee_fz (ee_name 4 (pv 4))) ex_nil))))
    (ss_cons (es_if (et_cc (cc_cmp op_Is (ee_p (ee_name 5 (pv 5))) (ee_p ee_non)))
    (ss_one es_bad) ss_nil)
    (ss_one (es_ret (ee_tup (ea_cons (ee_s (ee_name 5 (pv 5))) (ea_cons (ee_s (ee_name 3 (pv 3))) ea_nil))))))))))))

abbrev s_parts_of : Stmt := top 10
abbrev N_parts_of : List Str := ["term", "part"]
theorem sc_parts_of : FnScope ["term", "part"] ["term"] (defScope s_parts_of) := ⟨rfl, rfl, rfl, by decide +kernel, rfl, by decide +kernel, by decide +kernel⟩
theorem ok_parts_of (T : Gs K mg cl) {f : Addr} {fd : FuncData} (D : DefAt K mg "parts_of" s_parts_of ["term"] f fd) : ∀ n : Nat, FnOk P w K mg base (L2.CX P w) (0 + n) f fd ["term"] (spD K cl (d_parts_of n)) := by
  intro n
  induction n with
  | zero => exact fn_bad
  | succ n ih =>
    have G_parts_of := ih
    have D_parts_of := D
    exact fn_ok D.fn sc_parts_of rfl rfl fun cdv A outer s H E hr =>
    (ss_cons (es_if (et_val (ee_p (ee_isi rfl T.b_isinstance (ea_cons (ee_p (ee_name 0 (pv 0))) (ea_cons (ee_p (ee_ty rfl T.b_tuple (by decide +kernel))) ea_nil)))))
    (ss_one (es_ret (ee_op' op_Add (ee_p ee_int) (ee_p (ee_sum rfl rfl T.b_sum (ea_cons (ee_p (ee_lc (own := [("part", 1)]) rfl sc_parts_of.nd (ei_seq (ee_s (ee_slice (ee_p (ee_name 0 (pv 0))) (eo_some (ee_p ee_int)) eo_none))) (blkOk_by (N := N_parts_of) (own := [("part", 1)]) (sc := (defScope s_parts_of)) (by decide +kernel)) ⟨(fun _ _ _ _ _ => (eg_name (i := 1) sc_parts_of.nd rfl (by first | exact Or.inl rfl | exact Or.inr rfl))), (fun _ _ _ _ _ => ets_nil), (fun _ _ _ _ _ => (ee_s (ee_callX G_parts_of (hr.mono (by first | omega | (simp only [Nat.add_eq, Nat.le_eq, Nat.mul_eq]; omega))) rfl D_parts_of.g D_parts_of.kp D_parts_of.bd passes_blk (ex_cons (ee_fz (ee_name 1 (pv 1))) ex_nil))))⟩)) ea_nil)))))) ss_nil)
    (ss_one (es_ret ee_int)))

abbrev s_read_term : Stmt := top 18
abbrev N_read_term : List Str := ["text", "term", "end"]
theorem sc_read_term : FnScope ["text", "term", "end"] ["text"] (defScope s_read_term) := ⟨rfl, rfl, rfl, by decide +kernel, rfl, by decide +kernel, by decide +kernel⟩
theorem ok_read_term (T : Gs K mg cl) {f : Addr} {fd : FuncData} (D : DefAt K mg "read_term" s_read_term ["text"] f fd) {f_term_at : Addr} {fd_term_at : FuncData} (D_term_at : DefAt K mg "term_at" s_term_at ["text", "at", "deep"] f_term_at fd_term_at) (G_term_at : FnOk P w K mg base (L2.CX P w) 41 f_term_at fd_term_at ["text", "at", "deep"] (spD K cl (d_term_at 20))) {f_parts_of : Addr} {fd_parts_of : FuncData} (D_parts_of : DefAt K mg "parts_of" s_parts_of ["term"] f_parts_of fd_parts_of) (G_parts_of : FnOk P w K mg base (L2.CX P w) 20 f_parts_of fd_parts_of ["term"] (spD K cl (d_parts_of 20))) : FnOk P w K mg base (L2.CX P w) 42 f fd ["text"] (spD K cl d_read_term) :=
  fn_ok D.fn sc_read_term rfl rfl fun cdv A outer s H E hr =>
    (ss_cons (es_asgG (ee_s (ee_callX G_term_at (hr.mono (by decide)) rfl D_term_at.g D_term_at.kp D_term_at.bd px (ex_cons (ee_name 0 (pv 0)) (ex_cons ee_int (ex_cons ee_int ex_nil))))) (eg_tup rfl (egs_cons (eg_name (i := 1) sc_read_term.nd rfl (by first | exact Or.inl rfl | exact Or.inr rfl)) (egs_cons (eg_name (i := 2) sc_read_term.nd rfl (by first | exact Or.inl rfl | exact Or.inr rfl)) egs_nil))))
    (ss_cons (es_if (et_w (ew_or (et_cc (cc_cmp op_Lt (ee_p (ee_name 2 (pv 2))) (ee_p (ee_len rfl T.b_len (ea_cons (ee_p (ee_name 0 (pv 0))) ea_nil))))) (ew_or1 (et_cc (cc_cmp op_Gt (ee_p (ee_callX G_parts_of (hr.mono (by decide)) rfl D_parts_of.g D_parts_of.kp D_parts_of.bd px (ex_cons (ee_fz (ee_name 1 (pv 1))) ex_nil))) (ee_p (ee_gint rfl T.c_MOST_PARTS)))))))
    (ss_one es_bad) ss_nil)
    (ss_one (es_ret (ee_name 1 (pv 1))))))

abbrev s__law_whole : Stmt := top 24
abbrev N__law_whole : List Str := ["found"]
theorem sc__law_whole : FnScope ["found"] ["found"] (defScope s__law_whole) := ⟨rfl, rfl, rfl, by decide +kernel, rfl, by decide +kernel, by decide +kernel⟩
theorem ok__law_whole (T : Gs K mg cl) {f : Addr} {fd : FuncData} (D : DefAt K mg "_law_whole" s__law_whole ["found"] f fd) : FnOk P w K mg base (L2.CX P w) 1 f fd ["found"] (spD K cl d__law_whole) :=
  fn_ok D.fn sc__law_whole rfl rfl fun cdv A outer s H E hr =>
    (ss_one (es_ret (ee_and (ee_isi rfl T.b_isinstance (ea_cons (ee_p (ee_name 0 (pv 0))) (ea_cons (ee_p (ee_ty rfl T.b_int (by decide +kernel))) ea_nil))) (ee_one (ee_not (ee_isi rfl T.b_isinstance (ea_cons (ee_p (ee_name 0 (pv 0))) (ea_cons (ee_p (ee_ty rfl T.b_bool (by decide +kernel))) ea_nil))))))))

abbrev s__law_sound : Stmt := top 27
abbrev N__law_sound : List Str := ["term", "left", "part"]
theorem sc__law_sound : FnScope ["term", "left", "part"] ["term"] (defScope s__law_sound) := ⟨rfl, rfl, rfl, by decide +kernel, rfl, by decide +kernel, by decide +kernel⟩
theorem ok__law_sound (T : Gs K mg cl) {f : Addr} {fd : FuncData} (D : DefAt K mg "_law_sound" s__law_sound ["term"] f fd) {f__law_whole : Addr} {fd__law_whole : FuncData} (D__law_whole : DefAt K mg "_law_whole" s__law_whole ["found"] f__law_whole fd__law_whole) (G__law_whole : FnOk P w K mg base (L2.CX P w) 1 f__law_whole fd__law_whole ["found"] (spD K cl d__law_whole)) : FnOk P w K mg base (L2.CX P w) 2 f fd ["term"] (spD K cl d__law_sound) :=
  fn_ok D.fn sc__law_sound rfl rfl fun cdv A outer s H E hr =>
    (ss_cons (es_set (i := 1) (by decide) sc__law_sound.nd rfl (by first | exact Or.inl rfl | exact Or.inr rfl) (ee_lst (ea_cons (ee_s (ee_name 0 (pv 0))) ea_nil)))
    (ss_cons (es_while FUEL pown (et_cc (cc_cmp (op_Ne hr.units) (ee_p (ee_name 1 (pv 1))) (ee_p (ee_lst ea_nil))))
    (ss_cons (es_fz (i := 2) (es_set (i := 2) (by decide) sc__law_sound.nd rfl (by first | exact Or.inl rfl | exact Or.inr rfl) (ee_pop0 (pv 1))))
    (ss_one (es_if (et_val (ee_p (ee_isi rfl T.b_isinstance (ea_cons (ee_p (ee_name 2 (pv 2))) (ea_cons (ee_p (ee_ty rfl T.b_tuple (by decide +kernel))) ea_nil)))))
    (ss_cons (es_if (et_w (ew_or (et_cc (cc_cmp (op_Eq hr.units) (ee_p (ee_name 2 (pv 2))) (ee_p (ee_tup ea_nil)))) (ew_or1 (et_not (et_val (ee_p (ee_isi rfl T.b_isinstance (ea_cons (ee_p (ee_item (hu_of hr) (ee_p (ee_name 2 (pv 2))) (ee_p ee_int))) (ea_cons (ee_p (ee_ty rfl T.b_str (by decide +kernel))) ea_nil)))))))))
    (ss_one (es_ret ee_bl)) ss_nil)
    (ss_one (es_exp (ee_extend (pv 1) (ee_listA rfl rfl T.b_list (ea_cons (ee_p (ee_slice (ee_p (ee_name 2 (pv 2))) (eo_some (ee_p ee_int)) eo_none)) ea_nil)))))) (ss_one (es_if (et_not (et_val (ee_p (ee_callX G__law_whole (hr.mono (by decide)) rfl D__law_whole.g D__law_whole.kp D__law_whole.bd px (ex_cons (ee_fz (ee_name 2 (pv 2))) ex_nil)))))
    (ss_one (es_ret ee_bl)) ss_nil))))))
    (ss_one (es_ret ee_bl))))

abbrev s_law : Stmt := top 28
abbrev N_law : List Str := ["script", "k", "pot", "term", "due", "text", "found"]
theorem sc_law : FnScope ["script", "k", "pot", "term", "due", "text", "found"] ["script"] (defScope s_law) := ⟨rfl, rfl, rfl, by decide +kernel, rfl, by decide +kernel, by decide +kernel⟩
theorem ok_law (T : Gs K mg cl) {f : Addr} {fd : FuncData} (D : DefAt K mg "law" s_law ["script"] f fd) {f__law_pot : Addr} {fd__law_pot : FuncData} (D__law_pot : DefAt K mg "_law_pot" s__law_pot ["script", "k"] f__law_pot fd__law_pot) (G__law_pot : FnOk P w K mg base (L2.CX P w) 1 f__law_pot fd__law_pot ["script", "k"] (spD K cl d__law_pot)) {f__law_any_term : Addr} {fd__law_any_term : FuncData} (D__law_any_term : DefAt K mg "_law_any_term" s__law_any_term ["pot", "room", "deep"] f__law_any_term fd__law_any_term) (G__law_any_term : FnOk P w K mg base (L2.CX P w) 22 f__law_any_term fd__law_any_term ["pot", "room", "deep"] (spD K cl (d__law_any_term 20))) {f__law_term_text : Addr} {fd__law_term_text : FuncData} (D__law_term_text : DefAt K mg "_law_term_text" s__law_term_text ["term"] f__law_term_text fd__law_term_text) (G__law_term_text : FnOk P w K mg base (L2.CX P w) 20 f__law_term_text fd__law_term_text ["term"] (spD K cl (d__law_term_text 20))) {f_term_text : Addr} {fd_term_text : FuncData} (D_term_text : DefAt K mg "term_text" s_term_text ["term"] f_term_text fd_term_text) (G_term_text : FnOk P w K mg base (L2.CX P w) 20 f_term_text fd_term_text ["term"] (spD K cl (d_term_text 20))) {f_read_term : Addr} {fd_read_term : FuncData} (D_read_term : DefAt K mg "read_term" s_read_term ["text"] f_read_term fd_read_term) (G_read_term : FnOk P w K mg base (L2.CX P w) 42 f_read_term fd_read_term ["text"] (spD K cl d_read_term)) {f__law_sound : Addr} {fd__law_sound : FuncData} (D__law_sound : DefAt K mg "_law_sound" s__law_sound ["term"] f__law_sound fd__law_sound) (G__law_sound : FnOk P w K mg base (L2.CX P w) 2 f__law_sound fd__law_sound ["term"] (spD K cl d__law_sound)) : FnOk P w K mg base (L2.CX P w) 43 f fd ["script"] (spD K cl d_law) :=
  fn_ok D.fn sc_law rfl rfl fun cdv A outer s H E hr =>
    (ss_cons (es_for pown rfl (ei_rng1 rfl T.b_range (ea_cons (ee_p ee_int) ea_nil)) (eg_name (i := 1) sc_law.nd rfl (by first | exact Or.inl rfl | exact Or.inr rfl))
    (ss_cons (es_set (i := 2) (by decide) sc_law.nd rfl (by first | exact Or.inl rfl | exact Or.inr rfl) (ee_callX G__law_pot (hr.mono (by decide)) rfl D__law_pot.g D__law_pot.kp D__law_pot.bd px (ex_cons (ee_name 0 (pv 0)) (ex_cons (ee_fz (ee_name 1 (pv 1))) ex_nil))))
    (ss_cons (es_fz (i := 3) (es_set (i := 3) (by decide) sc_law.nd rfl (by first | exact Or.inl rfl | exact Or.inr rfl) (ee_callX G__law_any_term (hr.mono (by decide)) rfl D__law_any_term.g D__law_any_term.kp D__law_any_term.bd px (ex_cons (ee_name 2 (pv 2)) (ex_cons (ee_lst (ea_cons (ee_s ee_int) ea_nil)) (ex_cons ee_int ex_nil))))))
    (ss_cons (es_fz (i := 4) (es_set (i := 4) (by decide) sc_law.nd rfl (by first | exact Or.inl rfl | exact Or.inr rfl) (ee_callX G__law_term_text (hr.mono (by decide)) rfl D__law_term_text.g D__law_term_text.kp D__law_term_text.bd px (ex_cons (ee_fz (ee_name 3 (pv 3))) ex_nil))))
    (ss_cons (es_fz (i := 5) (es_set (i := 5) (by decide) sc_law.nd rfl (by first | exact Or.inl rfl | exact Or.inr rfl) (ee_callX G_term_text (hr.mono (by decide)) rfl D_term_text.g D_term_text.kp D_term_text.bd px (ex_cons (ee_fz (ee_name 3 (pv 3))) ex_nil))))
    (ss_cons (es_if (et_w (ew_or (et_not (et_val (ee_p (ee_isi rfl T.b_isinstance (ea_cons (ee_p (ee_name 5 (pv 5))) (ea_cons (ee_p (ee_ty rfl T.b_str (by decide +kernel))) ea_nil)))))) (ew_or1 (et_cc (cc_cmp (op_Ne hr.units) (ee_p (ee_name 5 (pv 5))) (ee_p (ee_name 4 (pv 4))))))))
    (ss_one (es_ret ee_bl)) ss_nil)
    (ss_cons (es_fz (i := 6) (es_set (i := 6) (by decide) sc_law.nd rfl (by first | exact Or.inl rfl | exact Or.inr rfl) (ee_callX G_read_term (hr.mono (by decide)) rfl D_read_term.g D_read_term.kp D_read_term.bd px (ex_cons (ee_fz (ee_name 4 (pv 4))) ex_nil))))
    (ss_one (es_if (et_w (ew_or (et_not (et_val (ee_p (ee_callX G__law_sound (hr.mono (by decide)) rfl D__law_sound.g D__law_sound.kp D__law_sound.bd px (ex_cons (ee_fz (ee_name 6 (pv 6))) ex_nil))))) (ew_or (et_cc (cc_cmp (op_Ne hr.units) (ee_p (ee_name 6 (pv 6))) (ee_p (ee_name 3 (pv 3))))) (ew_or1 (et_cc (cc_cmp (op_Ne hr.units) (ee_p (ee_callX G_term_text (hr.mono (by decide)) rfl D_term_text.g D_term_text.kp D_term_text.bd px (ex_cons (ee_fz (ee_name 6 (pv 6))) ex_nil))) (ee_p (ee_name 4 (pv 4)))))))))
    (ss_one (es_ret ee_bl)) ss_nil)))))))))
    (ss_one (es_ret ee_bl)))
end
theorem gs_mk {K : PySem.W.Frag} {h : Heap} {mg : Str → Option Value} {cl : Nat → Addr} (X : K.In h) (G : h.Ns mainGlobals mg)
    (b_all : PySem.W.nsIn K mainGlobals "all" = some none)
    (b_bool : PySem.W.nsIn K mainGlobals "bool" = some none)
    (b_int : PySem.W.nsIn K mainGlobals "int" = some none)
    (b_isinstance : PySem.W.nsIn K mainGlobals "isinstance" = some none)
    (b_len : PySem.W.nsIn K mainGlobals "len" = some none)
    (b_list : PySem.W.nsIn K mainGlobals "list" = some none)
    (b_min : PySem.W.nsIn K mainGlobals "min" = some none)
    (b_range : PySem.W.nsIn K mainGlobals "range" = some none)
    (b_str : PySem.W.nsIn K mainGlobals "str" = some none)
    (b_sum : PySem.W.nsIn K mainGlobals "sum" = some none)
    (b_tuple : PySem.W.nsIn K mainGlobals "tuple" = some none)
    {t_DEEPEST : Tok} (c_DEEPEST : PySem.W.nsIn K mainGlobals "DEEPEST" = some (some (.int 12 t_DEEPEST)))
    {t_FIGURES : Tok} (c_FIGURES : PySem.W.nsIn K mainGlobals "FIGURES" = some (some (.str "0123456789" t_FIGURES)))
    {t_LETTERS : Tok} (c_LETTERS : PySem.W.nsIn K mainGlobals "LETTERS" = some (some (.str "abcdefghijklmnopqrstuvwxyz" t_LETTERS)))
    {t_LONGEST : Tok} (c_LONGEST : PySem.W.nsIn K mainGlobals "LONGEST" = some (some (.int 8 t_LONGEST)))
    {t_MOST_PARTS : Tok} (c_MOST_PARTS : PySem.W.nsIn K mainGlobals "MOST_PARTS" = some (some (.int 40 t_MOST_PARTS)))
    {t_SIGNS : Tok} (c_SIGNS : PySem.W.nsIn K mainGlobals "SIGNS" = some (some (.str "abcdefghijklmnopqrstuvwxyz0123456789" t_SIGNS)))
    : Gs K mg cl := ⟨PySem.W.mg_none_of X G b_all, PySem.W.mg_none_of X G b_bool, PySem.W.mg_none_of X G b_int, PySem.W.mg_none_of X G b_isinstance, PySem.W.mg_none_of X G b_len, PySem.W.mg_none_of X G b_list, PySem.W.mg_none_of X G b_min, PySem.W.mg_none_of X G b_range, PySem.W.mg_none_of X G b_str, PySem.W.mg_none_of X G b_sum, PySem.W.mg_none_of X G b_tuple, ⟨_, PySem.W.mg_of X G c_DEEPEST⟩, ⟨_, PySem.W.mg_of X G c_FIGURES⟩, ⟨_, PySem.W.mg_of X G c_LETTERS⟩, ⟨_, PySem.W.mg_of X G c_LONGEST⟩, ⟨_, PySem.W.mg_of X G c_MOST_PARTS⟩, ⟨_, PySem.W.mg_of X G c_SIGNS⟩⟩
theorem fin_mk {w : World} {K : PySem.W.Frag} {h : Heap} {mg : Str → Option Value} {fa  : Addr} (X : K.In h) (G : h.Ns mainGlobals mg) (hmg : mg "law" = some (.ref fa))
    (b_all : PySem.W.nsIn K mainGlobals "all" = some none)
    (b_bool : PySem.W.nsIn K mainGlobals "bool" = some none)
    (b_int : PySem.W.nsIn K mainGlobals "int" = some none)
    (b_isinstance : PySem.W.nsIn K mainGlobals "isinstance" = some none)
    (b_len : PySem.W.nsIn K mainGlobals "len" = some none)
    (b_list : PySem.W.nsIn K mainGlobals "list" = some none)
    (b_min : PySem.W.nsIn K mainGlobals "min" = some none)
    (b_range : PySem.W.nsIn K mainGlobals "range" = some none)
    (b_str : PySem.W.nsIn K mainGlobals "str" = some none)
    (b_sum : PySem.W.nsIn K mainGlobals "sum" = some none)
    (b_tuple : PySem.W.nsIn K mainGlobals "tuple" = some none)
    {t_DEEPEST : Tok} (c_DEEPEST : PySem.W.nsIn K mainGlobals "DEEPEST" = some (some (.int 12 t_DEEPEST)))
    {t_FIGURES : Tok} (c_FIGURES : PySem.W.nsIn K mainGlobals "FIGURES" = some (some (.str "0123456789" t_FIGURES)))
    {t_LETTERS : Tok} (c_LETTERS : PySem.W.nsIn K mainGlobals "LETTERS" = some (some (.str "abcdefghijklmnopqrstuvwxyz" t_LETTERS)))
    {t_LONGEST : Tok} (c_LONGEST : PySem.W.nsIn K mainGlobals "LONGEST" = some (some (.int 8 t_LONGEST)))
    {t_MOST_PARTS : Tok} (c_MOST_PARTS : PySem.W.nsIn K mainGlobals "MOST_PARTS" = some (some (.int 40 t_MOST_PARTS)))
    {t_SIGNS : Tok} (c_SIGNS : PySem.W.nsIn K mainGlobals "SIGNS" = some (some (.str "abcdefghijklmnopqrstuvwxyz0123456789" t_SIGNS)))
    (D__law_pot : ∃ f fd, DefAt K mg "_law_pot" s__law_pot ["script", "k"] f fd)
    (D__law_take : ∃ f fd, DefAt K mg "_law_take" s__law_take ["pot", "many"] f fd)
    (D__law_letters : ∃ f fd, DefAt K mg "_law_letters" s__law_letters ["number"] f fd)
    (D__law_word : ∃ f fd, DefAt K mg "_law_word" s__law_word ["pot", "words"] f fd)
    (D__law_any_term : ∃ f fd, DefAt K mg "_law_any_term" s__law_any_term ["pot", "room", "deep"] f fd)
    (D__law_term_text : ∃ f fd, DefAt K mg "_law_term_text" s__law_term_text ["term"] f fd)
    (D_term_text : ∃ f fd, DefAt K mg "term_text" s_term_text ["term"] f fd)
    (D_number_in : ∃ f fd, DefAt K mg "number_in" s_number_in ["word"] f fd)
    (D_is_word : ∃ f fd, DefAt K mg "is_word" s_is_word ["text"] f fd)
    (D_parts_at : ∃ f fd, DefAt K mg "parts_at" s_parts_at ["text", "at", "deep"] f fd)
    (D_term_at : ∃ f fd, DefAt K mg "term_at" s_term_at ["text", "at", "deep"] f fd)
    (D_parts_of : ∃ f fd, DefAt K mg "parts_of" s_parts_of ["term"] f fd)
    (D_read_term : ∃ f fd, DefAt K mg "read_term" s_read_term ["text"] f fd)
    (D__law_whole : ∃ f fd, DefAt K mg "_law_whole" s__law_whole ["found"] f fd)
    (D__law_sound : ∃ f fd, DefAt K mg "_law_sound" s__law_sound ["term"] f fd)
    (D_law : ∃ f fd, DefAt K mg "law" s_law ["script"] f fd)
    : ∃ fd : FuncData, (∀ (s : Shared) (u : Value), BindsTo s fd ⟨[u], []⟩ [("script", u)]) ∧ ∀ base : Heap, K.In base → base.Ns mainGlobals mg → FnOk PySem.Challenge.rw_manydeeds_k74_terms_there_and_back.prog w K mg base (L2.CX PySem.Challenge.rw_manydeeds_k74_terms_there_and_back.prog w) 43 fa fd ["script"] (spLaw K) := by
  let cl : Nat → Addr := fun n => 0
  have T : Gs K mg cl := gs_mk X G b_all b_bool b_int b_isinstance b_len b_list b_min b_range b_str b_sum b_tuple c_DEEPEST c_FIGURES c_LETTERS c_LONGEST c_MOST_PARTS c_SIGNS
  obtain ⟨f__law_pot, fd__law_pot, D__law_pot⟩ := D__law_pot
  obtain ⟨f__law_take, fd__law_take, D__law_take⟩ := D__law_take
  obtain ⟨f__law_letters, fd__law_letters, D__law_letters⟩ := D__law_letters
  obtain ⟨f__law_word, fd__law_word, D__law_word⟩ := D__law_word
  obtain ⟨f__law_any_term, fd__law_any_term, D__law_any_term⟩ := D__law_any_term
  obtain ⟨f__law_term_text, fd__law_term_text, D__law_term_text⟩ := D__law_term_text
  obtain ⟨f_term_text, fd_term_text, D_term_text⟩ := D_term_text
  obtain ⟨f_number_in, fd_number_in, D_number_in⟩ := D_number_in
  obtain ⟨f_is_word, fd_is_word, D_is_word⟩ := D_is_word
  obtain ⟨f_parts_at, fd_parts_at, D_parts_at⟩ := D_parts_at
  obtain ⟨f_term_at, fd_term_at, D_term_at⟩ := D_term_at
  obtain ⟨f_parts_of, fd_parts_of, D_parts_of⟩ := D_parts_of
  obtain ⟨f_read_term, fd_read_term, D_read_term⟩ := D_read_term
  obtain ⟨f__law_whole, fd__law_whole, D__law_whole⟩ := D__law_whole
  obtain ⟨f__law_sound, fd__law_sound, D__law_sound⟩ := D__law_sound
  obtain ⟨f_law, fd_law, D_law⟩ := D_law
  have e := hmg.symm.trans D_law.g
  cases e
  refine ⟨fd_law, fun s v => .of_eq (D_law.ba [v] rfl), fun base _ _ => ?_⟩
  have G__law_pot := ok__law_pot (P := PySem.Challenge.rw_manydeeds_k74_terms_there_and_back.prog) (w := w) (base := base) (cl := cl) T D__law_pot 
  have G__law_take := ok__law_take (P := PySem.Challenge.rw_manydeeds_k74_terms_there_and_back.prog) (w := w) (base := base) (cl := cl) T D__law_take 
  have G__law_letters := ok__law_letters (P := PySem.Challenge.rw_manydeeds_k74_terms_there_and_back.prog) (w := w) (base := base) (cl := cl) T D__law_letters 
  have G__law_word := ok__law_word (P := PySem.Challenge.rw_manydeeds_k74_terms_there_and_back.prog) (w := w) (base := base) (cl := cl) T D__law_word D__law_take G__law_take D__law_letters G__law_letters
  have G__law_any_term := ok__law_any_term (P := PySem.Challenge.rw_manydeeds_k74_terms_there_and_back.prog) (w := w) (base := base) (cl := cl) T D__law_any_term D__law_word G__law_word D__law_take G__law_take 20
  have G__law_term_text := ok__law_term_text (P := PySem.Challenge.rw_manydeeds_k74_terms_there_and_back.prog) (w := w) (base := base) (cl := cl) T D__law_term_text  20
  have G_term_text := ok_term_text (P := PySem.Challenge.rw_manydeeds_k74_terms_there_and_back.prog) (w := w) (base := base) (cl := cl) T D_term_text  20
  have G_number_in := ok_number_in (P := PySem.Challenge.rw_manydeeds_k74_terms_there_and_back.prog) (w := w) (base := base) (cl := cl) T D_number_in 
  have G_is_word := ok_is_word (P := PySem.Challenge.rw_manydeeds_k74_terms_there_and_back.prog) (w := w) (base := base) (cl := cl) T D_is_word 
  have G_term_at := ok_term_at (P := PySem.Challenge.rw_manydeeds_k74_terms_there_and_back.prog) (w := w) (base := base) (cl := cl) T D_term_at D_number_in G_number_in D_is_word G_is_word D_parts_at 20
  have G_parts_of := ok_parts_of (P := PySem.Challenge.rw_manydeeds_k74_terms_there_and_back.prog) (w := w) (base := base) (cl := cl) T D_parts_of  20
  have G_read_term := ok_read_term (P := PySem.Challenge.rw_manydeeds_k74_terms_there_and_back.prog) (w := w) (base := base) (cl := cl) T D_read_term D_term_at G_term_at D_parts_of G_parts_of
  have G__law_whole := ok__law_whole (P := PySem.Challenge.rw_manydeeds_k74_terms_there_and_back.prog) (w := w) (base := base) (cl := cl) T D__law_whole 
  have G__law_sound := ok__law_sound (P := PySem.Challenge.rw_manydeeds_k74_terms_there_and_back.prog) (w := w) (base := base) (cl := cl) T D__law_sound D__law_whole G__law_whole
  exact L2.FnOk.imp (ok_law (cl := cl) T D_law D__law_pot G__law_pot D__law_any_term G__law_any_term D__law_term_text G__law_term_text D_term_text G_term_text D_read_term G_read_term D__law_sound G__law_sound) (DL.law_sp' LAWTRUE)
theorem walk {l : PySem.W.OpenLaw} {q : Program} {loose : List Str} {XP : (Str → Option Value) → Heap → Prop} {YP : World → Heap → Prop} {d : DefRec} {K : Params → PySem.W.Frag} (hn : l.most = some 63) (hdf : d.params.defaults = [])
    (hY : ∀ (w : World) (h : Heap), YP w h → (K w.params).In h)
    (F : ∀ (w : World) (mg : Str → Option Value) (fa : Addr) (h : Heap), (K w.params).In h → h.Ns mainGlobals mg → mg d.name = some (.ref fa) →
      ∃ fd : FuncData, (∀ (s : Shared) (u : Value), BindsTo s fd ⟨[u], []⟩ [("script", u)]) ∧ ∀ base : Heap, (K w.params).In base → base.Ns mainGlobals mg → FnOk l.prog w (K w.params) mg base (L2.CX l.prog w) 43 fa fd ["script"] (spLaw (K w.params))) :
    PySem.W.WalkO q loose XP YP l.row.toRowW d [] (fun f vs => PySem.call f vs) :=
  L2.walk_of (n := 63) (k := 43) (x := "script") (CX := fun w => L2.CX l.prog w) (sp := fun w => spLaw (K w.params)) hn (by decide) hdf ⟨rfl, by decide, by decide⟩ hY F (fun _ _ a ns hl _ hS => ⟨a, ns, rfl, hS, hl, fun _ => rfl⟩) fun _ H s e s' z => no_cx H s e s' z
end WK
open PySem PySem.W PyProof.Rows
set_option maxRecDepth 100000 in
set_option maxHeartbeats 0 in
theorem PySem.Challenge.cw_manydeeds_k74_terms_there_and_back_holds : PySem.Challenge.rw_manydeeds_k74_terms_there_and_back.Holds := by
  w_on; o_law; k_head; (case hw => w_witness2)
  k_fill
  refine WK.walk (l := PySem.Challenge.rw_manydeeds_k74_terms_there_and_back) rfl rfl (fun w h Y => PySem.W.kIn_of Y) ?F
  case F =>
    intro w mg fa h KX G hmg
    refine' WK.fin_mk KX G hmg ?b_all ?b_bool ?b_int ?b_isinstance ?b_len ?b_list ?b_min ?b_range ?b_str ?b_sum ?b_tuple ?c_DEEPEST ?c_FIGURES ?c_LETTERS ?c_LONGEST ?c_MOST_PARTS ?c_SIGNS ?D__law_pot ?D__law_take ?D__law_letters ?D__law_word ?D__law_any_term ?D__law_term_text ?D_term_text ?D_number_in ?D_is_word ?D_parts_at ?D_term_at ?D_parts_of ?D_read_term ?D__law_whole ?D__law_sound ?D_law
    (case b_all => k_is)
    (case b_bool => k_is)
    (case b_int => k_is)
    (case b_isinstance => k_is)
    (case b_len => k_is)
    (case b_list => k_is)
    (case b_min => k_is)
    (case b_range => k_is)
    (case b_str => k_is)
    (case b_sum => k_is)
    (case b_tuple => k_is)
    (case c_DEEPEST => k_is)
    (case c_FIGURES => k_is)
    (case c_LETTERS => k_is)
    (case c_LONGEST => k_is)
    (case c_MOST_PARTS => k_is)
    (case c_SIGNS => k_is)
    (case D__law_pot => (refine' DL.def_mk KX G ?a ?l ?c ?k (fun _ _ _ _ _ _ us hl => match us, hl with | [_, _], _ => rfl); (case a => k_is); (case l => k_is); (case c => k_is); (case k => k_is)))
    (case D__law_take => (refine' DL.def_mk KX G ?a ?l ?c ?k (fun _ _ _ _ _ _ us hl => match us, hl with | [_, _], _ => rfl); (case a => k_is); (case l => k_is); (case c => k_is); (case k => k_is)))
    (case D__law_letters => (refine' DL.def_mk KX G ?a ?l ?c ?k (fun _ _ _ _ _ _ us hl => match us, hl with | [_], _ => rfl); (case a => k_is); (case l => k_is); (case c => k_is); (case k => k_is)))
    (case D__law_word => (refine' DL.def_mk KX G ?a ?l ?c ?k (fun _ _ _ _ _ _ us hl => match us, hl with | [_, _], _ => rfl); (case a => k_is); (case l => k_is); (case c => k_is); (case k => k_is)))
    (case D__law_any_term => (refine' DL.def_mk KX G ?a ?l ?c ?k (fun _ _ _ _ _ _ us hl => match us, hl with | [_, _, _], _ => rfl); (case a => k_is); (case l => k_is); (case c => k_is); (case k => k_is)))
    (case D__law_term_text => (refine' DL.def_mk KX G ?a ?l ?c ?k (fun _ _ _ _ _ _ us hl => match us, hl with | [_], _ => rfl); (case a => k_is); (case l => k_is); (case c => k_is); (case k => k_is)))
    (case D_term_text => (refine' DL.def_mk KX G ?a ?l ?c ?k (fun _ _ _ _ _ _ us hl => match us, hl with | [_], _ => rfl); (case a => k_is); (case l => k_is); (case c => k_is); (case k => k_is)))
    (case D_number_in => (refine' DL.def_mk KX G ?a ?l ?c ?k (fun _ _ _ _ _ _ us hl => match us, hl with | [_], _ => rfl); (case a => k_is); (case l => k_is); (case c => k_is); (case k => k_is)))
    (case D_is_word => (refine' DL.def_mk KX G ?a ?l ?c ?k (fun _ _ _ _ _ _ us hl => match us, hl with | [_], _ => rfl); (case a => k_is); (case l => k_is); (case c => k_is); (case k => k_is)))
    (case D_parts_at => (refine' DL.def_mk KX G ?a ?l ?c ?k (fun _ _ _ _ _ _ us hl => match us, hl with | [_, _, _], _ => rfl); (case a => k_is); (case l => k_is); (case c => k_is); (case k => k_is)))
    (case D_term_at => (refine' DL.def_mk KX G ?a ?l ?c ?k (fun _ _ _ _ _ _ us hl => match us, hl with | [_, _, _], _ => rfl); (case a => k_is); (case l => k_is); (case c => k_is); (case k => k_is)))
    (case D_parts_of => (refine' DL.def_mk KX G ?a ?l ?c ?k (fun _ _ _ _ _ _ us hl => match us, hl with | [_], _ => rfl); (case a => k_is); (case l => k_is); (case c => k_is); (case k => k_is)))
    (case D_read_term => (refine' DL.def_mk KX G ?a ?l ?c ?k (fun _ _ _ _ _ _ us hl => match us, hl with | [_], _ => rfl); (case a => k_is); (case l => k_is); (case c => k_is); (case k => k_is)))
    (case D__law_whole => (refine' DL.def_mk KX G ?a ?l ?c ?k (fun _ _ _ _ _ _ us hl => match us, hl with | [_], _ => rfl); (case a => k_is); (case l => k_is); (case c => k_is); (case k => k_is)))
    (case D__law_sound => (refine' DL.def_mk KX G ?a ?l ?c ?k (fun _ _ _ _ _ _ us hl => match us, hl with | [_], _ => rfl); (case a => k_is); (case l => k_is); (case c => k_is); (case k => k_is)))
    (case D_law => (refine' DL.def_mk KX G ?a ?l ?c ?k (fun _ _ _ _ _ _ us hl => match us, hl with | [_], _ => rfl); (case a => k_is); (case l => k_is); (case c => k_is); (case k => k_is)))
#print axioms PySem.Challenge.cw_manydeeds_k74_terms_there_and_back_holds
