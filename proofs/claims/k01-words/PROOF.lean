import PyProof.Rows.All
import Wide.All
import OpenK.AllK
import Wide.FinOn
import HandS.ForMost
import HandS.ForExc
import HandS.Wide
import HandS.TupAny
import HandS.IsInst
import HandS.Style
import HandS.Conv
import HandS.Deep
import HandS.More
import HandS.WordsExc
import PySem.Challenge.RW_manydeeds_k01_words
set_option Elab.async false
set_option linter.all false
set_option maxRecDepth 100000
/-! DL1: data D, owned data OD, how a heap bears them. -/
namespace DL
open PySem L2

/-- data that stands still -/
inductive D where
  | v (x : V)
  | tup (ds : List D)
  | lst (ds : List D)
  | dic (kvs : List (Key × D))
  | dct (kvs : List (List Key × D))
  | ins (c : Nat) (fs : List (Str × D))
/-- data of one owner: fz is frozen -/
inductive OD where
  | gone
  | fz (d : D)
  | tup (xs : List OD)
  | lst (xs : List OD)
  | dic (kvs : List (Key × OD))
  | dct (kvs : List (List Key × OD))
  | ins (c : Nat) (fs : List (Str × OD))

mutual
@[simp] def OD.toD : OD → D
  | .gone => .v .non
  | .fz d => d
  | .tup xs => .tup (toDs xs)
  | .lst xs => .lst (toDs xs)
  | .dic kvs => .dic (toDk kvs)
  | .dct kvs => .dct (toDt kvs)
  | .ins c fs => .ins c (toDa fs)
@[simp] def toDs : List OD → List D
  | [] => []
  | x :: xs => x.toD :: toDs xs
@[simp] def toDk : List (Key × OD) → List (Key × D)
  | [] => []
  | (k, x) :: xs => (k, x.toD) :: toDk xs
@[simp] def toDt : List (List Key × OD) → List (List Key × D)
  | [] => []
  | (k, x) :: xs => (k, x.toD) :: toDt xs
@[simp] def toDa : List (Str × OD) → List (Str × D)
  | [] => []
  | (k, x) :: xs => (k, x.toD) :: toDa xs
end

def notRef : V → Prop
  | .ref _ => False
  | _ => True

section
variable (K : PySem.W.Frag) (cl : Nat → Addr) (F : Hp)
mutual
def Rep : D → V → Prop
  | .v x, u => u = x ∧ notRef x
  | .tup ds, u => ∃ a vs, u = .ref a ∧ SqT K F a vs ∧ Reps ds vs
  | .lst ds, u => ∃ a vs, u = .ref a ∧ SqL K F a vs ∧ Reps ds vs
  | .dic kvs, u => ∃ a vs, u = .ref a ∧ F a = some (.dK vs) ∧ RepK kvs vs
  | .dct kvs, u => ∃ a vs, u = .ref a ∧ F a = some (.dT vs) ∧ RepT kvs vs
  | .ins c fs, u => ∃ a dx vs, u = .ref a ∧ F a = some (.ins (cl c) dx vs) ∧ RepA fs vs
def Reps : List D → List V → Prop
  | [], vs => vs = []
  | d :: ds, vs => ∃ u us, vs = u :: us ∧ Rep d u ∧ Reps ds us
def RepK : List (Key × D) → List (Key × V) → Prop
  | [], vs => vs = []
  | (k, d) :: ds, vs => ∃ u us, vs = (k, u) :: us ∧ Rep d u ∧ RepK ds us
def RepT : List (List Key × D) → List (List Key × V) → Prop
  | [], vs => vs = []
  | (k, d) :: ds, vs => ∃ u us, vs = (k, u) :: us ∧ Rep d u ∧ RepT ds us
def RepA : List (Str × D) → List (Str × V) → Prop
  | [], vs => vs = []
  | (k, d) :: ds, vs => ∃ u us, vs = (k, u) :: us ∧ Rep d u ∧ RepA ds us
end
variable (H : Hp)
mutual
/-- o stands at v, its own objects are at A -/
def Own : OD → V → List Addr → Prop
  | .gone, _, _ => False
  | .fz d, v, A => A = [] ∧ Rep K cl F d v
  | .tup xs, v, A => ∃ p vs, v = .ref p ∧ SqT K F p vs ∧ Owns xs vs A
  | .lst xs, v, A => ∃ p vs B, v = .ref p ∧ A = p :: B ∧ F p = none ∧ H p = some (.lst vs) ∧ Owns xs vs B
  | .dic kvs, v, A => ∃ p vs B, v = .ref p ∧ A = p :: B ∧ F p = none ∧ H p = some (.dK vs) ∧ OwnK kvs vs B
  | .dct kvs, v, A => ∃ p vs B, v = .ref p ∧ A = p :: B ∧ F p = none ∧ H p = some (.dT vs) ∧ OwnT kvs vs B
  | .ins c fs, v, A => ∃ p dx vs B, v = .ref p ∧ A = p :: B ∧ F p = none ∧ H p = some (.ins (cl c) dx vs) ∧ OwnA fs vs B
def Owns : List OD → List V → List Addr → Prop
  | [], vs, A => vs = [] ∧ A = []
  | o :: os, vs, A => ∃ u us A1 A2, vs = u :: us ∧ A = A1 ++ A2 ∧ Own o u A1 ∧ Owns os us A2
def OwnK : List (Key × OD) → List (Key × V) → List Addr → Prop
  | [], vs, A => vs = [] ∧ A = []
  | (k, o) :: os, vs, A => ∃ u us A1 A2, vs = (k, u) :: us ∧ A = A1 ++ A2 ∧ Own o u A1 ∧ OwnK os us A2
def OwnT : List (List Key × OD) → List (List Key × V) → List Addr → Prop
  | [], vs, A => vs = [] ∧ A = []
  | (k, o) :: os, vs, A => ∃ u us A1 A2, vs = (k, u) :: us ∧ A = A1 ++ A2 ∧ Own o u A1 ∧ OwnT os us A2
def OwnA : List (Str × OD) → List (Str × V) → List Addr → Prop
  | [], vs, A => vs = [] ∧ A = []
  | (k, o) :: os, vs, A => ∃ u us A1 A2, vs = (k, u) :: us ∧ A = A1 ++ A2 ∧ Own o u A1 ∧ OwnA os us A2
end
end

/-- F says no more -/
def Le (F F' : Hp) : Prop := ∀ a o, F a = some o → F' a = some o
theorem Le.refl (F : Hp) : Le F F := fun _ _ h => h
theorem Le.trans {F F1 F2 : Hp} (a : Le F F1) (b : Le F1 F2) : Le F F2 := fun x o h => b x o (a x o h)

section
variable {K : PySem.W.Frag} {cl : Nat → Addr} {F F' H H' : Hp}
theorem Le.sqL {a : Addr} {xs : List V} (h : Le F F') (q : SqL K F a xs) : SqL K F' a xs := by
  rcases q with (q | ⟨o, q⟩) | q
  · exact .inl (.inl (h _ _ q))
  · exact .inl (.inr ⟨o, h _ _ q⟩)
  · exact .inr q
theorem Le.sqT {a : Addr} {xs : List V} (h : Le F F') (q : SqT K F a xs) : SqT K F' a xs := by
  rcases q with (q | ⟨o, q⟩) | q
  · exact .inl (.inl (h _ _ q))
  · exact .inl (.inr ⟨o, h _ _ q⟩)
  · exact .inr q
mutual
theorem rep_mono (h : Le F F') : ∀ (d : D) (v : V), Rep K cl F d v → Rep K cl F' d v
  | .v x, u, r => r
  | .tup ds, u, ⟨a, vs, e, q, r⟩ => ⟨a, vs, e, h.sqT q, reps_mono h ds vs r⟩
  | .lst ds, u, ⟨a, vs, e, q, r⟩ => ⟨a, vs, e, h.sqL q, reps_mono h ds vs r⟩
  | .dic ds, u, ⟨a, vs, e, q, r⟩ => ⟨a, vs, e, h _ _ q, repK_mono h ds vs r⟩
  | .dct ds, u, ⟨a, vs, e, q, r⟩ => ⟨a, vs, e, h _ _ q, repT_mono h ds vs r⟩
  | .ins c ds, u, ⟨a, dx, vs, e, q, r⟩ => ⟨a, dx, vs, e, h _ _ q, repA_mono h ds vs r⟩
theorem reps_mono (h : Le F F') : ∀ (ds : List D) (vs : List V), Reps K cl F ds vs → Reps K cl F' ds vs
  | [], _, r => r
  | d :: ds, _, ⟨u, us, e, r, q⟩ => ⟨u, us, e, rep_mono h d u r, reps_mono h ds us q⟩
theorem repK_mono (h : Le F F') : ∀ (ds : List (Key × D)) (vs : List (Key × V)), RepK K cl F ds vs → RepK K cl F' ds vs
  | [], _, r => r
  | (k, d) :: ds, _, ⟨u, us, e, r, q⟩ => ⟨u, us, e, rep_mono h d u r, repK_mono h ds us q⟩
theorem repT_mono (h : Le F F') : ∀ (ds : List (List Key × D)) (vs : List (List Key × V)), RepT K cl F ds vs → RepT K cl F' ds vs
  | [], _, r => r
  | (k, d) :: ds, _, ⟨u, us, e, r, q⟩ => ⟨u, us, e, rep_mono h d u r, repT_mono h ds us q⟩
theorem repA_mono (h : Le F F') : ∀ (ds : List (Str × D)) (vs : List (Str × V)), RepA K cl F ds vs → RepA K cl F' ds vs
  | [], _, r => r
  | (k, d) :: ds, _, ⟨u, us, e, r, q⟩ => ⟨u, us, e, rep_mono h d u r, repA_mono h ds us q⟩
end
-- owned data stays where its own objects stay, and stay unfrozen
mutual
theorem own_mono (h : Le F F') : ∀ (o : OD) (v : V) (A : List Addr), (∀ a ∈ A, F' a = none ∧ ∀ x, H a = some x → H' a = some x) → Own K cl F H o v A → Own K cl F' H' o v A
  | .gone, _, _, _, r => r
  | .fz d, v, A, k, ⟨e, r⟩ => ⟨e, rep_mono h d v r⟩
  | .tup xs, v, A, k, ⟨p, vs, e, q, r⟩ => ⟨p, vs, e, h.sqT q, owns_mono h xs vs A k r⟩
  | .lst xs, v, A, k, ⟨p, vs, B, e, eA, f, q, r⟩ => ⟨p, vs, B, e, eA, (k p (by rw [eA]; exact List.mem_cons_self)).1, (k p (by rw [eA]; exact List.mem_cons_self)).2 _ q, owns_mono h xs vs B (fun a ha => k a (by rw [eA]; exact List.mem_cons_of_mem _ ha)) r⟩
  | .dic xs, v, A, k, ⟨p, vs, B, e, eA, f, q, r⟩ => ⟨p, vs, B, e, eA, (k p (by rw [eA]; exact List.mem_cons_self)).1, (k p (by rw [eA]; exact List.mem_cons_self)).2 _ q, ownK_mono h xs vs B (fun a ha => k a (by rw [eA]; exact List.mem_cons_of_mem _ ha)) r⟩
  | .dct xs, v, A, k, ⟨p, vs, B, e, eA, f, q, r⟩ => ⟨p, vs, B, e, eA, (k p (by rw [eA]; exact List.mem_cons_self)).1, (k p (by rw [eA]; exact List.mem_cons_self)).2 _ q, ownT_mono h xs vs B (fun a ha => k a (by rw [eA]; exact List.mem_cons_of_mem _ ha)) r⟩
  | .ins c xs, v, A, k, ⟨p, dx, vs, B, e, eA, f, q, r⟩ => ⟨p, dx, vs, B, e, eA, (k p (by rw [eA]; exact List.mem_cons_self)).1, (k p (by rw [eA]; exact List.mem_cons_self)).2 _ q, ownA_mono h xs vs B (fun a ha => k a (by rw [eA]; exact List.mem_cons_of_mem _ ha)) r⟩
theorem owns_mono (h : Le F F') : ∀ (os : List OD) (vs : List V) (A : List Addr), (∀ a ∈ A, F' a = none ∧ ∀ x, H a = some x → H' a = some x) → Owns K cl F H os vs A → Owns K cl F' H' os vs A
  | [], _, _, _, r => r
  | o :: os, vs, A, k, ⟨u, us, A1, A2, e, eA, r, q⟩ => ⟨u, us, A1, A2, e, eA, own_mono h o u A1 (fun a ha => k a (by rw [eA]; exact List.mem_append_left _ ha)) r, owns_mono h os us A2 (fun a ha => k a (by rw [eA]; exact List.mem_append_right _ ha)) q⟩
theorem ownK_mono (h : Le F F') : ∀ (os : List (Key × OD)) (vs : List (Key × V)) (A : List Addr), (∀ a ∈ A, F' a = none ∧ ∀ x, H a = some x → H' a = some x) → OwnK K cl F H os vs A → OwnK K cl F' H' os vs A
  | [], _, _, _, r => r
  | (_, o) :: os, vs, A, k, ⟨u, us, A1, A2, e, eA, r, q⟩ => ⟨u, us, A1, A2, e, eA, own_mono h o u A1 (fun a ha => k a (by rw [eA]; exact List.mem_append_left _ ha)) r, ownK_mono h os us A2 (fun a ha => k a (by rw [eA]; exact List.mem_append_right _ ha)) q⟩
theorem ownT_mono (h : Le F F') : ∀ (os : List (List Key × OD)) (vs : List (List Key × V)) (A : List Addr), (∀ a ∈ A, F' a = none ∧ ∀ x, H a = some x → H' a = some x) → OwnT K cl F H os vs A → OwnT K cl F' H' os vs A
  | [], _, _, _, r => r
  | (_, o) :: os, vs, A, k, ⟨u, us, A1, A2, e, eA, r, q⟩ => ⟨u, us, A1, A2, e, eA, own_mono h o u A1 (fun a ha => k a (by rw [eA]; exact List.mem_append_left _ ha)) r, ownT_mono h os us A2 (fun a ha => k a (by rw [eA]; exact List.mem_append_right _ ha)) q⟩
theorem ownA_mono (h : Le F F') : ∀ (os : List (Str × OD)) (vs : List (Str × V)) (A : List Addr), (∀ a ∈ A, F' a = none ∧ ∀ x, H a = some x → H' a = some x) → OwnA K cl F H os vs A → OwnA K cl F' H' os vs A
  | [], _, _, _, r => r
  | (_, o) :: os, vs, A, k, ⟨u, us, A1, A2, e, eA, r, q⟩ => ⟨u, us, A1, A2, e, eA, own_mono h o u A1 (fun a ha => k a (by rw [eA]; exact List.mem_append_left _ ha)) r, ownA_mono h os us A2 (fun a ha => k a (by rw [eA]; exact List.mem_append_right _ ha)) q⟩
end

/-- F and the objects at A, as they stand in H -/
def plus (F H : Hp) (A : List Addr) : Hp := fun b => if b ∈ A then H b else F b
theorem plus_in {A : List Addr} {b : Addr} (h : b ∈ A) : plus F H A b = H b := if_pos h
theorem plus_out {A : List Addr} {b : Addr} (h : b ∉ A) : plus F H A b = F b := if_neg h
-- frozen as it stands
mutual
theorem own_rep {A' : List Addr} (h : Le F (plus F H A')) : ∀ (o : OD) (v : V) (A : List Addr), (∀ a ∈ A, a ∈ A') → Own K cl F H o v A → Rep K cl (plus F H A') o.toD v
  | .gone, _, _, _, r => r.elim
  | .fz d, v, A, k, ⟨e, r⟩ => rep_mono h d v r
  | .tup xs, v, A, k, ⟨p, vs, e, q, r⟩ => ⟨p, vs, e, h.sqT q, owns_rep h xs vs A k r⟩
  | .lst xs, v, A, k, ⟨p, vs, B, e, eA, f, q, r⟩ => ⟨p, vs, e, SqL.of (by rw [plus_in (k p (by rw [eA]; exact List.mem_cons_self))]; exact q), owns_rep h xs vs B (fun a ha => k a (by rw [eA]; exact List.mem_cons_of_mem _ ha)) r⟩
  | .dic xs, v, A, k, ⟨p, vs, B, e, eA, f, q, r⟩ => ⟨p, vs, e, (by rw [plus_in (k p (by rw [eA]; exact List.mem_cons_self))]; exact q), ownK_rep h xs vs B (fun a ha => k a (by rw [eA]; exact List.mem_cons_of_mem _ ha)) r⟩
  | .dct xs, v, A, k, ⟨p, vs, B, e, eA, f, q, r⟩ => ⟨p, vs, e, (by rw [plus_in (k p (by rw [eA]; exact List.mem_cons_self))]; exact q), ownT_rep h xs vs B (fun a ha => k a (by rw [eA]; exact List.mem_cons_of_mem _ ha)) r⟩
  | .ins c xs, v, A, k, ⟨p, dx, vs, B, e, eA, f, q, r⟩ => ⟨p, dx, vs, e, (by rw [plus_in (k p (by rw [eA]; exact List.mem_cons_self))]; exact q), ownA_rep h xs vs B (fun a ha => k a (by rw [eA]; exact List.mem_cons_of_mem _ ha)) r⟩
theorem owns_rep {A' : List Addr} (h : Le F (plus F H A')) : ∀ (os : List OD) (vs : List V) (A : List Addr), (∀ a ∈ A, a ∈ A') → Owns K cl F H os vs A → Reps K cl (plus F H A') (toDs os) vs
  | [], _, _, _, r => r.1
  | o :: os, vs, A, k, ⟨u, us, A1, A2, e, eA, r, q⟩ => ⟨u, us, e, own_rep h o u A1 (fun a ha => k a (by rw [eA]; exact List.mem_append_left _ ha)) r, owns_rep h os us A2 (fun a ha => k a (by rw [eA]; exact List.mem_append_right _ ha)) q⟩
theorem ownK_rep {A' : List Addr} (h : Le F (plus F H A')) : ∀ (os : List (Key × OD)) (vs : List (Key × V)) (A : List Addr), (∀ a ∈ A, a ∈ A') → OwnK K cl F H os vs A → RepK K cl (plus F H A') (toDk os) vs
  | [], _, _, _, r => r.1
  | (_, o) :: os, vs, A, k, ⟨u, us, A1, A2, e, eA, r, q⟩ => ⟨u, us, e, own_rep h o u A1 (fun a ha => k a (by rw [eA]; exact List.mem_append_left _ ha)) r, ownK_rep h os us A2 (fun a ha => k a (by rw [eA]; exact List.mem_append_right _ ha)) q⟩
theorem ownT_rep {A' : List Addr} (h : Le F (plus F H A')) : ∀ (os : List (List Key × OD)) (vs : List (List Key × V)) (A : List Addr), (∀ a ∈ A, a ∈ A') → OwnT K cl F H os vs A → RepT K cl (plus F H A') (toDt os) vs
  | [], _, _, _, r => r.1
  | (_, o) :: os, vs, A, k, ⟨u, us, A1, A2, e, eA, r, q⟩ => ⟨u, us, e, own_rep h o u A1 (fun a ha => k a (by rw [eA]; exact List.mem_append_left _ ha)) r, ownT_rep h os us A2 (fun a ha => k a (by rw [eA]; exact List.mem_append_right _ ha)) q⟩
theorem ownA_rep {A' : List Addr} (h : Le F (plus F H A')) : ∀ (os : List (Str × OD)) (vs : List (Str × V)) (A : List Addr), (∀ a ∈ A, a ∈ A') → OwnA K cl F H os vs A → RepA K cl (plus F H A') (toDa os) vs
  | [], _, _, _, r => r.1
  | (_, o) :: os, vs, A, k, ⟨u, us, A1, A2, e, eA, r, q⟩ => ⟨u, us, e, own_rep h o u A1 (fun a ha => k a (by rw [eA]; exact List.mem_append_left _ ha)) r, ownA_rep h os us A2 (fun a ha => k a (by rw [eA]; exact List.mem_append_right _ ha)) q⟩
end
/-- own objects are not frozen, and stand in H as something that is written -/
def Wr : Option HO → Prop
  | some (.lst _) => True
  | some (.dK _) => True
  | some (.dT _) => True
  | some (.ins _ _ _) => True
  | _ => False
mutual
theorem own_at : ∀ (o : OD) (v : V) (A : List Addr), Own K cl F H o v A → ∀ a ∈ A, F a = none ∧ Wr (H a)
  | .gone, _, _, r, _, _ => r.elim
  | .fz d, v, A, ⟨e, r⟩, a, ha => by rw [e] at ha; cases ha
  | .tup xs, v, A, ⟨p, vs, e, q, r⟩, a, ha => owns_at xs vs A r a ha
  | .lst xs, v, A, ⟨p, vs, B, e, eA, f, q, r⟩, a, ha => by
    rw [eA] at ha
    rcases List.mem_cons.mp ha with z | z
    · rw [z, q]; exact ⟨f, trivial⟩
    · exact owns_at xs vs B r a z
  | .dic xs, v, A, ⟨p, vs, B, e, eA, f, q, r⟩, a, ha => by
    rw [eA] at ha
    rcases List.mem_cons.mp ha with z | z
    · rw [z, q]; exact ⟨f, trivial⟩
    · exact ownK_at xs vs B r a z
  | .dct xs, v, A, ⟨p, vs, B, e, eA, f, q, r⟩, a, ha => by
    rw [eA] at ha
    rcases List.mem_cons.mp ha with z | z
    · rw [z, q]; exact ⟨f, trivial⟩
    · exact ownT_at xs vs B r a z
  | .ins c xs, v, A, ⟨p, dx, vs, B, e, eA, f, q, r⟩, a, ha => by
    rw [eA] at ha
    rcases List.mem_cons.mp ha with z | z
    · rw [z, q]; exact ⟨f, trivial⟩
    · exact ownA_at xs vs B r a z
theorem owns_at : ∀ (os : List OD) (vs : List V) (A : List Addr), Owns K cl F H os vs A → ∀ a ∈ A, F a = none ∧ Wr (H a)
  | [], _, _, r, a, ha => by rw [r.2] at ha; cases ha
  | o :: os, vs, A, ⟨u, us, A1, A2, e, eA, r, q⟩, a, ha => by
    rw [eA] at ha
    rcases List.mem_append.mp ha with z | z
    · exact own_at o u A1 r a z
    · exact owns_at os us A2 q a z
theorem ownK_at : ∀ (os : List (Key × OD)) (vs : List (Key × V)) (A : List Addr), OwnK K cl F H os vs A → ∀ a ∈ A, F a = none ∧ Wr (H a)
  | [], _, _, r, a, ha => by rw [r.2] at ha; cases ha
  | (_, o) :: os, vs, A, ⟨u, us, A1, A2, e, eA, r, q⟩, a, ha => by
    rw [eA] at ha
    rcases List.mem_append.mp ha with z | z
    · exact own_at o u A1 r a z
    · exact ownK_at os us A2 q a z
theorem ownT_at : ∀ (os : List (List Key × OD)) (vs : List (List Key × V)) (A : List Addr), OwnT K cl F H os vs A → ∀ a ∈ A, F a = none ∧ Wr (H a)
  | [], _, _, r, a, ha => by rw [r.2] at ha; cases ha
  | (_, o) :: os, vs, A, ⟨u, us, A1, A2, e, eA, r, q⟩, a, ha => by
    rw [eA] at ha
    rcases List.mem_append.mp ha with z | z
    · exact own_at o u A1 r a z
    · exact ownT_at os us A2 q a z
theorem ownA_at : ∀ (os : List (Str × OD)) (vs : List (Str × V)) (A : List Addr), OwnA K cl F H os vs A → ∀ a ∈ A, F a = none ∧ Wr (H a)
  | [], _, _, r, a, ha => by rw [r.2] at ha; cases ha
  | (_, o) :: os, vs, A, ⟨u, us, A1, A2, e, eA, r, q⟩, a, ha => by
    rw [eA] at ha
    rcases List.mem_append.mp ha with z | z
    · exact own_at o u A1 r a z
    · exact ownA_at os us A2 q a z
end
end
end DL
/-! DL2: the state of slots, what a step keeps, the judgements. -/
namespace DL
open PySem L2

abbrev Rho := List OD
/-- an own exception: its class by number, its fields; or a built-in one by name -/
structure Exn where
  c : Nat
  fs : List (Str × D)
inductive Res (α : Type) where
  | ok (a : α) (ρ : Rho)
  | err (x : Exn) (ρ : Rho)
  | bad
@[simp] def Res.bind {α β : Type} (r : Res α) (f : α → Rho → Res β) : Res β := match r with
  | .ok a ρ => f a ρ
  | .err x ρ => .err x ρ
  | .bad => .bad
/-- what an expression gives: frozen data, the owner in slot i, new data of its own -/
inductive OV where
  | o (o : OD)
  | b (i : Nat)
inductive Opd where
  | d (d : D)
  | b (i : Nat)
abbrev gt (ρ : Rho) (i : Nat) : OD := ρ.getD i .gone

def isDi : HO → Bool
  | .dK _ => true
  | .dT _ => true
  | _ => false
abbrev Sb (F H : Hp) : Prop := ∀ a o, F a = some o → Rd H a o ∧ (isDi o = false → H a = some o)
def ownd (A : Nat → List Addr) (b : Addr) : Prop := ∃ i, b ∈ A i

section
variable (K : PySem.W.Frag) (cl : Nat → Addr)
def SlotOk (F H : Hp) (x : Option (Option V)) (o : OD) (A : List Addr) : Prop := match o with
  | .gone => A = []
  | o => ∃ v, x = some (some v) ∧ Own K cl F H o v A
structure Sto (F H : Hp) (σ : St) (ρ : Rho) (A : Nat → List Addr) : Prop where
  sub : Sb F H
  len : ρ.length = σ.length
  sl : ∀ i, SlotOk K cl F H (σ[i]?) (gt ρ i) (A i)
  dis : ∀ i j, i ≠ j → ∀ b, b ∈ A i → b ∉ A j
  nd : ∀ i, (A i).Nodup
structure Gr (P P' : Addr → Prop) (F H F' H' : Hp) : Prop where
  keep : ∀ b o, H b = some o → ¬ P b → H' b = some o
  ff : Le F F'
  new : ∀ b, Wr (H b) → ¬ P b → F' b = F b
  ow : ∀ b, P' b → P b ∨ H b = none
def VOk (F H : Hp) (σ : St) (ov : OV) (v : V) (B : List Addr) : Prop := match ov with
  | .b i => B = [] ∧ σ[i]? = some (some v)
  | .o o => Own K cl F H o v B
def POk (F : Hp) (σ : St) (q : Opd) (v : V) : Prop := match q with
  | .d d => Rep K cl F d v
  | .b i => σ[i]? = some (some v)
/-- an exception lies there: class, own dict -/
def ExOk (F H : Hp) (x : Exn) (c : Value) (a : Option Addr) : Prop :=
  c = .ref (cl x.c) ∧ match x.fs with
    | [] => True
    | fs => ∃ d vs, a = some d ∧ H d = some (.xd vs) ∧ RepA K cl F fs vs

/-- what is wanted where an exception lies -/
def ErrQ (W : WX) (P : Addr → Prop) (F H : Hp) (σ : St) (x : Exn) (ρ' : Rho) : Prop :=
  ∀ F' H' A' c a, Sto K cl F' H' σ ρ' A' → Gr P (ownd A') F H F' H' → ExOk K cl F' H' x c a → W c a σ H'

def LE (W : WX) (t : Rho → Res OV) : TE := fun σ H Q => ∃ F ρ A, Sto K cl F H σ ρ A ∧ match t ρ with
  | .ok ov ρ' => ∀ v F' H' A' B, Sto K cl F' H' σ ρ' A' → Gr (ownd A) (fun b => ownd A' b ∨ b ∈ B) F H F' H' → VOk K cl F' H' σ ov v B → B.Nodup → (∀ b ∈ B, ¬ ownd A' b) → Q v H'
  | .err x ρ' => ErrQ K cl W (ownd A) F H σ x ρ'
  | .bad => False
def LP (W : WX) (t : Rho → Res Opd) : TE := fun σ H Q => ∃ F ρ A, Sto K cl F H σ ρ A ∧ match t ρ with
  | .ok q ρ' => ∀ v F' H' A', Sto K cl F' H' σ ρ' A' → Gr (ownd A) (ownd A') F H F' H' → POk K cl F' σ q v → Q v H'
  | .err x ρ' => ErrQ K cl W (ownd A) F H σ x ρ'
  | .bad => False
def LT (W : WX) (t : Rho → Res Bool) : TT := fun σ H Q => ∃ F ρ A, Sto K cl F H σ ρ A ∧ match t ρ with
  | .ok b ρ' => ∀ F' H' A', Sto K cl F' H' σ ρ' A' → Gr (ownd A) (ownd A') F H F' H' → Q b H'
  | .err x ρ' => ErrQ K cl W (ownd A) F H σ x ρ'
  | .bad => False
def POks (F : Hp) (σ : St) : List Opd → List V → Prop
  | [], vs => vs = []
  | q :: qs, vs => ∃ u us, vs = u :: us ∧ POk K cl F σ q u ∧ POks F σ qs us
def LA (W : WX) (t : Rho → Res (List Opd)) : TA := fun σ H Q => ∃ F ρ A, Sto K cl F H σ ρ A ∧ match t ρ with
  | .ok qs ρ' => ∀ vs F' H' A', Sto K cl F' H' σ ρ' A' → Gr (ownd A) (ownd A') F H F' H' → POks K cl F' σ qs vs → Q vs H'
  | .err x ρ' => ErrQ K cl W (ownd A) F H σ x ρ'
  | .bad => False
inductive Fl where
  | next | brk | cont
  | ret (ov : OV)
/-- statements; pn: slots that are never stored (parameters that stay the callers') -/
def LS (pn : List Nat) (W : WX) (t : Rho → Res Fl) : TS := fun D σ H => ∃ F ρ A, Sto K cl F H σ ρ A ∧ match t ρ with
  | .ok .next ρ' => ∀ σ' F' H' A', Sto K cl F' H' σ' ρ' A' → Gr (ownd A) (ownd A') F H F' H' → (∀ i ∈ pn, σ'[i]? = σ[i]?) → D.nx σ' H'
  | .ok .brk ρ' => ∀ σ' F' H' A', Sto K cl F' H' σ' ρ' A' → Gr (ownd A) (ownd A') F H F' H' → (∀ i ∈ pn, σ'[i]? = σ[i]?) → D.bk σ' H'
  | .ok .cont ρ' => ∀ σ' F' H' A', Sto K cl F' H' σ' ρ' A' → Gr (ownd A) (ownd A') F H F' H' → (∀ i ∈ pn, σ'[i]? = σ[i]?) → D.ct σ' H'
  | .ok (.ret ov) ρ' => ∀ v σ' F' H' A' B, Sto K cl F' H' σ' ρ' A' → Gr (ownd A) (fun b => ownd A' b ∨ b ∈ B) F H F' H' → (∀ i ∈ pn, σ'[i]? = σ[i]?) → VOk K cl F' H' σ' ov v B → B.Nodup → (∀ b ∈ B, ¬ ownd A' b) → D.rt v H'
  | .err x ρ' => ∀ σ' F' H' A' c a, Sto K cl F' H' σ' ρ' A' → Gr (ownd A) (ownd A') F H F' H' → (∀ i ∈ pn, σ'[i]? = σ[i]?) → ExOk K cl F' H' x c a → W c a σ' H'
  | .bad => False
end

section
variable {K : PySem.W.Frag} {cl : Nat → Addr} {F F' F1 F2 H H' H1 H2 : Hp} {σ σ' : St} {ρ ρ' : Rho} {A A' : Nat → List Addr}
theorem wr_some {x : Option HO} (h : Wr x) : ∃ o, x = some o := by
  cases x with
  | none => exact h.elim
  | some o => exact ⟨o, rfl⟩
theorem Gr.refl {P : Addr → Prop} : Gr P P F H F H := ⟨fun _ _ h _ => h, Le.refl _, fun _ _ _ => rfl, fun _ h => .inl h⟩
theorem Gr.trans {P P1 P2 : Addr → Prop} (a : Gr P P1 F H F1 H1) (b : Gr P1 P2 F1 H1 F2 H2) : Gr P P2 F H F2 H2 := by
  have z : ∀ b o, H b = some o → ¬ P b → ¬ P1 b := fun b o h n q => (a.ow b q).elim n fun e => by rw [h] at e; cases e
  refine ⟨fun c o h n => b.keep c o (a.keep c o h n) (z c o h n), a.ff.trans b.ff, fun c h n => ?_, fun c h => ?_⟩
  · obtain ⟨o, e⟩ := wr_some h
    have e1 := a.keep c o e n
    exact (b.new c (by rw [e1, ← e]; exact h) (z c o e n)).trans (a.new c h n)
  · rcases b.ow c h with q | q
    · exact a.ow c q
    · by_cases p : P c
      · exact .inl p
      · cases e : H c with
        | none => exact .inr rfl
        | some o => rw [a.keep c o e p] at q; cases q
theorem Gr.weak {P P1 P2 : Addr → Prop} (a : Gr P P1 F H F1 H1) (h : ∀ b, P2 b → P1 b ∨ H b = none) : Gr P P2 F H F1 H1 :=
  ⟨a.keep, a.ff, a.new, fun b q => (h b q).elim (a.ow b) .inr⟩
theorem Gr.sub {P P1 P2 : Addr → Prop} (a : Gr P P1 F H F1 H1) (h : ∀ b, P2 b → P1 b) : Gr P P2 F H F1 H1 := a.weak fun b q => .inl (h b q)
theorem Gr.pre {P P0 P1 : Addr → Prop} (a : Gr P P1 F H F1 H1) (h : ∀ b, P b → P0 b) : Gr P0 P1 F H F1 H1 :=
  ⟨fun b o e n => a.keep b o e fun q => n (h b q), a.ff, fun b e n => a.new b e fun q => n (h b q), fun b q => (a.ow b q).elim (fun z => .inl (h b z)) .inr⟩

theorem SlotOk.own {x : Option (Option V)} {o : OD} {B : List Addr} (h : SlotOk K cl F H x o B) (n : o ≠ .gone) : ∃ v, x = some (some v) ∧ Own K cl F H o v B := by
  cases o with
  | gone => exact absurd rfl n
  | fz d => exact h
  | tup d => exact h
  | lst d => exact h
  | dic d => exact h
  | dct d => exact h
  | ins c d => exact h
theorem SlotOk.mk {x : Option (Option V)} {o : OD} {B : List Addr} {v : V} (e : x = some (some v)) (h : Own K cl F H o v B) : SlotOk K cl F H x o B := by
  cases o with
  | gone => exact h.elim
  | fz d => exact ⟨v, e, h⟩
  | tup d => exact ⟨v, e, h⟩
  | lst d => exact ⟨v, e, h⟩
  | dic d => exact ⟨v, e, h⟩
  | dct d => exact ⟨v, e, h⟩
  | ins c d => exact ⟨v, e, h⟩
theorem SlotOk.at_ {x : Option (Option V)} {o : OD} {B : List Addr} (h : SlotOk K cl F H x o B) : ∀ a ∈ B, F a = none ∧ Wr (H a) := by
  by_cases n : o = .gone
  · subst n
    intro a ha
    rw [show B = [] from h] at ha
    cases ha
  · obtain ⟨v, _, r⟩ := h.own n
    exact own_at o v B r
theorem SlotOk.mono {x : Option (Option V)} {o : OD} {B : List Addr} (h : SlotOk K cl F H x o B) (le : Le F F') (k : ∀ a ∈ B, F' a = none ∧ ∀ y, H a = some y → H' a = some y) : SlotOk K cl F' H' x o B := by
  by_cases n : o = .gone
  · subst n
    exact h
  · obtain ⟨v, e, r⟩ := h.own n
    exact .mk e (own_mono le o v B k r)
/-- the slots stay where their own objects do -/
theorem Sto.mono (s : Sto K cl F H σ ρ A) (le : Le F F') (sub : Sb F' H') (k : ∀ b, ownd A b → F' b = none ∧ ∀ y, H b = some y → H' b = some y) : Sto K cl F' H' σ ρ A :=
  ⟨sub, s.len, fun i => (s.sl i).mono le fun a ha => k a ⟨i, ha⟩, s.dis, s.nd⟩
theorem Sto.at_ (s : Sto K cl F H σ ρ A) {b : Addr} (h : ownd A b) : F b = none ∧ Wr (H b) := let ⟨i, hi⟩ := h; (s.sl i).at_ b hi
/-- a slot is given other data; B: its own objects, apart from all others' -/
theorem Sto.put {i : Nat} {v : V} {o : OD} {B : List Addr} (s : Sto K cl F H σ ρ A) (hi : i < ρ.length) (r : Own K cl F H o v B) (nd : B.Nodup) (dj : ∀ b ∈ B, ∀ j, j ≠ i → b ∉ A j) :
    Sto K cl F H (σ.set i (some v)) (ρ.set i o) (fun j => if j = i then B else A j) := by
  refine ⟨s.sub, by rw [List.length_set, List.length_set]; exact s.len, fun j => ?_, fun j k n b hj hk => ?_, fun j => ?_⟩
  · by_cases e : j = i
    · subst e
      rw [if_pos rfl]
      have e2 : gt (ρ.set j o) j = o := by
        show (ρ.set j o).getD j .gone = o
        rw [List.getD_eq_getElem?_getD, List.getElem?_set_self hi]
        rfl
      rw [e2]
      exact .mk (by rw [List.getElem?_set_self (by rw [← s.len]; exact hi)]) r
    · rw [if_neg e]
      have e2 : gt (ρ.set i o) j = gt ρ j := by
        show (ρ.set i o).getD j .gone = ρ.getD j .gone
        rw [List.getD_eq_getElem?_getD, List.getD_eq_getElem?_getD, List.getElem?_set_ne (Ne.symm e)]
      rw [e2, List.getElem?_set_ne (Ne.symm e)]
      exact s.sl j
  · try dsimp only at hj hk
    by_cases e : j = i
    · rw [if_pos e] at hj
      rw [if_neg (fun z => n (e.trans z.symm))] at hk
      exact dj b hj k (fun z => n (e.trans z.symm)) hk
    · rw [if_neg e] at hj
      by_cases e' : k = i
      · rw [if_pos e'] at hk
        exact dj b hk j e hj
      · rw [if_neg e'] at hk
        exact s.dis j k n b hj hk
  · try dsimp only
    split
    · exact nd
    · exact s.nd j
theorem gt_set {i : Nat} {o : OD} (hi : i < ρ.length) : gt (ρ.set i o) i = o := by
  show (ρ.set i o).getD i .gone = o
  rw [List.getD_eq_getElem?_getD, List.getElem?_set_self hi]
  rfl
theorem gt_ne {i j : Nat} {o : OD} (e : j ≠ i) : gt (ρ.set i o) j = gt ρ j := by
  show (ρ.set i o).getD j .gone = ρ.getD j .gone
  rw [List.getD_eq_getElem?_getD, List.getD_eq_getElem?_getD, List.getElem?_set_ne (Ne.symm e)]
/-- a slot is forgotten -/
theorem Sto.drop {i : Nat} {x : Option V} (s : Sto K cl F H σ ρ A) : Sto K cl F H (σ.set i x) (ρ.set i .gone) (fun j => if j = i then [] else A j) := by
  refine ⟨s.sub, by rw [List.length_set, List.length_set]; exact s.len, fun j => ?_, fun j k n b hj hk => ?_, fun j => ?_⟩
  · by_cases e : j = i
    · subst e
      rw [if_pos rfl]
      by_cases hi : j < ρ.length
      · rw [gt_set hi]; rfl
      · have : gt (ρ.set j .gone) j = .gone := by
          show (ρ.set j .gone).getD j .gone = .gone
          rw [List.getD_eq_getElem?_getD, List.getElem?_eq_none (by rw [List.length_set]; omega)]
          rfl
        rw [this]; rfl
    · rw [if_neg e, gt_ne e, List.getElem?_set_ne (Ne.symm e)]
      exact s.sl j
  · try dsimp only at hj hk
    by_cases e : j = i
    · rw [if_pos e] at hj; cases hj
    · rw [if_neg e] at hj
      by_cases e' : k = i
      · rw [if_pos e'] at hk; cases hk
      · rw [if_neg e'] at hk
        exact s.dis j k n b hj hk
  · try dsimp only
    split
    · exact List.nodup_nil
    · exact s.nd j
theorem gt_lt {i : Nat} (h : gt ρ i ≠ .gone) : i < ρ.length := by
  by_cases l : i < ρ.length
  · exact l
  · refine absurd ?_ h
    show ρ.getD i .gone = .gone
    rw [List.getD_eq_getElem?_getD, List.getElem?_eq_none (by omega)]
    rfl

/-- owned data apart from the slots is frozen -/
theorem freeze {o : OD} {v : V} {B : List Addr} (s : Sto K cl F H σ ρ A) (r : Own K cl F H o v B) (dj : ∀ b ∈ B, ¬ ownd A b) :
    Sto K cl (plus F H B) H σ ρ A ∧ Rep K cl (plus F H B) o.toD v ∧ Le F (plus F H B) ∧ ∀ b, b ∉ B → plus F H B b = F b := by
  have le : Le F (plus F H B) := fun a x h => by
    rw [plus_out fun q => by rw [(own_at o v B r a q).1] at h; cases h]
    exact h
  refine ⟨s.mono le (fun a x h => ?_) fun b hb => ⟨?_, fun _ h => h⟩, own_rep le o v B (fun _ h => h) r, le, fun b h => plus_out h⟩
  · by_cases q : a ∈ B
    · rw [plus_in q] at h
      exact ⟨.inl h, fun _ => h⟩
    · rw [plus_out q] at h; exact s.sub a x h
  · rw [plus_out fun q => dj b q hb]
    exact (s.at_ hb).1
theorem Gr.frozen {P : Addr → Prop} {B : List Addr} (g : Gr P (fun b => ownd A b ∨ b ∈ B) F H F1 H1) (le : Le F1 (plus F1 H1 B)) : Gr P (ownd A) F H (plus F1 H1 B) H1 := by
  refine ⟨g.keep, g.ff.trans le, fun b h n => ?_, fun b h => g.ow b (.inl h)⟩
  have nb : b ∉ B := fun q => (g.ow b (.inr q)).elim n fun e => by rw [e] at h; exact h
  rw [plus_out nb]
  exact g.new b h n
end
end DL
/-! DL3: operands, what comes of a primitive step. -/
namespace DL
open PySem L2

mutual
@[simp] def D.imm : D → Bool
  | .v _ => true
  | .tup ds => imms ds
  | _ => false
@[simp] def imms : List D → Bool
  | [] => true
  | d :: ds => d.imm && imms ds
end
mutual
@[simp] def OD.imm : OD → Bool
  | .gone => true
  | .fz d => d.imm
  | .tup xs => oimms xs
  | .lst xs => oimms xs
  | .dic kvs => oimmK kvs
  | .dct kvs => oimmT kvs
  | .ins _ fs => oimmA fs
@[simp] def oimms : List OD → Bool
  | [] => true
  | d :: ds => d.imm && oimms ds
@[simp] def oimmK : List (Key × OD) → Bool
  | [] => true
  | (_, d) :: ds => d.imm && oimmK ds
@[simp] def oimmT : List (List Key × OD) → Bool
  | [] => true
  | (_, d) :: ds => d.imm && oimmT ds
@[simp] def oimmA : List (Str × OD) → Bool
  | [] => true
  | (_, d) :: ds => d.imm && oimmA ds
end

section
variable {K : PySem.W.Frag} {cl : Nat → Addr} {F F' F1 F2 H H' H1 H2 : Hp} {σ σ' : St} {ρ ρ' : Rho} {A A' : Nat → List Addr}

/-- F without L -/
def less (F : Hp) (L : List Addr) : Hp := fun b => if b ∈ L then none else F b
theorem less_out {L : List Addr} {b : Addr} (h : b ∉ L) : less F L b = F b := if_neg h
theorem less_in {L : List Addr} {b : Addr} (h : b ∈ L) : less F L b = none := if_pos h
theorem sqT_less {L : List Addr} (hL : ∀ a ∈ L, Wr (F a)) {a : Addr} {xs : List V} (q : SqT K F a xs) : SqT K (less F L) a xs := by
  rcases q with (q | ⟨o, q⟩) | q
  · refine .inl (.inl ?_)
    rw [less_out fun z => by have := hL a z; rw [q] at this; exact this]
    exact q
  · refine .inl (.inr ⟨o, ?_⟩)
    rw [less_out fun z => by have := hL a z; rw [q] at this; exact this]
    exact q
  · exact .inr q
mutual
theorem imm_less {L : List Addr} (hL : ∀ a ∈ L, Wr (F a)) : ∀ (d : D) (v : V), d.imm = true → Rep K cl F d v → Rep K cl (less F L) d v
  | .v x, _, _, r => r
  | .tup ds, _, h, ⟨a, vs, e, q, r⟩ => ⟨a, vs, e, sqT_less hL q, imms_less hL ds vs h r⟩
theorem imms_less {L : List Addr} (hL : ∀ a ∈ L, Wr (F a)) : ∀ (ds : List D) (vs : List V), imms ds = true → Reps K cl F ds vs → Reps K cl (less F L) ds vs
  | [], _, _, r => r
  | d :: ds, _, h, ⟨u, us, e, r, q⟩ => ⟨u, us, e, imm_less hL d u (Bool.and_eq_true_iff.mp h).1 r, imms_less hL ds us (Bool.and_eq_true_iff.mp h).2 q⟩
end
theorem less_none {L : List Addr} {b : Addr} (h : F b = none) : less F L b = none := by
  unfold less
  split
  · rfl
  · exact h
mutual
theorem oimm_less {L : List Addr} (hL : ∀ a ∈ L, Wr (F a)) : ∀ (o : OD) (v : V) (B : List Addr), o.imm = true → Own K cl F H o v B → Own K cl (less F L) H o v B
  | .gone, _, _, _, r => r
  | .fz d, v, _, h, ⟨e, r⟩ => ⟨e, imm_less hL d v h r⟩
  | .tup xs, v, A, h, ⟨p, vs, e, q, r⟩ => ⟨p, vs, e, sqT_less hL q, oimms_less hL xs vs A h r⟩
  | .lst xs, v, _, h, ⟨p, vs, B, e, eA, f, q, r⟩ => ⟨p, vs, B, e, eA, less_none f, q, oimms_less hL xs vs B h r⟩
  | .dic xs, v, _, h, ⟨p, vs, B, e, eA, f, q, r⟩ => ⟨p, vs, B, e, eA, less_none f, q, oimmK_less hL xs vs B h r⟩
  | .dct xs, v, _, h, ⟨p, vs, B, e, eA, f, q, r⟩ => ⟨p, vs, B, e, eA, less_none f, q, oimmT_less hL xs vs B h r⟩
  | .ins c xs, v, _, h, ⟨p, dx, vs, B, e, eA, f, q, r⟩ => ⟨p, dx, vs, B, e, eA, less_none f, q, oimmA_less hL xs vs B h r⟩
theorem oimms_less {L : List Addr} (hL : ∀ a ∈ L, Wr (F a)) : ∀ (os : List OD) (vs : List V) (B : List Addr), oimms os = true → Owns K cl F H os vs B → Owns K cl (less F L) H os vs B
  | [], _, _, _, r => r
  | o :: os, _, _, h, ⟨u, us, A1, A2, e, eA, r, q⟩ => ⟨u, us, A1, A2, e, eA, oimm_less hL o u A1 (Bool.and_eq_true_iff.mp h).1 r, oimms_less hL os us A2 (Bool.and_eq_true_iff.mp h).2 q⟩
theorem oimmK_less {L : List Addr} (hL : ∀ a ∈ L, Wr (F a)) : ∀ (os : List (Key × OD)) (vs : List (Key × V)) (B : List Addr), oimmK os = true → OwnK K cl F H os vs B → OwnK K cl (less F L) H os vs B
  | [], _, _, _, r => r
  | (_, o) :: os, _, _, h, ⟨u, us, A1, A2, e, eA, r, q⟩ => ⟨u, us, A1, A2, e, eA, oimm_less hL o u A1 (Bool.and_eq_true_iff.mp h).1 r, oimmK_less hL os us A2 (Bool.and_eq_true_iff.mp h).2 q⟩
theorem oimmT_less {L : List Addr} (hL : ∀ a ∈ L, Wr (F a)) : ∀ (os : List (List Key × OD)) (vs : List (List Key × V)) (B : List Addr), oimmT os = true → OwnT K cl F H os vs B → OwnT K cl (less F L) H os vs B
  | [], _, _, _, r => r
  | (_, o) :: os, _, _, h, ⟨u, us, A1, A2, e, eA, r, q⟩ => ⟨u, us, A1, A2, e, eA, oimm_less hL o u A1 (Bool.and_eq_true_iff.mp h).1 r, oimmT_less hL os us A2 (Bool.and_eq_true_iff.mp h).2 q⟩
theorem oimmA_less {L : List Addr} (hL : ∀ a ∈ L, Wr (F a)) : ∀ (os : List (Str × OD)) (vs : List (Str × V)) (B : List Addr), oimmA os = true → OwnA K cl F H os vs B → OwnA K cl (less F L) H os vs B
  | [], _, _, _, r => r
  | (_, o) :: os, _, _, h, ⟨u, us, A1, A2, e, eA, r, q⟩ => ⟨u, us, A1, A2, e, eA, oimm_less hL o u A1 (Bool.and_eq_true_iff.mp h).1 r, oimmA_less hL os us A2 (Bool.and_eq_true_iff.mp h).2 q⟩
end

/-- what is wanted of new data -/
def VQ (K : PySem.W.Frag) (cl : Nat → Addr) (F H : Hp) (o : OD) (Q : VK) : Prop :=
  ∀ v F' H' B, Own K cl F' H' o v B → B.Nodup → Sb F' H' → Gr (fun _ => False) (· ∈ B) F H F' H' → Q v H'
/-- a primitive step by its data -/
def PrimOk (K : PySem.W.Frag) (cl : Nat → Addr) (f : List D → Option OD) (R : List V → Hp → VK → Prop) : Prop :=
  ∀ F H ds vs o Q, Sb F H → Reps K cl F ds vs → f ds = some o → VQ K cl F H o Q → R vs H Q

@[simp] def Opd.isD : Opd → Bool
  | .d _ => true
  | .b _ => false
@[simp] def rs (ρ : Rho) : Opd → Option D
  | .d d => some d
  | .b i => match gt ρ i with
    | .gone => none
    | o => some o.toD
@[simp] def rss (ρ : Rho) : List Opd → Option (List D)
  | [] => some []
  | q :: qs => match rs ρ q with
    | none => none
    | some d => match rss ρ qs with
      | none => none
      | some ds => some (d :: ds)
/-- the step's end -/
@[simp] def fin (f : List D → Option OD) (qs : List Opd) (ρ : Rho) : Res OV := match rss ρ qs with
  | none => .bad
  | some ds => match f ds with
    | none => .bad
    | some o => if (qs.all Opd.isD || o.imm) = true then .ok (.o o) ρ else .bad
/-- the objects that are borrowed -/
def brw (A : Nat → List Addr) : List Opd → List Addr
  | [] => []
  | .d _ :: qs => brw A qs
  | .b i :: qs => A i ++ brw A qs
theorem brw_own {b : Addr} : ∀ {qs : List Opd}, b ∈ brw A qs → ownd A b
  | .d _ :: qs, h => brw_own (qs := qs) h
  | .b i :: qs, h => by
    rcases List.mem_append.mp h with z | z
    · exact ⟨i, z⟩
    · exact brw_own (qs := qs) z
theorem brw_nil : ∀ {qs : List Opd}, qs.all Opd.isD = true → brw A qs = []
  | [], _ => rfl
  | .d _ :: qs, h => brw_nil (qs := qs) (by simpa [Opd.isD] using h)
  | .b i :: qs, h => by simp [Opd.isD] at h
theorem plus_le {L : List Addr} (hL : ∀ a ∈ L, F a = none) : Le F (plus F H L) := fun a x h => by
  rw [plus_out fun q => by rw [hL a q] at h; cases h]
  exact h
theorem rs_rep {L : List Addr} (s : Sto K cl F H σ ρ A) (hL : ∀ a ∈ L, F a = none) {q : Opd} {v : V} {d : D} (h : POk K cl F σ q v) (hb : ∀ i, q = .b i → ∀ a ∈ A i, a ∈ L) (e : rs ρ q = some d) : Rep K cl (plus F H L) d v := by
  cases q with
  | d d' =>
    cases (show some d' = some d from e)
    exact rep_mono (plus_le hL) _ _ h
  | b i =>
    have n : gt ρ i ≠ .gone := fun z => by
      unfold rs at e
      dsimp only at e
      rw [z] at e
      cases e
    have e2 : d = (gt ρ i).toD := by
      unfold rs at e
      dsimp only at e
      cases z : gt ρ i with
      | gone => exact absurd z n
      | fz _ => rw [z] at e; exact (Option.some.inj e).symm
      | tup _ => rw [z] at e; exact (Option.some.inj e).symm
      | lst _ => rw [z] at e; exact (Option.some.inj e).symm
      | dic _ => rw [z] at e; exact (Option.some.inj e).symm
      | dct _ => rw [z] at e; exact (Option.some.inj e).symm
      | ins _ _ => rw [z] at e; exact (Option.some.inj e).symm
    obtain ⟨v', ev, r⟩ := (s.sl i).own n
    rw [show σ[i]? = some (some v) from h] at ev
    cases ev
    rw [e2]
    exact own_rep (plus_le hL) _ _ _ (hb i rfl) r
theorem rss_rep {L : List Addr} (s : Sto K cl F H σ ρ A) (hL : ∀ a ∈ L, F a = none) : ∀ {qs : List Opd} {vs : List V} {ds : List D}, POks K cl F σ qs vs → (∀ a ∈ brw A qs, a ∈ L) → rss ρ qs = some ds → Reps K cl (plus F H L) ds vs
  | [], vs, ds, h, _, e => by
    cases (show some [] = some ds from e)
    exact h
  | q :: qs, vs, ds, ⟨u, us, ev, p, h⟩, hb, e => by
    unfold rss at e
    cases e1 : rs ρ q with
    | none => rw [e1] at e; cases e
    | some d =>
      rw [e1] at e
      dsimp only at e
      cases e2 : rss ρ qs with
      | none => rw [e2] at e; cases e
      | some ds' =>
        rw [e2] at e
        cases e
        refine ⟨u, us, ev, rs_rep s hL p (fun i z a ha => hb a ?_) e1, rss_rep s hL h (fun a ha => hb a ?_) e2⟩
        · rw [z]; exact List.mem_append_left _ ha
        · cases q with
          | d _ => exact ha
          | b i => exact List.mem_append_right _ ha

/-- THE STEP of a primitive: its operands stand, some of them borrowed -/
theorem fin_ok {f : List D → Option OD} {R : List V → Hp → VK → Prop} {qs : List Opd} {vs : List V} {Q : VK} {ov : OV} {ρ2 : Rho} (pr : PrimOk K cl f R) (s : Sto K cl F H σ ρ A) (h : POks K cl F σ qs vs) (e : fin f qs ρ = .ok ov ρ2)
    (k : ∀ v F' H' A' B, Sto K cl F' H' σ ρ2 A' → Gr (ownd A) (fun b => ownd A' b ∨ b ∈ B) F H F' H' → VOk K cl F' H' σ ov v B → B.Nodup → (∀ b ∈ B, ¬ ownd A' b) → Q v H') : R vs H Q := by
  unfold fin at e
  cases e1 : rss ρ qs with
  | none => rw [e1] at e; cases e
  | some ds =>
    rw [e1] at e
    dsimp only at e
    cases e2 : f ds with
    | none => rw [e2] at e; cases e
    | some o =>
      rw [e2] at e
      dsimp only at e
      split at e
      · rename_i hc
        cases e
        have hL0 : ∀ a ∈ brw A qs, F a = none ∧ Wr (H a) := fun a ha => s.at_ (brw_own ha)
        have le := plus_le (H := H) fun a ha => (hL0 a ha).1
        refine pr (plus F H (brw A qs)) H ds vs o Q (fun a x q => ?_) (rss_rep s (fun a ha => (hL0 a ha).1) h (fun a ha => ha) e1) e2 fun v F' H' B r nd sb g => ?_
        · by_cases z : a ∈ brw A qs
          · rw [plus_in z] at q
            exact ⟨.inl q, fun _ => q⟩
          · rw [plus_out z] at q; exact s.sub a x q
        · have hF' : ∀ b, Wr (H b) → F' b = plus F H (brw A qs) b := fun b q => g.new b q fun z => z
          have hWr : ∀ a ∈ brw A qs, Wr (F' a) := fun a ha => by
            rw [hF' a (hL0 a ha).2, plus_in ha]
            exact (hL0 a ha).2
          have r2 : Own K cl (less F' (brw A qs)) H' o v B := by
            rcases Bool.or_eq_true_iff.mp hc with z | z
            · rw [brw_nil (A := A) z]
              have : less F' [] = F' := by funext b; exact less_out (by simp)
              rw [this]
              exact r
            · exact oimm_less hWr o v B z r
          have fr : ∀ b ∈ B, H b = none := fun b hb => (g.ow b hb).elim (fun z => z.elim) id
          have le2 : Le F (less F' (brw A qs)) := fun a x q => by
            rw [less_out fun z => by rw [(hL0 a z).1] at q; cases q]
            exact g.ff a x (le a x q)
          have ow : ∀ b, ownd A b → less F' (brw A qs) b = none := fun b hb => by
            by_cases z : b ∈ brw A qs
            · exact less_in z
            · rw [less_out z]
              rw [hF' b (s.at_ hb).2, plus_out z]
              exact (s.at_ hb).1
          refine k v (less F' (brw A qs)) H' A B (s.mono le2 (fun a x q => ?_) fun b hb => ⟨ow b hb, fun y hy => g.keep b y hy fun z => z⟩) ⟨fun b x q _ => g.keep b x q fun z => z, le2, fun b q n => ?_, fun b hb => ?_⟩ r2 nd fun b hb z => ?_
          · by_cases z : a ∈ brw A qs
            · rw [less_in z] at q; cases q
            · rw [less_out z] at q; exact sb a x q
          · rw [less_out fun z => n (brw_own z), hF' b q, plus_out fun z => n (brw_own z)]
          · rcases hb with z | z
            · exact .inl z
            · exact .inr (fr b z)
          · obtain ⟨x, hx⟩ := wr_some (s.at_ z).2
            rw [fr b hb] at hx
            cases hx
      · cases e
end
end DL
/-! DL4: expressions. -/
namespace DL
open PySem L2

theorem PE.imp {X : Cx} {e : Expr} {t t' : TE} (h : PE X e t) (i : ∀ σ H Q, t' σ H Q → t σ H Q) : PE X e t' := ⟨fun pins s σ H Q I q => h.run pins s σ H Q I (i σ H Q q)⟩
theorem PT.imp {X : Cx} {e : Expr} {t t' : TT} (h : PT X e t) (i : ∀ σ H Q, t' σ H Q → t σ H Q) : PT X e t' := ⟨fun pins s σ H Q I q => h.run pins s σ H Q I (i σ H Q q)⟩
theorem PW.imp {X : Cx} {e : Expr} {t t' : TT} (h : PW X e t) (i : ∀ σ H Q, t' σ H Q → t σ H Q) : PW X e t' := ⟨fun wh pins s σ H Q I q => h.run wh pins s σ H Q I (i σ H Q q)⟩
theorem PA.imp {X : Cx} {es : List Expr} {t t' : TA} (h : PA X es t) (i : ∀ σ H Q, t' σ H Q → t σ H Q) : PA X es t' := ⟨fun pos pins s σ H Q I q => h.run pos pins s σ H Q I (i σ H Q q)⟩
theorem PS.imp {X : Cx} {st : Stmt} {t t' : TS} (h : PS X st t) (i : ∀ D σ H, t' D σ H → t D σ H) : PS X st t' := ⟨fun pins s σ H D I q => h.run pins s σ H D I (i D σ H q)⟩
theorem PSs.imp {X : Cx} {st : List Stmt} {t t' : TS} (h : PSs X st t) (i : ∀ D σ H, t' D σ H → t D σ H) : PSs X st t' := ⟨fun pins s σ H D I q => h.run pins s σ H D I (i D σ H q)⟩
theorem PE.or {X : Cx} {e : Expr} {t t' : TE} (h : PE X e t) (h' : PE X e t') : PE X e (fun σ H Q => t σ H Q ∨ t' σ H Q) := ⟨fun pins s σ H Q I q => q.elim (h.run pins s σ H Q I) (h'.run pins s σ H Q I)⟩
theorem PS.or {X : Cx} {e : Stmt} {t t' : TS} (h : PS X e t) (h' : PS X e t') : PS X e (fun D σ H => t D σ H ∨ t' D σ H) := ⟨fun pins s σ H Q I q => q.elim (h.run pins s σ H Q I) (h'.run pins s σ H Q I)⟩
theorem PI.or {X : Cx} {tg e : Expr} {t t' : TI} (h : PI X tg e t) (h' : PI X tg e t') : PI X tg e (fun σ H Q => t σ H Q ∨ t' σ H Q) := ⟨fun pins s σ H Q I q => q.elim (h.run pins s σ H Q I) (h'.run pins s σ H Q I)⟩

section
variable {X : Cx} {cl : Nat → Addr} {W : WX}
/-! ### what an expression, an operand, a test, arguments do by data -/
def EE (X : Cx) (cl : Nat → Addr) (W : WX) (e : Expr) (t : Rho → Res OV) : Prop := PE X e (LE X.K cl W t)
def EP' (X : Cx) (cl : Nat → Addr) (W : WX) (e : Expr) (t : Rho → Res Opd) : Prop := PE X e (LP X.K cl W t)
def ET (X : Cx) (cl : Nat → Addr) (W : WX) (e : Expr) (t : Rho → Res Bool) : Prop := PT X e (LT X.K cl W t)
def EW (X : Cx) (cl : Nat → Addr) (W : WX) (e : Expr) (t : Rho → Res Bool) : Prop := PW X e (LT X.K cl W t)
def EA (X : Cx) (cl : Nat → Addr) (W : WX) (es : List Expr) (t : Rho → Res (List Opd)) : Prop := PA X es (LA X.K cl W t)

@[simp] def OV.opd : OV → Opd
  | .b i => .b i
  | .o x => .d x.toD
/-- as an operand: new data is frozen, the owner of a slot is borrowed -/
@[simp] def evP (t : Rho → Res OV) : Rho → Res Opd := fun ρ => (t ρ).bind fun ov ρ' => .ok ov.opd ρ'
/-- as what is stored within other data: the owner of a slot is frozen -/
@[simp] def evS (t : Rho → Res OV) : Rho → Res Opd := fun ρ => (t ρ).bind fun ov ρ' => match ov with
  | .o o => .ok (.d o.toD) ρ'
  | .b i => match gt ρ' i with
    | .gone => .bad
    | o => .ok (.d o.toD) (ρ'.set i (.fz o.toD))

theorem ErrQ.pre {K : PySem.W.Frag} {F F1 H H1 : Hp} {σ : St} {P P1 : Addr → Prop} {x : Exn} {ρ' : Rho} (h : ErrQ K cl W P F H σ x ρ') (g : Gr P P1 F H F1 H1) : ErrQ K cl W P1 F1 H1 σ x ρ' :=
  fun F' H' A' c a s g' ex => h F' H' A' c a s (g.trans g') ex

/-- the slot i is frozen -/
theorem freezeSlot {K : PySem.W.Frag} {F H : Hp} {σ : St} {ρ : Rho} {A : Nat → List Addr} {i : Nat} (s : Sto K cl F H σ ρ A) (n : gt ρ i ≠ .gone) {v : V} (hv : σ[i]? = some (some v)) :
    ∃ F' A', Sto K cl F' H σ (ρ.set i (.fz (gt ρ i).toD)) A' ∧ Rep K cl F' (gt ρ i).toD v ∧ Gr (ownd A) (ownd A') F H F' H := by
  obtain ⟨v', ev, r⟩ := (s.sl i).own n
  rw [hv] at ev
  cases ev
  have hi := gt_lt n
  have s1 := s.drop (i := i) (x := some v)
  have dj : ∀ b ∈ A i, ¬ ownd (fun j => if j = i then [] else A j) b := fun b hb ⟨j, hj⟩ => by
    dsimp only at hj
    by_cases e : j = i
    · rw [if_pos e] at hj; cases hj
    · rw [if_neg e] at hj
      exact s.dis j i e b hj hb
  obtain ⟨s2, r2, le, out⟩ := freeze s1 r dj
  have s3 := s2.put (i := i) (v := v) (o := .fz (gt ρ i).toD) (B := []) (by rw [List.length_set]; exact hi) ⟨rfl, r2⟩ List.nodup_nil (fun b hb => by cases hb)
  rw [List.set_set, List.set_set] at s3
  have eσ : σ.set i (some v) = σ := by
    apply List.ext_getElem?
    intro j
    by_cases e : j = i
    · subst e
      rw [List.getElem?_set_self (by rw [← s.len]; exact hi), hv]
    · rw [List.getElem?_set_ne (Ne.symm e)]
  rw [eσ] at s3
  refine ⟨_, _, s3, r2, fun b o h _ => h, le, fun b h n' => out b fun z => n' ⟨i, z⟩, fun b ⟨j, hj⟩ => .inl ?_⟩
  dsimp only at hj
  by_cases e : j = i
  · rw [if_pos e] at hj; cases hj
  · rw [if_neg e, if_neg e] at hj
    exact ⟨j, hj⟩

theorem ee_p {e : Expr} {t : Rho → Res OV} (h : EE X cl W e t) : EP' X cl W e (evP t) := by
  refine PE.imp h fun σ H Q ⟨F, ρ, A, s, q⟩ => ⟨F, ρ, A, s, ?_⟩
  unfold evP at q
  cases e1 : t ρ with
  | bad => rw [e1] at q; exact q
  | err x ρ' => rw [e1] at q; exact q
  | ok ov ρ' =>
    rw [e1] at q
    intro v F' H' A' B s' g r nd dj
    cases ov with
    | b i =>
      obtain ⟨rfl, hv⟩ := r
      exact q v F' H' A' s' (g.sub fun b z => .inl z) hv
    | o o =>
      obtain ⟨s2, r2, le, out⟩ := freeze s' r dj
      exact q v _ H' A' s2 (g.frozen le) r2
theorem ee_s {e : Expr} {t : Rho → Res OV} (h : EE X cl W e t) : EP' X cl W e (evS t) := by
  refine PE.imp h fun σ H Q ⟨F, ρ, A, s, q⟩ => ⟨F, ρ, A, s, ?_⟩
  unfold evS at q
  cases e1 : t ρ with
  | bad => rw [e1] at q; exact q
  | err x ρ' => rw [e1] at q; exact q
  | ok ov ρ' =>
    rw [e1] at q
    intro v F' H' A' B s' g r nd dj
    cases ov with
    | b i =>
      obtain ⟨rfl, hv⟩ := r
      have n : gt ρ' i ≠ .gone := fun z => by
        dsimp only [Res.bind] at q
        rw [z] at q
        exact q
      obtain ⟨F2, A2, s2, r2, g2⟩ := freezeSlot s' n hv
      have q' : ∀ v F'_1 H' A', Sto X.K cl F'_1 H' σ (ρ'.set i (.fz (gt ρ' i).toD)) A' → Gr (ownd A) (ownd A') F H F'_1 H' → POk X.K cl F'_1 σ (.d (gt ρ' i).toD) v → Q v H' := by
        dsimp only [Res.bind] at q
        cases z : gt ρ' i with
        | gone => exact absurd z n
        | fz _ => rw [z] at q; exact q
        | tup _ => rw [z] at q; exact q
        | lst _ => rw [z] at q; exact q
        | dic _ => rw [z] at q; exact q
        | dct _ => rw [z] at q; exact q
        | ins _ _ => rw [z] at q; exact q
      exact q' v F2 H' A2 s2 ((g.sub fun b z => .inl z).trans g2) r2
    | o o =>
      obtain ⟨s2, r2, le, out⟩ := freeze s' r dj
      exact q v _ H' A' s2 (g.frozen le) r2

/-! ### names, constants -/
@[simp] def evName (i : Nat) : Rho → Res OV := fun ρ => match gt ρ i with
  | .gone => .bad
  | .fz d => .ok (.o (.fz d)) ρ
  | _ => .ok (.b i) ρ
theorem ee_of {K : PySem.W.Frag} {F H : Hp} {σ : St} {ρ : Rho} {A : Nat → List Addr} {o : OD} {v : V} {Q : VK} (s : Sto K cl F H σ ρ A) (r : Own K cl F H o v [])
    (q : ∀ v F' H' A' B, Sto K cl F' H' σ ρ A' → Gr (ownd A) (fun b => ownd A' b ∨ b ∈ B) F H F' H' → VOk K cl F' H' σ (.o o) v B → B.Nodup → (∀ b ∈ B, ¬ ownd A' b) → Q v H') : Q v H :=
  q v F H A [] s (Gr.refl.sub fun b z => z.elim id fun z => by cases z) r List.nodup_nil fun b z => by cases z
theorem ee_name {e : Expr} (i : Nat) (h : PE X e (tVar i)) : EE X cl W e (evName i) := by
  refine PE.imp h fun σ H Q ⟨F, ρ, A, s, q⟩ => ?_
  unfold evName at q
  have n : gt ρ i ≠ .gone := fun z => by
    rw [z] at q
    exact q
  obtain ⟨v, ev, r⟩ := (s.sl i).own n
  refine ⟨v, ev, ?_⟩
  have fin : (∀ v F' H' A' B, Sto X.K cl F' H' σ ρ A' → Gr (ownd A) (fun b => ownd A' b ∨ b ∈ B) F H F' H' → VOk X.K cl F' H' σ (.b i) v B → B.Nodup → (∀ b ∈ B, ¬ ownd A' b) → Q v H') → Q v H := fun k =>
    k v F H A [] s (Gr.refl.sub fun b z => z.elim id fun z => by cases z) ⟨rfl, ev⟩ List.nodup_nil fun b z => by cases z
  cases z : gt ρ i with
  | gone => exact absurd z n
  | fz d =>
    rw [z] at q r
    obtain ⟨eA, r⟩ := r
    exact ee_of (o := .fz d) s ⟨rfl, r⟩ q
  | tup _ => rw [z] at q; exact fin q
  | lst _ => rw [z] at q; exact fin q
  | dic _ => rw [z] at q; exact fin q
  | dct _ => rw [z] at q; exact fin q
  | ins _ _ => rw [z] at q; exact fin q
@[simp] def evC (d : D) : Rho → Res OV := fun ρ => .ok (.o (.fz d)) ρ
theorem ee_c {e : Expr} {x : V} (n : notRef x) (h : PE X e (tC x)) : EE X cl W e (evC (.v x)) := by
  refine PE.imp h fun σ H Q ⟨F, ρ, A, s, q⟩ => ?_
  exact ee_of (o := .fz (.v x)) s ⟨rfl, rfl, n⟩ q
theorem ee_int {i j pos} : EE X cl W (.Constant (.int i) j pos) (evC (.v (.int i))) := ee_c trivial pe_int
theorem ee_bl {b j pos} : EE X cl W (.Constant (.bool b) j pos) (evC (.v (.bl b))) := ee_c trivial pe_bl
theorem ee_non {j pos} : EE X cl W (.Constant .none j pos) (evC (.v .non)) := ee_c trivial pe_non
theorem ee_str {x j pos} : EE X cl W (.Constant (.str x) j pos) (evC (.v (.str x))) := ee_c trivial pe_str

/-! ### a step of two operands, of arguments -/
theorem POk.mono {K : PySem.W.Frag} {F F' : Hp} {σ : St} {q : Opd} {v : V} (h : POk K cl F σ q v) (le : Le F F') : POk K cl F' σ q v := by
  cases q with
  | d d => exact rep_mono le _ _ h
  | b i => exact h
theorem POks.mono {K : PySem.W.Frag} {F F' : Hp} {σ : St} (le : Le F F') : ∀ {qs : List Opd} {vs : List V}, POks K cl F σ qs vs → POks K cl F' σ qs vs
  | [], _, h => h
  | q :: qs, _, ⟨u, us, e, p, h⟩ => ⟨u, us, e, p.mono le, POks.mono le h⟩
@[simp] def ev2 (f : List D → Option OD) (ta tb : Rho → Res Opd) : Rho → Res OV := fun ρ => (ta ρ).bind fun x ρ1 => (tb ρ1).bind fun y ρ2 => fin f [x, y] ρ2
@[simp] def ev1 (f : List D → Option OD) (ta : Rho → Res Opd) : Rho → Res OV := fun ρ => (ta ρ).bind fun x ρ1 => fin f [x] ρ1
@[simp] def evN (f : List D → Option OD) (ta : Rho → Res (List Opd)) : Rho → Res OV := fun ρ => (ta ρ).bind fun xs ρ1 => fin f xs ρ1
/-- a rule of two values, as one of a list of them -/
abbrev R2L (r : R2) : List V → Hp → VK → Prop := fun vs H Q => ∃ x y, vs = [x, y] ∧ r x y H Q

/-- the last steps of all rules: what the end asks, brought to the primitive's end -/
theorem fin_end {K : PySem.W.Frag} {F F1 H H1 : Hp} {σ : St} {ρ1 : Rho} {A A1 : Nat → List Addr} {f : List D → Option OD} {R : List V → Hp → VK → Prop} {qs : List Opd} {vs : List V} {Q : VK}
    (pr : PrimOk K cl f R) (s1 : Sto K cl F1 H1 σ ρ1 A1) (g : Gr (ownd A) (ownd A1) F H F1 H1) (h : POks K cl F1 σ qs vs)
    (q : match fin f qs ρ1 with
      | .ok ov ρ' => ∀ v F' H' A' B, Sto K cl F' H' σ ρ' A' → Gr (ownd A) (fun b => ownd A' b ∨ b ∈ B) F H F' H' → VOk K cl F' H' σ ov v B → B.Nodup → (∀ b ∈ B, ¬ ownd A' b) → Q v H'
      | .err x ρ' => ErrQ K cl W (ownd A) F H σ x ρ'
      | .bad => False) : R vs H1 Q := by
  cases e : fin f qs ρ1 with
  | bad => rw [e] at q; exact q.elim
  | err x ρ' =>
    exfalso
    unfold fin at e
    split at e
    · cases e
    · split at e
      · cases e
      · split at e <;> cases e
  | ok ov ρ' =>
    rw [e] at q
    exact fin_ok pr s1 h e fun v F' H' A' B s' g' r nd dj => q v F' H' A' B s' (g.trans g') r nd dj

theorem ee_2 {e a b : Expr} {ta tb : Rho → Res Opd} {f : List D → Option OD} {r : R2} (hr : ∀ {ua ub : TE}, PE X a ua → PE X b ub → PE X e (tOp r ua ub)) (pr : PrimOk X.K cl f (R2L r)) (ha : EP' X cl W a ta) (hb : EP' X cl W b tb) : EE X cl W e (ev2 f ta tb) := by
  refine PE.imp (hr ha hb) fun σ H Q ⟨F, ρ, A, s, q⟩ => ⟨F, ρ, A, s, ?_⟩
  unfold ev2 at q
  cases e1 : ta ρ with
  | bad => rw [e1] at q; exact q
  | err x ρ' => rw [e1] at q; exact q
  | ok x ρ1 =>
    rw [e1] at q
    intro v F1 H1 A1 s1 g1 p1
    refine ⟨F1, ρ1, A1, s1, ?_⟩
    dsimp only [Res.bind] at q
    cases e2 : tb ρ1 with
    | bad => rw [e2] at q; exact q
    | err x ρ' => rw [e2] at q; exact ErrQ.pre q g1
    | ok y ρ2 =>
      rw [e2] at q
      intro u F2 H2 A2 s2 g2 p2
      obtain ⟨_, _, e, h⟩ := fin_end pr s2 (g1.trans g2) (qs := [x, y]) (vs := [v, u]) ⟨v, _, rfl, p1.mono g2.ff, u, _, rfl, p2, rfl⟩ q
      cases e
      exact h
theorem ee_op {a b : Expr} {ta tb : Rho → Res Opd} {op : Operator} {pos : Pos} {f : List D → Option OD} {r : R2} (ho : OpR X (binaryOp op) r) (pr : PrimOk X.K cl f (R2L r)) (ha : EP' X cl W a ta) (hb : EP' X cl W b tb) : EE X cl W (.BinOp a op b pos) (ev2 f ta tb) :=
  ee_2 (fun h1 h2 => pe_op ho h1 h2) pr ha hb
theorem ee_cmp {a b : Expr} {ta tb : Rho → Res Opd} {op : CmpOp} {pos : Pos} {f : List D → Option OD} {r : R2} (ho : OpR X (compareOp op) r) (pr : PrimOk X.K cl f (R2L r)) (ha : EP' X cl W a ta) (hb : EP' X cl W b tb) (hm : behindInMarks op b = false := by rfl) :
    EE X cl W (.Compare a [op] [b] pos) (ev2 f ta tb) :=
  ee_2 (fun h1 h2 => pe_cmpR ho h1 h2 hm) pr ha hb
theorem ee_ix {a b : Expr} {ta tb : Rho → Res Opd} {pos : Pos} {f : List D → Option OD} {r : R2} (ho : IxR X r) (pr : PrimOk X.K cl f (R2L r)) (ha : EP' X cl W a ta) (hb : EP' X cl W b tb) (hs : PlainIx b := by exact fun _ _ => rfl) :
    EE X cl W (.Subscript a b pos) (ev2 f ta tb) :=
  ee_2 (fun h1 h2 => pe_ix ho h1 h2 hs) pr ha hb
theorem ee_un {a : Expr} {ta : Rho → Res Opd} {op : UnaryOp} {pos : Pos} {f : List D → Option OD} {r : V → Hp → VK → Prop} (ho : UnR X (unaryOp op) r) (pr : PrimOk X.K cl f (fun vs H Q => ∃ x, vs = [x] ∧ r x H Q)) (ha : EP' X cl W a ta) : EE X cl W (.UnaryOp op a pos) (ev1 f ta) := by
  refine PE.imp (pe_un ho ha) fun σ H Q ⟨F, ρ, A, s, q⟩ => ⟨F, ρ, A, s, ?_⟩
  unfold ev1 at q
  cases e1 : ta ρ with
  | bad => rw [e1] at q; exact q
  | err x ρ' => rw [e1] at q; exact q
  | ok x ρ1 =>
    rw [e1] at q
    intro v F1 H1 A1 s1 g1 p1
    obtain ⟨_, e, h⟩ := fin_end pr s1 g1 (qs := [x]) (vs := [v]) ⟨v, _, rfl, p1, rfl⟩ q
    cases e
    exact h

/-! ### argument lists -/
@[simp] def evNil : Rho → Res (List Opd) := fun ρ => .ok [] ρ
@[simp] def evCons (t : Rho → Res Opd) (ts : Rho → Res (List Opd)) : Rho → Res (List Opd) := fun ρ => (t ρ).bind fun x ρ1 => (ts ρ1).bind fun xs ρ2 => .ok (x :: xs) ρ2
theorem ea_nil : EA X cl W [] evNil := PA.imp pa_nil fun σ H Q ⟨F, ρ, A, s, q⟩ => q [] F H A s Gr.refl rfl
theorem ea_cons {e : Expr} {es : List Expr} {t : Rho → Res Opd} {ts : Rho → Res (List Opd)} (h : EP' X cl W e t) (hs : EA X cl W es ts) (he : starEach (e :: es) X.env = (false, eval e X.env) :: starEach es X.env := by rfl) : EA X cl W (e :: es) (evCons t ts) := by
  refine PA.imp (pa_cons h hs he) fun σ H Q ⟨F, ρ, A, s, q⟩ => ⟨F, ρ, A, s, ?_⟩
  unfold evCons at q
  cases e1 : t ρ with
  | bad => rw [e1] at q; exact q
  | err x ρ' => rw [e1] at q; exact q
  | ok x ρ1 =>
    rw [e1] at q
    intro v F1 H1 A1 s1 g1 p1
    refine ⟨F1, ρ1, A1, s1, ?_⟩
    dsimp only [Res.bind] at q
    cases e2 : ts ρ1 with
    | bad => rw [e2] at q; exact q
    | err x ρ' => rw [e2] at q; exact ErrQ.pre q g1
    | ok ys ρ2 =>
      rw [e2] at q
      intro us F2 H2 A2 s2 g2 p2
      exact q (v :: us) F2 H2 A2 s2 (g1.trans g2) ⟨v, us, rfl, p1.mono g2.ff, p2⟩
/-- a step of a list of operands -/
theorem ee_n {e : Expr} {es : List Expr} {ts : Rho → Res (List Opd)} {f : List D → Option OD} {R : List V → Hp → VK → Prop} (hr : ∀ {ta : TA}, PA X es ta → PE X e (fun σ H Q => ta σ H fun vs H1 => R vs H1 Q)) (pr : PrimOk X.K cl f R) (ha : EA X cl W es ts) : EE X cl W e (evN f ts) := by
  refine PE.imp (hr ha) fun σ H Q ⟨F, ρ, A, s, q⟩ => ⟨F, ρ, A, s, ?_⟩
  unfold evN at q
  cases e1 : ts ρ with
  | bad => rw [e1] at q; exact q
  | err x ρ' => rw [e1] at q; exact q
  | ok xs ρ1 =>
    rw [e1] at q
    intro vs F1 H1 A1 s1 g1 p1
    exact fin_end pr s1 g1 p1 q
end
end DL
/-! DL5: tests, statements. -/
namespace DL
open PySem L2
section
variable {X : Cx} {cl : Nat → Addr} {W : WX} {pn : List Nat}

/-! ### tests -/
@[simp] def Opd.bool : Opd → Option Bool
  | .d (.v (.bl k)) => some k
  | _ => none
@[simp] def evT (t : Rho → Res Opd) : Rho → Res Bool := fun ρ => (t ρ).bind fun q ρ1 => match q.bool with
  | some b => .ok b ρ1
  | none => .bad
theorem Opd.bool_some {q : Opd} {b : Bool} (h : q.bool = some b) : q = .d (.v (.bl b)) := by
  unfold Opd.bool at h
  split at h
  · cases h; rfl
  · cases h
theorem et_val {e : Expr} {t : Rho → Res Opd} (h : EP' X cl W e t) (he : ∀ whole, isTrue e X.env whole = (do let v ← whole; standAt e.pos; holding [v] (truthy v)) := by intro _; rfl) : ET X cl W e (evT t) := by
  refine PT.imp (pt_val h he) fun σ H Q ⟨F, ρ, A, s, q⟩ => ⟨F, ρ, A, s, ?_⟩
  unfold evT at q
  cases e1 : t ρ with
  | bad => rw [e1] at q; exact q
  | err x ρ' => rw [e1] at q; exact q
  | ok o ρ1 =>
    rw [e1] at q
    dsimp only [Res.bind] at q
    cases e2 : o.bool with
    | none => rw [e2] at q; exact q.elim
    | some b =>
      rw [e2] at q
      cases Opd.bool_some e2
      intro v F1 H1 A1 s1 g1 p1
      exact ⟨b, p1.1, q F1 H1 A1 s1 g1⟩
@[simp] def evAnd (ta tb : Rho → Res Bool) : Rho → Res Bool := fun ρ => (ta ρ).bind fun a ρ1 => match a with
  | true => tb ρ1
  | false => .ok false ρ1
@[simp] def evOr (ta tb : Rho → Res Bool) : Rho → Res Bool := fun ρ => (ta ρ).bind fun a ρ1 => match a with
  | true => .ok true ρ1
  | false => tb ρ1
@[simp] def evNot (ta : Rho → Res Bool) : Rho → Res Bool := fun ρ => (ta ρ).bind fun a ρ1 => .ok (!a) ρ1
theorem et_w {e : Expr} {t : Rho → Res Bool} (h : EW X cl W e t) : ET X cl W e t := PW.pt h
theorem ew_and1 {a : Expr} {pos : Pos} {t : Rho → Res Bool} (h : ET X cl W a t) : EW X cl W (.BoolOp .And [a] pos) t := pw_and1 h
theorem ew_or1 {a : Expr} {pos : Pos} {t : Rho → Res Bool} (h : ET X cl W a t) : EW X cl W (.BoolOp .Or [a] pos) t := pw_or1 h
theorem ew_and {a b : Expr} {rest : List Expr} {pos : Pos} {ta tb : Rho → Res Bool} (h : ET X cl W a ta) (h' : EW X cl W (.BoolOp .And (b :: rest) pos) tb) : EW X cl W (.BoolOp .And (a :: b :: rest) pos) (evAnd ta tb) := by
  refine PW.imp (pw_and h h') fun σ H Q ⟨F, ρ, A, s, q⟩ => ⟨F, ρ, A, s, ?_⟩
  unfold evAnd at q
  cases e1 : ta ρ with
  | bad => rw [e1] at q; exact q
  | err x ρ' => rw [e1] at q; exact q
  | ok b ρ1 =>
    rw [e1] at q
    intro F1 H1 A1 s1 g1
    cases b with
    | false => exact q F1 H1 A1 s1 g1
    | true =>
      refine ⟨F1, ρ1, A1, s1, ?_⟩
      dsimp only [Res.bind] at q
      cases e2 : tb ρ1 with
      | bad => rw [e2] at q; exact q
      | err x ρ' => rw [e2] at q; exact ErrQ.pre q g1
      | ok b' ρ2 =>
        rw [e2] at q
        exact fun F2 H2 A2 s2 g2 => q F2 H2 A2 s2 (g1.trans g2)
theorem ew_or {a b : Expr} {rest : List Expr} {pos : Pos} {ta tb : Rho → Res Bool} (h : ET X cl W a ta) (h' : EW X cl W (.BoolOp .Or (b :: rest) pos) tb) : EW X cl W (.BoolOp .Or (a :: b :: rest) pos) (evOr ta tb) := by
  refine PW.imp (pw_or h h') fun σ H Q ⟨F, ρ, A, s, q⟩ => ⟨F, ρ, A, s, ?_⟩
  unfold evOr at q
  cases e1 : ta ρ with
  | bad => rw [e1] at q; exact q
  | err x ρ' => rw [e1] at q; exact q
  | ok b ρ1 =>
    rw [e1] at q
    intro F1 H1 A1 s1 g1
    cases b with
    | true => exact q F1 H1 A1 s1 g1
    | false =>
      refine ⟨F1, ρ1, A1, s1, ?_⟩
      dsimp only [Res.bind] at q
      cases e2 : tb ρ1 with
      | bad => rw [e2] at q; exact q
      | err x ρ' => rw [e2] at q; exact ErrQ.pre q g1
      | ok b' ρ2 =>
        rw [e2] at q
        exact fun F2 H2 A2 s2 g2 => q F2 H2 A2 s2 (g1.trans g2)
theorem et_not {a : Expr} {pos : Pos} {ta : Rho → Res Bool} (h : ET X cl W a ta) : ET X cl W (.UnaryOp .Not a pos) (evNot ta) := by
  refine PT.imp (pt_not h) fun σ H Q ⟨F, ρ, A, s, q⟩ => ⟨F, ρ, A, s, ?_⟩
  unfold evNot at q
  cases e1 : ta ρ with
  | bad => rw [e1] at q; exact q
  | err x ρ' => rw [e1] at q; exact q
  | ok b ρ1 =>
    rw [e1] at q
    exact q
/-! the same as values -/
abbrev ovB (b : Bool) : OV := .o (.fz (.v (.bl b)))
@[simp] def OV.bool : OV → Option Bool
  | .o (.fz (.v (.bl k))) => some k
  | _ => none
theorem OV.bool_some {q : OV} {b : Bool} (h : q.bool = some b) : q = ovB b := by
  unfold OV.bool at h
  split at h
  · cases h; rfl
  · cases h
@[simp] def evAndV (ta tb : Rho → Res OV) : Rho → Res OV := fun ρ => (ta ρ).bind fun a ρ1 => match a.bool with
  | some true => tb ρ1
  | some false => .ok (ovB false) ρ1
  | none => .bad
@[simp] def evOrV (ta tb : Rho → Res OV) : Rho → Res OV := fun ρ => (ta ρ).bind fun a ρ1 => match a.bool with
  | some true => .ok (ovB true) ρ1
  | some false => tb ρ1
  | none => .bad
@[simp] def evNotV (ta : Rho → Res OV) : Rho → Res OV := fun ρ => (ta ρ).bind fun a ρ1 => match a.bool with
  | some b => .ok (ovB (!b)) ρ1
  | none => .bad
theorem ee_one {a : Expr} {op : BoolOp} {pos : Pos} {t : Rho → Res OV} (h : EE X cl W a t) : EE X cl W (.BoolOp op [a] pos) t := pe_one h
theorem own_bl {K : PySem.W.Frag} {F H : Hp} {b : Bool} {v : V} {B : List Addr} (r : Own K cl F H (.fz (.v (.bl b))) v B) : v = .bl b ∧ B = [] := ⟨r.2.1, r.1⟩
theorem own_mk {K : PySem.W.Frag} {F H : Hp} {b : Bool} : Own K cl F H (.fz (.v (.bl b))) (.bl b) [] := ⟨rfl, rfl, trivial⟩
theorem gr0 {F H F1 H1 : Hp} {P : Addr → Prop} {A : Nat → List Addr} (g : Gr P (fun b => ownd A b ∨ b ∈ ([] : List Addr)) F H F1 H1) : Gr P (ownd A) F H F1 H1 := g.sub fun b z => .inl z
theorem gr1 {F H F1 H1 : Hp} {P : Addr → Prop} {A : Nat → List Addr} (g : Gr P (ownd A) F H F1 H1) : Gr P (fun b => ownd A b ∨ b ∈ ([] : List Addr)) F H F1 H1 := g.sub fun b z => z.elim id fun z => by cases z
theorem ee_and {a b : Expr} {rest : List Expr} {pos : Pos} {ta tb : Rho → Res OV} (h : EE X cl W a ta) (h' : EE X cl W (.BoolOp .And (b :: rest) pos) tb) : EE X cl W (.BoolOp .And (a :: b :: rest) pos) (evAndV ta tb) := by
  refine PE.imp (pe_and h h') fun σ H Q ⟨F, ρ, A, s, q⟩ => ⟨F, ρ, A, s, ?_⟩
  unfold evAndV at q
  cases e1 : ta ρ with
  | bad => rw [e1] at q; exact q
  | err x ρ' => rw [e1] at q; exact q
  | ok o ρ1 =>
    rw [e1] at q
    dsimp only [Res.bind] at q
    intro v F1 H1 A1 B s1 g1 r1 nd dj
    cases e2 : o.bool with
    | none => rw [e2] at q; exact q.elim
    | some c =>
      rw [e2] at q
      cases OV.bool_some e2
      obtain ⟨rfl, rfl⟩ := own_bl (H := H1) r1
      refine ⟨c, rfl, ?_⟩
      cases c with
      | false => exact q _ F1 H1 A1 [] s1 g1 (own_mk (H := H1)) nd dj
      | true =>
        refine ⟨F1, ρ1, A1, s1, ?_⟩
        dsimp only at q
        cases e3 : tb ρ1 with
        | bad => rw [e3] at q; exact q
        | err x ρ' => rw [e3] at q; exact ErrQ.pre q (gr0 g1)
        | ok o2 ρ2 =>
          rw [e3] at q
          exact fun v2 F2 H2 A2 B2 s2 g2 => q v2 F2 H2 A2 B2 s2 ((gr0 g1).trans g2)
theorem ee_or {a b : Expr} {rest : List Expr} {pos : Pos} {ta tb : Rho → Res OV} (h : EE X cl W a ta) (h' : EE X cl W (.BoolOp .Or (b :: rest) pos) tb) : EE X cl W (.BoolOp .Or (a :: b :: rest) pos) (evOrV ta tb) := by
  refine PE.imp (pe_or h h') fun σ H Q ⟨F, ρ, A, s, q⟩ => ⟨F, ρ, A, s, ?_⟩
  unfold evOrV at q
  cases e1 : ta ρ with
  | bad => rw [e1] at q; exact q
  | err x ρ' => rw [e1] at q; exact q
  | ok o ρ1 =>
    rw [e1] at q
    dsimp only [Res.bind] at q
    intro v F1 H1 A1 B s1 g1 r1 nd dj
    cases e2 : o.bool with
    | none => rw [e2] at q; exact q.elim
    | some c =>
      rw [e2] at q
      cases OV.bool_some e2
      obtain ⟨rfl, rfl⟩ := own_bl (H := H1) r1
      refine ⟨c, rfl, ?_⟩
      cases c with
      | true => exact q _ F1 H1 A1 [] s1 g1 (own_mk (H := H1)) nd dj
      | false =>
        refine ⟨F1, ρ1, A1, s1, ?_⟩
        dsimp only at q
        cases e3 : tb ρ1 with
        | bad => rw [e3] at q; exact q
        | err x ρ' => rw [e3] at q; exact ErrQ.pre q (gr0 g1)
        | ok o2 ρ2 =>
          rw [e3] at q
          exact fun v2 F2 H2 A2 B2 s2 g2 => q v2 F2 H2 A2 B2 s2 ((gr0 g1).trans g2)
theorem ee_not {a : Expr} {pos : Pos} {ta : Rho → Res OV} (h : EE X cl W a ta) : EE X cl W (.UnaryOp .Not a pos) (evNotV ta) := by
  refine PE.imp (pe_not h) fun σ H Q ⟨F, ρ, A, s, q⟩ => ⟨F, ρ, A, s, ?_⟩
  unfold evNotV at q
  cases e1 : ta ρ with
  | bad => rw [e1] at q; exact q
  | err x ρ' => rw [e1] at q; exact q
  | ok o ρ1 =>
    rw [e1] at q
    dsimp only [Res.bind] at q
    intro v F1 H1 A1 B s1 g1 r1 nd dj
    cases e2 : o.bool with
    | none => rw [e2] at q; exact q.elim
    | some c =>
      rw [e2] at q
      cases OV.bool_some e2
      obtain ⟨rfl, rfl⟩ := own_bl (H := H1) r1
      exact ⟨c, rfl, q _ F1 H1 A1 [] s1 g1 (own_mk (H := H1)) nd dj⟩

/-! ### statements -/
def ES (X : Cx) (cl : Nat → Addr) (pn : List Nat) (W : WX) (st : Stmt) (t : Rho → Res Fl) : Prop := PS X st (LS X.K cl pn W t)
def ESs (X : Cx) (cl : Nat → Addr) (pn : List Nat) (W : WX) (st : List Stmt) (t : Rho → Res Fl) : Prop := PSs X st (LS X.K cl pn W t)
@[simp] def sNext : Rho → Res Fl := fun ρ => .ok .next ρ
@[simp] def sSeq (t u : Rho → Res Fl) : Rho → Res Fl := fun ρ => match t ρ with
  | .ok .next ρ1 => u ρ1
  | r => r
/-- the ends of a statement behind another one -/
theorem LS.pre {K : PySem.W.Frag} {t : Rho → Res Fl} {D : Ends} {σ σ1 : St} {F F1 H H1 : Hp} {ρ1 : Rho} {A A1 : Nat → List Addr} (s1 : Sto K cl F1 H1 σ1 ρ1 A1) (g1 : Gr (ownd A) (ownd A1) F H F1 H1) (p1 : ∀ i ∈ pn, σ1[i]? = σ[i]?)
    (q : match t ρ1 with
      | .ok .next ρ' => ∀ σ' F' H' A', Sto K cl F' H' σ' ρ' A' → Gr (ownd A) (ownd A') F H F' H' → (∀ i ∈ pn, σ'[i]? = σ[i]?) → D.nx σ' H'
      | .ok .brk ρ' => ∀ σ' F' H' A', Sto K cl F' H' σ' ρ' A' → Gr (ownd A) (ownd A') F H F' H' → (∀ i ∈ pn, σ'[i]? = σ[i]?) → D.bk σ' H'
      | .ok .cont ρ' => ∀ σ' F' H' A', Sto K cl F' H' σ' ρ' A' → Gr (ownd A) (ownd A') F H F' H' → (∀ i ∈ pn, σ'[i]? = σ[i]?) → D.ct σ' H'
      | .ok (.ret ov) ρ' => ∀ v σ' F' H' A' B, Sto K cl F' H' σ' ρ' A' → Gr (ownd A) (fun b => ownd A' b ∨ b ∈ B) F H F' H' → (∀ i ∈ pn, σ'[i]? = σ[i]?) → VOk K cl F' H' σ' ov v B → B.Nodup → (∀ b ∈ B, ¬ ownd A' b) → D.rt v H'
      | .err x ρ' => ∀ σ' F' H' A' c a, Sto K cl F' H' σ' ρ' A' → Gr (ownd A) (ownd A') F H F' H' → (∀ i ∈ pn, σ'[i]? = σ[i]?) → ExOk K cl F' H' x c a → W c a σ' H'
      | .bad => False) : LS K cl pn W t D σ1 H1 := by
  refine ⟨F1, ρ1, A1, s1, ?_⟩
  cases e : t ρ1 with
  | bad => rw [e] at q; exact q
  | err x ρ' => rw [e] at q; exact fun σ' F' H' A' c a s' g' p' => q σ' F' H' A' c a s' (g1.trans g') (fun i hi => (p' i hi).trans (p1 i hi))
  | ok f ρ' =>
    cases f with
    | next => rw [e] at q; exact fun σ' F' H' A' s' g' p' => q σ' F' H' A' s' (g1.trans g') (fun i hi => (p' i hi).trans (p1 i hi))
    | brk => rw [e] at q; exact fun σ' F' H' A' s' g' p' => q σ' F' H' A' s' (g1.trans g') (fun i hi => (p' i hi).trans (p1 i hi))
    | cont => rw [e] at q; exact fun σ' F' H' A' s' g' p' => q σ' F' H' A' s' (g1.trans g') (fun i hi => (p' i hi).trans (p1 i hi))
    | ret ov => rw [e] at q; exact fun v σ' F' H' A' B s' g' p' => q v σ' F' H' A' B s' (g1.trans g') (fun i hi => (p' i hi).trans (p1 i hi))
theorem ss_nil : ESs X cl pn W [] sNext := PSs.imp pss_nil fun D σ H ⟨F, ρ, A, s, q⟩ => q σ F H A s Gr.refl fun _ _ => rfl
theorem ss_cons {st : Stmt} {rest : List Stmt} {t u : Rho → Res Fl} (h : ES X cl pn W st t) (h' : ESs X cl pn W rest u) : ESs X cl pn W (st :: rest) (sSeq t u) := by
  refine PSs.imp (pss_cons h h') fun D σ H ⟨F, ρ, A, s, q⟩ => ⟨F, ρ, A, s, ?_⟩
  unfold sSeq at q
  cases e : t ρ with
  | bad => rw [e] at q; exact q
  | err x ρ' => rw [e] at q; exact q
  | ok f ρ' =>
    cases f with
    | next => rw [e] at q; exact fun σ1 F1 H1 A1 s1 g1 p1 => LS.pre s1 g1 p1 q
    | brk => rw [e] at q; exact q
    | cont => rw [e] at q; exact q
    | ret ov => rw [e] at q; exact q
theorem ss_one {st : Stmt} {t : Rho → Res Fl} (h : ES X cl pn W st t) : ESs X cl pn W [st] t := pss_one h
@[simp] def sBrk : Rho → Res Fl := fun ρ => .ok .brk ρ
@[simp] def sCont : Rho → Res Fl := fun ρ => .ok .cont ρ
theorem es_pass {pos : Pos} : ES X cl pn W (.Pass pos) sNext := PS.imp ps_pass fun D σ H ⟨F, ρ, A, s, q⟩ => q σ F H A s Gr.refl fun _ _ => rfl
theorem es_brk {pos : Pos} : ES X cl pn W (.Break pos) sBrk := PS.imp ps_break fun D σ H ⟨F, ρ, A, s, q⟩ => q σ F H A s Gr.refl fun _ _ => rfl
theorem es_cont {pos : Pos} : ES X cl pn W (.Continue pos) sCont := PS.imp ps_continue fun D σ H ⟨F, ρ, A, s, q⟩ => q σ F H A s Gr.refl fun _ _ => rfl
@[simp] def sBad : Rho → Res Fl := fun _ => .bad
theorem es_bad {st : Stmt} : ES X cl pn W st sBad := PS.imp ps_never fun D σ H ⟨F, ρ, A, s, q⟩ => q
theorem ss_bad {sts : List Stmt} : ESs X cl pn W sts sBad := PSs.imp pss_never fun D σ H ⟨F, ρ, A, s, q⟩ => q
@[simp] def sIf (c : Rho → Res Bool) (t u : Rho → Res Fl) : Rho → Res Fl := fun ρ => match c ρ with
  | .ok b ρ1 => (match b with | true => t ρ1 | false => u ρ1)
  | .err x ρ1 => .err x ρ1
  | .bad => .bad
theorem es_if {c : Expr} {a b : List Stmt} {pos : Pos} {tc : Rho → Res Bool} {t u : Rho → Res Fl} (hc : ET X cl W c tc) (ha : ESs X cl pn W a t) (hb : ESs X cl pn W b u) : ES X cl pn W (.If c a b pos) (sIf tc t u) := by
  refine PS.imp (ps_if hc ha hb) fun D σ H ⟨F, ρ, A, s, q⟩ => ⟨F, ρ, A, s, ?_⟩
  unfold sIf at q
  cases e : tc ρ with
  | bad => rw [e] at q; exact q
  | err x ρ' => rw [e] at q; exact fun F' H' A' c a s' g' => q σ F' H' A' c a s' g' fun _ _ => rfl
  | ok b ρ1 =>
    rw [e] at q
    intro F1 H1 A1 s1 g1
    cases b with
    | true => exact LS.pre s1 g1 (fun _ _ => rfl) q
    | false => exact LS.pre s1 g1 (fun _ _ => rfl) q
@[simp] def sRet (t : Rho → Res OV) : Rho → Res Fl := fun ρ => match t ρ with
  | .ok ov ρ1 => .ok (.ret ov) ρ1
  | .err x ρ1 => .err x ρ1
  | .bad => .bad
theorem es_ret {e : Expr} {pos : Pos} {t : Rho → Res OV} (h : EE X cl W e t) : ES X cl pn W (.Return (some e) pos) (sRet t) := by
  refine PS.imp (ps_ret h) fun D σ H ⟨F, ρ, A, s, q⟩ => ⟨F, ρ, A, s, ?_⟩
  unfold sRet at q
  cases e1 : t ρ with
  | bad => rw [e1] at q; exact q
  | err x ρ' => rw [e1] at q; exact fun F' H' A' c a s' g' => q σ F' H' A' c a s' g' fun _ _ => rfl
  | ok ov ρ1 => rw [e1] at q; exact fun v F' H' A' B s' g' r nd dj => q v σ F' H' A' B s' g' (fun _ _ => rfl) r nd dj
@[simp] def sRetN : Rho → Res Fl := fun ρ => .ok (.ret (.o (.fz (.v .non)))) ρ
theorem es_retN {pos : Pos} : ES X cl pn W (.Return none pos) sRetN := PS.imp ps_retN fun D σ H ⟨F, ρ, A, s, q⟩ => q .non σ F H A [] s (gr1 Gr.refl) (fun _ _ => rfl) ⟨rfl, rfl, trivial⟩ List.nodup_nil (fun b z => by cases z)
@[simp] def sExp (t : Rho → Res OV) : Rho → Res Fl := fun ρ => match t ρ with
  | .ok _ ρ1 => .ok .next ρ1
  | .err x ρ1 => .err x ρ1
  | .bad => .bad
theorem es_exp {e : Expr} {pos : Pos} {t : Rho → Res OV} (h : EE X cl W e t) (hs : swapsWith e none pos.line X.env = pure false := by rfl) : ES X cl pn W (.Expr e pos) (sExp t) := by
  refine PS.imp (ps_expr h hs) fun D σ H ⟨F, ρ, A, s, q⟩ => ⟨F, ρ, A, s, ?_⟩
  unfold sExp at q
  cases e1 : t ρ with
  | bad => rw [e1] at q; exact q
  | err x ρ' => rw [e1] at q; exact fun F' H' A' c a s' g' => q σ F' H' A' c a s' g' fun _ _ => rfl
  | ok ov ρ1 => rw [e1] at q; exact fun v F' H' A' B s' g' r nd dj => q σ F' H' A' s' (g'.sub fun b z => .inl z) fun _ _ => rfl
/-- what is stored at a name: new data as its own, the owner of another slot frozen -/
@[simp] def sSet (i : Nat) (t : Rho → Res OV) : Rho → Res Fl := fun ρ => match t ρ with
  | .ok (.o o) ρ1 => if i < ρ1.length then .ok .next (ρ1.set i o) else .bad
  | .ok (.b j) ρ1 => if i < ρ1.length then (match gt ρ1 j with
    | .gone => .bad
    | o => .ok .next ((ρ1.set j (.fz o.toD)).set i (.fz o.toD))) else .bad
  | .err x ρ1 => .err x ρ1
  | .bad => .bad
theorem pn_set {σ : St} {i : Nat} {x : Option V} (h : i ∉ pn) : ∀ j ∈ pn, (σ.set i x)[j]? = σ[j]? := fun j hj => by
  rw [List.getElem?_set_ne]
  rintro rfl
  exact h hj
theorem es_setR {st : Stmt} {i : Nat} {t : Rho → Res OV} {u : TE} (hp : i ∉ pn) (h : PS X st (tAsg u (gName i))) (hu : ∀ σ H Q, LE X.K cl W t σ H Q → u σ H Q) : ES X cl pn W st (sSet i t) := by
  refine PS.imp h fun D σ H ⟨F, ρ, A, s, q⟩ => hu σ H _ ⟨F, ρ, A, s, ?_⟩
  unfold sSet at q
  cases e1 : t ρ with
  | bad => rw [e1] at q; exact q
  | err x ρ' => rw [e1] at q; exact fun F' H' A' c a s' g' => q σ F' H' A' c a s' g' fun _ _ => rfl
  | ok ov ρ1 =>
    rw [e1] at q
    intro v F' H' A' B s' g r nd dj
    show D.nx (σ.set i (some v)) H'
    cases ov with
    | o o =>
      dsimp only at q
      by_cases hi : i < ρ1.length
      · rw [if_pos hi] at q
        refine q _ F' H' (fun j => if j = i then B else A' j) (s'.put hi r nd fun b hb j _ hj => dj b hb ⟨j, hj⟩) ⟨g.keep, g.ff, g.new, fun b ⟨j, hj⟩ => ?_⟩ (pn_set hp)
        dsimp only at hj
        split at hj
        · exact g.ow b (.inr hj)
        · exact g.ow b (.inl ⟨j, hj⟩)
      · rw [if_neg hi] at q
        exact q.elim
    | b j =>
      obtain ⟨rfl, hv⟩ := r
      dsimp only at q
      by_cases hi : i < ρ1.length
      · rw [if_pos hi] at q
        have n : gt ρ1 j ≠ .gone := fun z => by
          rw [z] at q
          exact q
        have q' : ∀ σ' F' H' A', Sto X.K cl F' H' σ' ((ρ1.set j (.fz (gt ρ1 j).toD)).set i (.fz (gt ρ1 j).toD)) A' → Gr (ownd A) (ownd A') F H F' H' → (∀ i ∈ pn, σ'[i]? = σ[i]?) → D.nx σ' H' := by
          cases z : gt ρ1 j with
          | gone => exact absurd z n
          | fz _ => rw [z] at q; exact q
          | tup _ => rw [z] at q; exact q
          | lst _ => rw [z] at q; exact q
          | dic _ => rw [z] at q; exact q
          | dct _ => rw [z] at q; exact q
          | ins _ _ => rw [z] at q; exact q
        obtain ⟨F2, A2, s2, r2, g2⟩ := freezeSlot s' n hv
        refine q' _ F2 H' (fun k => if k = i then [] else A2 k) (s2.put (o := .fz (gt ρ1 j).toD) (B := []) (by rw [List.length_set]; exact hi) ⟨rfl, r2⟩ List.nodup_nil fun b hb => by cases hb) (((gr0 g).trans g2).sub fun b ⟨k, hk⟩ => ?_) (pn_set hp)
        dsimp only at hk
        split at hk
        · cases hk
        · exact ⟨k, hk⟩
      · rw [if_neg hi] at q
        exact q.elim
theorem es_set {i : Nat} {x : Str} {e : Expr} {pos pos' : Pos} {t : Rho → Res OV} (hp : i ∉ pn) (hN : X.N.Nodup) (hi : X.N[i]? = some x) (hx : Loc X.env.scope x) (h : EE X cl W e t) (hs : swapsWith e (some (.Name x pos')) pos.line X.env = pure false := by rfl) (hf : X.fn x = true ∨ X.env.scope.names.lookup x = some .local := by first | exact .inl rfl | exact .inr rfl | assumption) :
    ES X cl pn W (.Assign [.Name x pos'] e pos) (sSet i t) := es_setR hp (ps_set hN hi hx h hs hf) fun _ _ _ h => h

/-! ### while -/
def whileN (c : Rho → Res Bool) (b : Rho → Res Fl) : Nat → Rho → Res Fl
  | 0, _ => .bad
  | n + 1, ρ => match c ρ with
    | .ok true ρ1 => (match b ρ1 with
      | .ok .next ρ2 => whileN c b n ρ2
      | .ok .cont ρ2 => whileN c b n ρ2
      | .ok .brk ρ2 => .ok .next ρ2
      | r => r)
    | .ok false ρ1 => .ok .next ρ1
    | .err x ρ1 => .err x ρ1
    | .bad => .bad
theorem es_while {c : Expr} {body : List Stmt} {pos : Pos} {tc : Rho → Res Bool} {tb : Rho → Res Fl} (n : Nat) (hp : PassesOwn (model X.prog X.w) X.A X.env X.xe) (hc : ET X cl W c tc) (hb : ESs X cl pn W body tb) : ES X cl pn W (.While c body [] pos) (whileN tc tb n) := by
  refine PS.imp (ps_while hp hc hb) fun D σ0 H0 ⟨F0, ρ0, A0, s0, q0⟩ => ?_
  refine ⟨fun m σ H => ∃ F ρ A, Sto X.K cl F H σ ρ A ∧ Gr (ownd A0) (ownd A) F0 H0 F H ∧ (∀ i ∈ pn, σ[i]? = σ0[i]?) ∧ match whileN tc tb m ρ with
      | .ok .next ρ' => ∀ σ' F' H' A', Sto X.K cl F' H' σ' ρ' A' → Gr (ownd A0) (ownd A') F0 H0 F' H' → (∀ i ∈ pn, σ'[i]? = σ0[i]?) → D.nx σ' H'
      | .ok .brk ρ' => ∀ σ' F' H' A', Sto X.K cl F' H' σ' ρ' A' → Gr (ownd A0) (ownd A') F0 H0 F' H' → (∀ i ∈ pn, σ'[i]? = σ0[i]?) → D.bk σ' H'
      | .ok .cont ρ' => ∀ σ' F' H' A', Sto X.K cl F' H' σ' ρ' A' → Gr (ownd A0) (ownd A') F0 H0 F' H' → (∀ i ∈ pn, σ'[i]? = σ0[i]?) → D.ct σ' H'
      | .ok (.ret ov) ρ' => ∀ v σ' F' H' A' B, Sto X.K cl F' H' σ' ρ' A' → Gr (ownd A0) (fun b => ownd A' b ∨ b ∈ B) F0 H0 F' H' → (∀ i ∈ pn, σ'[i]? = σ0[i]?) → VOk X.K cl F' H' σ' ov v B → B.Nodup → (∀ b ∈ B, ¬ ownd A' b) → D.rt v H'
      | .err x ρ' => ∀ σ' F' H' A' c a, Sto X.K cl F' H' σ' ρ' A' → Gr (ownd A0) (ownd A') F0 H0 F' H' → (∀ i ∈ pn, σ'[i]? = σ0[i]?) → ExOk X.K cl F' H' x c a → W c a σ' H'
      | .bad => False, ⟨n, F0, ρ0, A0, s0, Gr.refl, fun _ _ => rfl, q0⟩, ?_⟩
  rintro m σ H ⟨F, ρ, A, s, g, p, q⟩
  cases m with
  | zero => exact q.elim
  | succ m =>
    refine ⟨F, ρ, A, s, ?_⟩
    unfold whileN at q
    cases e : tc ρ with
    | bad => rw [e] at q; exact q
    | err x ρ' => rw [e] at q; exact fun F' H' A' c a s' g' => q σ F' H' A' c a s' (g.trans g') p
    | ok b ρ1 =>
      rw [e] at q
      intro F1 H1 A1 s1 g1
      cases b with
      | false => exact q σ F1 H1 A1 s1 (g.trans g1) p
      | true =>
        refine ⟨_, fun σ' H' w => ⟨m, Nat.lt_succ_self m, w⟩, F1, ρ1, A1, s1, ?_⟩
        dsimp only at q
        cases e2 : tb ρ1 with
        | bad => rw [e2] at q; exact q
        | err x ρ' => rw [e2] at q; exact fun σ' F' H' A' c a s' g' p' => q σ' F' H' A' c a s' ((g.trans g1).trans g') fun i hi => (p' i hi).trans (p i hi)
        | ok f ρ' =>
          rw [e2] at q
          cases f with
          | next => exact fun σ' F' H' A' s' g' p' => ⟨F', ρ', A', s', (g.trans g1).trans g', fun i hi => (p' i hi).trans (p i hi), q⟩
          | cont => exact fun σ' F' H' A' s' g' p' => ⟨F', ρ', A', s', (g.trans g1).trans g', fun i hi => (p' i hi).trans (p i hi), q⟩
          | brk => exact fun σ' F' H' A' s' g' p' => q σ' F' H' A' s' ((g.trans g1).trans g') fun i hi => (p' i hi).trans (p i hi)
          | ret ov => exact fun v σ' F' H' A' B s' g' p' => q v σ' F' H' A' B s' ((g.trans g1).trans g') fun i hi => (p' i hi).trans (p i hi)
end
end DL
/-! DL6: targets, for, comprehensions. -/
namespace DL
open PySem L2

theorem PG.imp {X : Cx} {e : Expr} {t t' : TG} (h : PG X e t) (i : ∀ v σ H Q, t' v σ H Q → t v σ H Q) : PG X e t' := ⟨fun pins s σ H x v Q I r q => h.run pins s σ H x v Q I r (i _ _ _ _ q)⟩
theorem PI.imp {X : Cx} {tg e : Expr} {t t' : TI} (h : PI X tg e t) (i : ∀ σ H R, t' σ H R → t σ H R) : PI X tg e t' := ⟨fun pins s σ H R I q => h.run pins s σ H R I (i _ _ _ q)⟩

/-- what a target does with a datum -/
abbrev GR := D → Rho → Option Rho
def LG (K : PySem.W.Frag) (cl : Nat → Addr) (pn : List Nat) (g : GR) : TG := fun v σ H Q => ∃ F ρ A d, Sto K cl F H σ ρ A ∧ Rep K cl F d v ∧ match g d ρ with
  | some ρ' => ∀ σ' A', Sto K cl F H σ' ρ' A' → (∀ b, ownd A' b → ownd A b) → (∀ i ∈ pn, σ'[i]? = σ[i]?) → Q σ' H
  | none => False
def EG (X : Cx) (cl : Nat → Addr) (pn : List Nat) (tg : Expr) (g : GR) : Prop := PG X tg (LG X.K cl pn g)
def LGs (K : PySem.W.Frag) (cl : Nat → Addr) (pn : List Nat) (g : List D → Rho → Option Rho) : TGs := fun vs σ H Q => ∃ F ρ A ds, Sto K cl F H σ ρ A ∧ Reps K cl F ds vs ∧ match g ds ρ with
  | some ρ' => ∀ σ' A', Sto K cl F H σ' ρ' A' → (∀ b, ownd A' b → ownd A b) → (∀ i ∈ pn, σ'[i]? = σ[i]?) → Q σ' H
  | none => False
def EGs (X : Cx) (cl : Nat → Addr) (pn : List Nat) (ts : List Expr) (g : List D → Rho → Option Rho) : Prop := PGs X ts (LGs X.K cl pn g)
@[simp] def gSet (i : Nat) : GR := fun d ρ => if i < ρ.length then some (ρ.set i (.fz d)) else none
@[simp] def gsNil : List D → Rho → Option Rho := fun ds ρ => match ds with
  | [] => some ρ
  | _ => none
@[simp] def gsCons (g : GR) (gs : List D → Rho → Option Rho) : List D → Rho → Option Rho := fun ds ρ => match ds with
  | [] => none
  | d :: ds => match g d ρ with
    | none => none
    | some ρ' => gs ds ρ'
@[simp] def gTupl (n : Nat) (gs : List D → Rho → Option Rho) : GR := fun d ρ => match d with
  | .tup ds => if ds.length = n then gs ds ρ else none
  | _ => none
section
variable {X : Cx} {cl : Nat → Addr} {W : WX} {pn : List Nat} {pos : Pos}
theorem eg_name {i : Nat} {x : Str} (hp : i ∉ pn) (hN : X.N.Nodup) (hi : X.N[i]? = some x) (hx : Loc X.env.scope x) (hf : X.fn x = true ∨ X.env.scope.names.lookup x = some .local := by first | exact .inl rfl | exact .inr rfl | assumption) : EG X cl pn (.Name x pos) (gSet i) := by
  refine PG.imp (pg_name hN hi hx hf) fun v σ H Q ⟨F, ρ, A, d, s, r, q⟩ => ?_
  unfold gSet at q
  by_cases hl : i < ρ.length
  · rw [if_pos hl] at q
    refine q _ (fun j => if j = i then [] else A j) (s.put (o := .fz d) (B := []) hl ⟨rfl, r⟩ List.nodup_nil fun b hb => by cases hb) (fun b ⟨j, hj⟩ => ?_) (pn_set hp)
    dsimp only at hj
    split at hj
    · cases hj
    · exact ⟨j, hj⟩
  · rw [if_neg hl] at q
    exact q.elim
theorem PGs.imp {ts : List Expr} {t t' : TGs} (h : PGs X ts t) (i : ∀ v σ H Q, t' v σ H Q → t v σ H Q) : PGs X ts t' := ⟨fun pins s σ H vs us Q I r q => h.run pins s σ H vs us Q I r (i _ _ _ _ q)⟩
theorem egs_nil : EGs X cl pn [] gsNil := PGs.imp pgs_nil fun vs σ H Q ⟨F, ρ, A, ds, s, r, q⟩ => by
  cases ds with
  | nil => exact ⟨r, q σ A s (fun _ h => h) fun _ _ => rfl⟩
  | cons d ds => exact q.elim
theorem egs_cons {e : Expr} {es : List Expr} {g : GR} {gs : List D → Rho → Option Rho} (h : EG X cl pn e g) (h' : EGs X cl pn es gs) (hs : (assignEach (e :: es) X.env).map (·.2) = assign e X.env :: (assignEach es X.env).map (·.2) := by rfl) : EGs X cl pn (e :: es) (gsCons g gs) := by
  refine PGs.imp (pgs_cons h h' hs) fun vs σ H Q ⟨F, ρ, A, ds, s, r, q⟩ => ?_
  cases ds with
  | nil => exact q.elim
  | cons d ds =>
    obtain ⟨u, us, e, r1, r2⟩ := r
    refine ⟨u, us, e, F, ρ, A, d, s, r1, ?_⟩
    unfold gsCons at q
    dsimp only at q
    cases e1 : g d ρ with
    | none => rw [e1] at q; exact q.elim
    | some ρ1 =>
      rw [e1] at q
      intro σ1 A1 s1 w1 p1
      refine ⟨F, ρ1, A1, ds, s1, r2, ?_⟩
      dsimp only at q
      cases e2 : gs ds ρ1 with
      | none => rw [e2] at q; exact q.elim
      | some ρ2 =>
        rw [e2] at q
        exact fun σ2 A2 s2 w2 p2 => q σ2 A2 s2 (fun b hb => w1 b (w2 b hb)) fun i hi => (p2 i hi).trans (p1 i hi)
theorem reps_length {K : PySem.W.Frag} {F : Hp} : ∀ {ds : List D} {vs : List V}, Reps K cl F ds vs → vs.length = ds.length
  | [], vs, h => by rw [show vs = [] from h]; rfl
  | d :: ds, vs, ⟨u, us, e, _, q⟩ => by rw [e, List.length_cons, List.length_cons, reps_length q]
theorem sb_sqT {K : PySem.W.Frag} {F H : Hp} {a : Addr} {xs : List V} (sb : Sb F H) (h : SqT K F a xs) : SqT K H a xs := by
  rcases h with (h | ⟨o, h⟩) | h
  · exact .inl (sb _ _ h).1
  · exact .inl (.inr ⟨o, (sb _ _ h).2 rfl⟩)
  · exact .inr h
theorem sb_sqL {K : PySem.W.Frag} {F H : Hp} {a : Addr} {xs : List V} (sb : Sb F H) (h : SqL K F a xs) : SqL K H a xs := by
  rcases h with (h | ⟨o, h⟩) | h
  · exact .inl (sb _ _ h).1
  · exact .inl (.inr ⟨o, (sb _ _ h).2 rfl⟩)
  · exact .inr h
theorem eg_tup {es : List Expr} {k n : Nat} {gs : List D → Rho → Option Rho} (hc : X.calm = true) (h : EGs X cl pn es gs)
    (hn : (assignEach es X.env).length = n := by rfl) (hst : (assignEach es X.env).findIdx? (·.1) = none := by rfl) : EG X cl pn (.Tuple es k pos) (gTupl n gs) := by
  refine PG.imp (pg_tup hc h hn hst) fun v σ H Q ⟨F, ρ, A, d, s, r, q⟩ => ?_
  unfold gTupl at q
  cases d with
  | tup ds =>
    dsimp only at q
    by_cases hl : ds.length = n
    · rw [if_pos hl] at q
      obtain ⟨a, vs, e, hq, r⟩ := r
      exact ⟨a, vs, e, sb_sqT s.sub hq, (reps_length r).trans hl, F, ρ, A, ds, s, r, q⟩
    · rw [if_neg hl] at q
      exact q.elim
  | v _ => exact q.elim
  | lst _ => exact q.elim
  | dic _ => exact q.elim
  | dct _ => exact q.elim
  | ins _ _ => exact q.elim

/-- name, name = value -/
@[simp] def sAsgG (g : GR) (t : Rho → Res Opd) : Rho → Res Fl := fun ρ => match t ρ with
  | .ok (.d d) ρ1 => (match g d ρ1 with
    | some ρ2 => .ok .next ρ2
    | none => .bad)
  | .ok (.b _) _ => .bad
  | .err x ρ1 => .err x ρ1
  | .bad => .bad
theorem es_asgG {tg e : Expr} {g : GR} {t : Rho → Res Opd} (h : EP' X cl W e t) (hg : EG X cl pn tg g) (hs : swapsWithSole [tg] e pos.line X.env = pure false := by rfl) (hw : swappedStores [tg] e X.env = pure none := by rfl)
    (h1 : (assignEach [tg] X.env).map (·.2) = [assign tg X.env] := by rfl) : ES X cl pn W (.Assign [tg] e pos) (sAsgG g t) := by
  refine PS.imp (ps_asg h hg hs hw h1) fun D σ H ⟨F, ρ, A, s, q⟩ => ⟨F, ρ, A, s, ?_⟩
  unfold sAsgG at q
  cases e1 : t ρ with
  | bad => rw [e1] at q; exact q
  | err x ρ' => rw [e1] at q; exact fun F' H' A' c a s' g' => q σ F' H' A' c a s' g' fun _ _ => rfl
  | ok o ρ1 =>
    rw [e1] at q
    intro v F1 H1 A1 s1 g1 p1
    cases o with
    | b i => exact q.elim
    | d d =>
      refine ⟨F1, ρ1, A1, d, s1, p1, ?_⟩
      dsimp only at q
      cases e2 : g d ρ1 with
      | none => rw [e2] at q; exact q.elim
      | some ρ2 =>
        rw [e2] at q
        exact fun σ2 A2 s2 w2 p2 => q σ2 F1 H1 A2 s2 (g1.sub w2) p2

/-! ### what is walked -/
/-- J gives the items ds, while F and H are kept -/
def ItOk (K : PySem.W.Frag) (cl : Nat → Addr) (P : Addr → Prop) (J : It) (F H : Hp) (ds : List D) : Prop :=
  ∀ (i : Nat) (P' : Addr → Prop) (F' H' : Hp), Sb F' H' → Gr P P' F H F' H' →
    (∀ d, ds[i]? = some d → J.go i H' ∧ ∀ x H2, J.yld i H' x H2 → ∃ F2, Sb F2 H2 ∧ Gr (fun _ => False) (fun _ => False) F' H' F2 H2 ∧ Rep K cl F2 d x) ∧
    (ds.length ≤ i → J.stop i H')
def LI (K : PySem.W.Frag) (cl : Nat → Addr) (W : WX) (t : Rho → Res (List D)) : TI := fun σ H R => ∃ F ρ A, Sto K cl F H σ ρ A ∧ match t ρ with
  | .ok ds ρ' => ∀ J F' H' A', Sto K cl F' H' σ ρ' A' → Gr (ownd A) (ownd A') F H F' H' → ItOk K cl (ownd A') J F' H' ds → R J H'
  | .err x ρ' => ErrQ K cl W (ownd A) F H σ x ρ'
  | .bad => False
def EI (X : Cx) (cl : Nat → Addr) (W : WX) (tg e : Expr) (t : Rho → Res (List D)) : Prop := PI X tg e (LI X.K cl W t)

def forN (g : GR) (b : Rho → Res Fl) : List D → Rho → Res Fl
  | [], ρ => .ok .next ρ
  | d :: ds, ρ => match g d ρ with
    | none => .bad
    | some ρ1 => match b ρ1 with
      | .ok .next ρ2 => forN g b ds ρ2
      | .ok .cont ρ2 => forN g b ds ρ2
      | .ok .brk ρ2 => .ok .next ρ2
      | r => r
@[simp] def sFor (t : Rho → Res (List D)) (g : GR) (b : Rho → Res Fl) : Rho → Res Fl := fun ρ => match t ρ with
  | .ok ds ρ1 => forN g b ds ρ1
  | .err x ρ1 => .err x ρ1
  | .bad => .bad
/-- the ends that are wanted, from a base on -/
def Wants (K : PySem.W.Frag) (cl : Nat → Addr) (pn : List Nat) (W : WX) (D : Ends) (σ0 : L2.St) (A0 : Nat → List Addr) (F0 H0 : Hp) (r : Res Fl) : Prop := match r with
  | .ok .next ρ' => ∀ σ' F' H' A', Sto K cl F' H' σ' ρ' A' → Gr (ownd A0) (ownd A') F0 H0 F' H' → (∀ i ∈ pn, σ'[i]? = σ0[i]?) → D.nx σ' H'
  | .ok .brk ρ' => ∀ σ' F' H' A', Sto K cl F' H' σ' ρ' A' → Gr (ownd A0) (ownd A') F0 H0 F' H' → (∀ i ∈ pn, σ'[i]? = σ0[i]?) → D.bk σ' H'
  | .ok .cont ρ' => ∀ σ' F' H' A', Sto K cl F' H' σ' ρ' A' → Gr (ownd A0) (ownd A') F0 H0 F' H' → (∀ i ∈ pn, σ'[i]? = σ0[i]?) → D.ct σ' H'
  | .ok (.ret ov) ρ' => ∀ v σ' F' H' A' B, Sto K cl F' H' σ' ρ' A' → Gr (ownd A0) (fun b => ownd A' b ∨ b ∈ B) F0 H0 F' H' → (∀ i ∈ pn, σ'[i]? = σ0[i]?) → VOk K cl F' H' σ' ov v B → B.Nodup → (∀ b ∈ B, ¬ ownd A' b) → D.rt v H'
  | .err x ρ' => ∀ σ' F' H' A' c a, Sto K cl F' H' σ' ρ' A' → Gr (ownd A0) (ownd A') F0 H0 F' H' → (∀ i ∈ pn, σ'[i]? = σ0[i]?) → ExOk K cl F' H' x c a → W c a σ' H'
  | .bad => False
theorem LS.iff {K : PySem.W.Frag} {t : Rho → Res Fl} {D : Ends} {σ : L2.St} {H : Hp} : LS K cl pn W t D σ H ↔ ∃ F ρ A, Sto K cl F H σ ρ A ∧ Wants K cl pn W D σ A F H (t ρ) := Iff.rfl
theorem Wants.pre {K : PySem.W.Frag} {D : Ends} {σ σ1 : L2.St} {F F1 H H1 : Hp} {A A1 : Nat → List Addr} {r : Res Fl} (q : Wants K cl pn W D σ A F H r) (g1 : Gr (ownd A) (ownd A1) F H F1 H1) (p1 : ∀ i ∈ pn, σ1[i]? = σ[i]?) : Wants K cl pn W D σ1 A1 F1 H1 r := by
  cases r with
  | bad => exact q
  | err x ρ' => exact fun σ' F' H' A' c a s' g' p' => q σ' F' H' A' c a s' (g1.trans g') (fun i hi => (p' i hi).trans (p1 i hi))
  | ok f ρ' =>
    cases f with
    | next => exact fun σ' F' H' A' s' g' p' => q σ' F' H' A' s' (g1.trans g') (fun i hi => (p' i hi).trans (p1 i hi))
    | brk => exact fun σ' F' H' A' s' g' p' => q σ' F' H' A' s' (g1.trans g') (fun i hi => (p' i hi).trans (p1 i hi))
    | cont => exact fun σ' F' H' A' s' g' p' => q σ' F' H' A' s' (g1.trans g') (fun i hi => (p' i hi).trans (p1 i hi))
    | ret ov => exact fun v σ' F' H' A' B s' g' p' => q v σ' F' H' A' B s' (g1.trans g') (fun i hi => (p' i hi).trans (p1 i hi))
theorem gr_new {F F1 H H1 : Hp} {P' : Addr → Prop} (g : Gr (fun _ => False) P' F H F1 H1) {A : Nat → List Addr} (h : ∀ b, P' b → False) : Gr (ownd A) (ownd A) F H F1 H1 :=
  ⟨fun b o e _ => g.keep b o e id, g.ff, fun b e _ => g.new b e id, fun b z => .inl z⟩
theorem Sto.new {K : PySem.W.Frag} {σ : L2.St} {ρ : Rho} {A : Nat → List Addr} {F F1 H H1 : Hp} {P' : Addr → Prop} (s : Sto K cl F H σ ρ A) (sb : Sb F1 H1) (g : Gr (fun _ => False) P' F H F1 H1) : Sto K cl F1 H1 σ ρ A := by
  refine s.mono g.ff sb fun b hb => ⟨?_, fun y hy => g.keep b y hy id⟩
  rw [g.new b (s.at_ hb).2 id]
  exact (s.at_ hb).1
theorem es_for {tg iter : Expr} {body : List Stmt} {t : Rho → Res (List D)} {g : GR} {b : Rho → Res Fl} (hp : PassesOwn (model X.prog X.w) X.A X.env X.xe) (hc : X.calm = true) (hi : EI X cl W tg iter t) (hg : EG X cl pn tg g) (hb : ESs X cl pn W body b)
    (hs : ∀ x, foldedSetIterable iter X.env x = pure x := by intro _; rfl) : ES X cl pn W (.For tg iter body [] pos) (sFor t g b) := by
  refine PS.imp (ps_for hp hc hi hg hb hs) fun D σ0 H0 ⟨F0, ρ0, A0, s0, q0⟩ => ⟨F0, ρ0, A0, s0, ?_⟩
  unfold sFor at q0
  cases e : t ρ0 with
  | bad => rw [e] at q0; exact q0
  | err x ρ' => rw [e] at q0; exact fun F' H' A' c a s' g' => q0 σ0 F' H' A' c a s' g' fun _ _ => rfl
  | ok ds ρ1 =>
    rw [e] at q0
    intro J F1 H1 A1 s1 g1 it
    have q1 : Wants X.K cl pn W D σ0 A1 F1 H1 (forN g b ds ρ1) := Wants.pre q0 g1 fun _ _ => rfl
    refine ⟨fun i m σ H => m = ds.length - i ∧ i ≤ ds.length ∧ ∃ F ρ A, Sto X.K cl F H σ ρ A ∧ Gr (ownd A1) (ownd A) F1 H1 F H ∧ (∀ j ∈ pn, σ[j]? = σ0[j]?) ∧ Wants X.K cl pn W D σ A F H (forN g b (ds.drop i) ρ), ⟨_, rfl, Nat.zero_le _, F1, ρ1, A1, s1, Gr.refl, fun _ _ => rfl, q1⟩, ?_⟩
    rintro i m σ H ⟨rfl, hi, F, ρ, A, s, gg, p, q⟩
    obtain ⟨go, stop⟩ := it i _ F H s.sub gg
    by_cases hl : i < ds.length
    · have hd : ds[i]? = some ds[i] := List.getElem?_eq_getElem hl
      obtain ⟨hgo, hy⟩ := go _ hd
      refine .inr ⟨hgo, _, fun σ' H' w => ⟨ds.length - (i + 1), by omega, rfl, hl, w⟩, fun x H2 y => ?_⟩
      obtain ⟨F2, sb2, g2, r2⟩ := hy x H2 y
      have s2 := s.new sb2 g2
      have gg2 : Gr (ownd A) (ownd A) F H F2 H2 := gr_new g2 fun _ z => z
      refine ⟨F2, ρ, A, ds[i], s2, r2, ?_⟩
      rw [List.drop_eq_getElem_cons hl] at q
      unfold forN at q
      cases e1 : g ds[i] ρ with
      | none => rw [e1] at q; exact q.elim
      | some ρ3 =>
        rw [e1] at q
        dsimp only at q
        intro σ3 A3 s3 w3 p3
        refine ⟨F2, ρ3, A3, s3, ?_⟩
        have gg3 : Gr (ownd A) (ownd A3) F H F2 H2 := gg2.sub w3
        cases e2 : b ρ3 with
        | bad => rw [e2] at q; exact q
        | err x ρ' => rw [e2] at q; exact fun σ' F' H' A' c a s' g' p' => q σ' F' H' A' c a s' (gg3.trans g') fun i hi => (p' i hi).trans (p3 i hi)
        | ok f ρ' =>
          rw [e2] at q
          cases f with
          | next => exact fun σ' F' H' A' s' g' p' => ⟨F', ρ', A', s', (gg.trans gg3).trans g', fun i hi => ((p' i hi).trans (p3 i hi)).trans (p i hi), Wants.pre q (gg3.trans g') fun i hi => (p' i hi).trans (p3 i hi)⟩
          | cont => exact fun σ' F' H' A' s' g' p' => ⟨F', ρ', A', s', (gg.trans gg3).trans g', fun i hi => ((p' i hi).trans (p3 i hi)).trans (p i hi), Wants.pre q (gg3.trans g') fun i hi => (p' i hi).trans (p3 i hi)⟩
          | brk => exact fun σ' F' H' A' s' g' p' => q σ' F' H' A' s' (gg3.trans g') fun i hi => (p' i hi).trans (p3 i hi)
          | ret ov => exact fun v σ' F' H' A' B s' g' p' => q v σ' F' H' A' B s' (gg3.trans g') fun i hi => (p' i hi).trans (p3 i hi)
    · have e : i = ds.length := by omega
      subst e
      refine .inl ⟨stop (Nat.le_refl _), ?_⟩
      rw [List.drop_length] at q
      exact q σ F H A s Gr.refl fun _ _ => rfl
end
end DL
/-! DL7: what is walked: lists, tuples, texts, ranges, enumerate, dicts. -/
namespace DL
open PySem L2
section
variable {X : Cx} {cl : Nat → Addr} {W : WX} {pn : List Nat} {pos p : Pos} {tg : Expr}

theorem reps_get {K : PySem.W.Frag} {F : Hp} : ∀ {ds : List D} {vs : List V} {i : Nat} {d : D}, Reps K cl F ds vs → ds[i]? = some d → ∃ v, vs[i]? = some v ∧ Rep K cl F d v
  | [], _, _, _, _, e => by simp at e
  | d :: ds, _, 0, _, ⟨u, us, e, r, _⟩, e2 => by
    simp at e2
    subst e2 e
    exact ⟨u, rfl, r⟩
  | d :: ds, _, i + 1, _, ⟨u, us, e, _, q⟩, e2 => by
    obtain ⟨v, h1, h2⟩ := reps_get (i := i) q (by simpa using e2)
    subst e
    exact ⟨v, by simpa using h1, h2⟩
theorem Gr.sb_self {F H : Hp} : Gr (fun _ => False) (fun _ => False) F H F H := Gr.refl
@[simp] def sgn (c : Nat) : D := .v (.str ⟨#[c]⟩)
@[simp] def iterD : D → Option (List D)
  | .lst ds => some ds
  | .tup ds => some ds
  | .v (.str z) => some (z.cps.toList.map sgn)
  | _ => none
@[simp] def evIt (f : D → Option (List D)) (t : Rho → Res Opd) : Rho → Res (List D) := fun ρ => match t ρ with
  | .ok (.d d) ρ1 => (match f d with
    | some ds => .ok ds ρ1
    | none => .bad)
  | .ok (.b _) _ => .bad
  | .err x ρ1 => .err x ρ1
  | .bad => .bad
theorem it_list {K : PySem.W.Frag} {P : Addr → Prop} {F H : Hp} {a : Addr} {vs : List V} {ds : List D} (hq : SqL K F a vs) (r : Reps K cl F ds vs) : ItOk K cl P (Itl K a) F H ds := fun i P' F' H' sb g => by
  have q : SqL K H' a vs := sb_sqL sb (g.ff.sqL hq)
  refine ⟨fun d hd => ?_, fun hl => ⟨vs, q, by rw [reps_length r]; exact hl⟩⟩
  obtain ⟨v, hv, rv⟩ := reps_get r hd
  exact ⟨⟨vs, v, q, hv⟩, fun x H2 ⟨e, y⟩ => by
    subst e
    have := y vs q
    rw [hv] at this
    cases this
    exact ⟨F', sb, Gr.refl, rep_mono g.ff _ _ rv⟩⟩
theorem it_tup {K : PySem.W.Frag} {P : Addr → Prop} {F H : Hp} {a : Addr} {vs : List V} {ds : List D} (hq : SqT K F a vs) (r : Reps K cl F ds vs) : ItOk K cl P (Itt K a) F H ds := fun i P' F' H' sb g => by
  have q : SqT K H' a vs := sb_sqT sb (g.ff.sqT hq)
  refine ⟨fun d hd => ?_, fun hl => ⟨vs, q, by rw [reps_length r]; exact hl⟩⟩
  obtain ⟨v, hv, rv⟩ := reps_get r hd
  exact ⟨⟨vs, v, q, hv⟩, fun x H2 ⟨e, y⟩ => by
    subst e
    have := y vs q
    rw [hv] at this
    cases this
    exact ⟨F', sb, Gr.refl, rep_mono g.ff _ _ rv⟩⟩
theorem it_str {K : PySem.W.Frag} {P : Addr → Prop} {F H : Hp} {z : Str} : ItOk K cl P (Its z) F H (z.cps.toList.map sgn) := fun i P' F' H' sb g => by
  refine ⟨fun d hd => ?_, fun hl => by show z.cps.size ≤ i; simpa using hl⟩
  rw [List.getElem?_map] at hd
  cases e : z.cps.toList[i]? with
  | none => rw [e] at hd; cases hd
  | some c =>
    rw [e] at hd
    cases hd
    have e' : z.cps[i]? = some c := by simpa using e
    refine ⟨(Array.getElem?_eq_some_iff.mp e').1, fun x H2 ⟨eH, c', hc, ex⟩ => ?_⟩
    subst eH ex
    rw [e'] at hc
    cases hc
    exact ⟨F', sb, Gr.refl, rfl, trivial⟩
theorem ei_seq {e : Expr} {t : Rho → Res Opd} (h : EP' X cl W e t) : EI X cl W tg e (evIt iterD t) := by
  refine PI.imp (PI.or (pi_list h) (PI.or (pi_tup h) (pi_str h))) fun σ H R ⟨F, ρ, A, s, q⟩ => ?_
  unfold evIt at q
  cases e1 : t ρ with
  | bad => rw [e1] at q; exact q.elim
  | err x ρ' => rw [e1] at q; exact .inl ⟨F, ρ, A, s, by rw [e1]; exact q⟩
  | ok o ρ1 =>
    rw [e1] at q
    cases o with
    | b i => exact q.elim
    | d d =>
      dsimp only at q
      cases d with
      | lst ds =>
        refine .inl ⟨F, ρ, A, s, ?_⟩
        rw [e1]
        intro v F1 H1 A1 s1 g1 ⟨a, vs, e, hq, r⟩
        exact ⟨a, e, ⟨vs, sb_sqL s1.sub hq⟩, q _ F1 H1 A1 s1 g1 (it_list hq r)⟩
      | tup ds =>
        refine .inr (.inl ⟨F, ρ, A, s, ?_⟩)
        rw [e1]
        intro v F1 H1 A1 s1 g1 ⟨a, vs, e, hq, r⟩
        exact ⟨a, e, ⟨vs, sb_sqT s1.sub hq⟩, q _ F1 H1 A1 s1 g1 (it_tup hq r)⟩
      | dic _ => exact q.elim
      | dct _ => exact q.elim
      | ins _ _ => exact q.elim
      | v x =>
        cases x with
        | str z =>
          refine .inr (.inr ⟨F, ρ, A, s, ?_⟩)
          rw [e1]
          intro v F1 H1 A1 s1 g1 ⟨e, _⟩
          exact ⟨z, e, q _ F1 H1 A1 s1 g1 it_str⟩
        | non => exact q.elim
        | bl _ => exact q.elim
        | int _ => exact q.elim
        | byt _ => exact q.elim
        | flt _ => exact q.elim
        | ref _ => exact q.elim
        | ty _ => exact q.elim
/-- range(n), range(m, n) -/
def rngD (lo : Int) (n : Nat) : List D := (List.range n).map fun (i : Nat) => D.v (.int (lo + i))
@[simp] def evRng1 (t : Rho → Res (List Opd)) : Rho → Res (List D) := fun ρ => match t ρ with
  | .ok [.d (.v (.int j))] ρ1 => if -(2 ^ 62) ≤ j ∧ j < 2 ^ 62 then .ok (rngD 0 j.toNat) ρ1 else .bad
  | .err x ρ1 => .err x ρ1
  | _ => .bad
@[simp] def evRng2 (t : Rho → Res (List Opd)) : Rho → Res (List D) := fun ρ => match t ρ with
  | .ok [.d (.v (.int i)), .d (.v (.int j))] ρ1 => if -(2 ^ 62) ≤ i ∧ i < 2 ^ 62 ∧ -(2 ^ 62) ≤ j ∧ j < 2 ^ 62 then .ok (rngD i (j - i).toNat) ρ1 else .bad
  | .err x ρ1 => .err x ρ1
  | _ => .bad
theorem it_rng {K : PySem.W.Frag} {P : Addr → Prop} {F H : Hp} {lo : Int} {n : Nat} : ItOk K cl P (Itr lo n) F H (rngD lo n) := fun i P' F' H' sb g => by
  unfold rngD
  refine ⟨fun d hd => ?_, fun hl => by show n ≤ i; simpa using hl⟩
  rw [List.getElem?_map] at hd
  cases e : (List.range n)[i]? with
  | none => rw [e] at hd; cases hd
  | some c =>
    rw [e] at hd
    cases hd
    obtain ⟨h1, h2⟩ := List.getElem?_eq_some_iff.mp e
    rw [List.getElem_range] at h2
    subst h2
    rw [List.length_range] at h1
    refine ⟨h1, fun x H2 ⟨eH, ex⟩ => ?_⟩
    subst eH ex
    exact ⟨F', sb, Gr.refl, rfl, trivial⟩
theorem ei_rng1 {a : Expr} {t : Rho → Res (List Opd)} (hg : Gl X "range") (hm : X.mg "range" = none) (ha : EA X cl W [a] t) (hs : starEach [a] X.env = [(false, eval a X.env)] := by rfl) : EI X cl W tg (.Call (.Name "range" p) [a] [] pos) (evRng1 t) := by
  refine PI.imp (pi_range1 hg hm ha hs) fun σ H R ⟨F, ρ, A, s, q⟩ => ⟨F, ρ, A, s, ?_⟩
  unfold evRng1 at q
  cases e1 : t ρ with
  | bad => rw [e1] at q; exact q.elim
  | err x ρ' => rw [e1] at q; exact q
  | ok os ρ1 =>
    rw [e1] at q
    intro vs F1 H1 A1 s1 g1 ps
    split at q
    · rename_i j ρ2 e2
      split at e2
      · rename_i j' ρ3 e3
        cases e3
        split at e2
        · rename_i hb
          cases e2
          obtain ⟨u, us, e, r, e4⟩ := ps
          obtain rfl : us = [] := e4
          exact ⟨j', by rw [e, r.1], hb.1, hb.2, q _ F1 H1 A1 s1 g1 it_rng⟩
        · cases e2
      · rename_i e3; cases e3
      · cases e2
    · rename_i x ρ2 e2
      split at e2
      · split at e2 <;> cases e2
      · rename_i e3; cases e3
      · cases e2
    · exact q.elim
theorem ei_rng2 {a b : Expr} {t : Rho → Res (List Opd)} (hg : Gl X "range") (hm : X.mg "range" = none) (ha : EA X cl W [a, b] t) (hs : starEach [a, b] X.env = [(false, eval a X.env), (false, eval b X.env)] := by rfl) (hs2 : starEach [b] X.env = [(false, eval b X.env)] := by rfl) :
    EI X cl W tg (.Call (.Name "range" p) [a, b] [] pos) (evRng2 t) := by
  refine PI.imp (pi_range2 hg hm ha hs hs2) fun σ H R ⟨F, ρ, A, s, q⟩ => ⟨F, ρ, A, s, ?_⟩
  unfold evRng2 at q
  cases e1 : t ρ with
  | bad => rw [e1] at q; exact q.elim
  | err x ρ' => rw [e1] at q; exact q
  | ok os ρ1 =>
    rw [e1] at q
    intro vs F1 H1 A1 s1 g1 ps
    split at q
    · rename_i j ρ2 e2
      split at e2
      · rename_i i' j' ρ3 e3
        cases e3
        split at e2
        · rename_i hb
          cases e2
          obtain ⟨u, us, e, r, u2, us2, e', r', e4⟩ := ps
          obtain rfl : us2 = [] := e4
          exact ⟨i', j', by rw [e, r.1, e', r'.1], hb, q _ F1 H1 A1 s1 g1 it_rng⟩
        · cases e2
      · rename_i e3; cases e3
      · cases e2
    · rename_i x ρ2 e2
      split at e2
      · split at e2 <;> cases e2
      · rename_i e3; cases e3
      · cases e2
    · exact q.elim
end
end DL
/-! DL8: primitive steps by their data. -/
namespace DL
open PySem L2

section
variable {K : PySem.W.Frag} {cl : Nat → Addr} {F F' H H' : Hp} {Q : VK}
theorem vq_v {x : V} (n : notRef x) (sb : Sb F H) (h : VQ K cl F H (.fz (.v x)) Q) : Q x H := h x F H [] ⟨rfl, rfl, n⟩ List.nodup_nil sb ⟨fun _ _ e _ => e, Le.refl _, fun _ _ _ => rfl, fun b z => by cases z⟩
theorem vq_d {d : D} {v : V} (r : Rep K cl F d v) (sb : Sb F H) (h : VQ K cl F H (.fz d) Q) : Q v H := h v F H [] ⟨rfl, r⟩ List.nodup_nil sb ⟨fun _ _ e _ => e, Le.refl _, fun _ _ _ => rfl, fun b z => by cases z⟩
theorem sb_none {p : Addr} (sb : Sb F H) (hp : H p = none) : F p = none := by
  cases e : F p with
  | none => rfl
  | some o =>
    rcases (sb _ _ e).1 with z | ⟨ob, z⟩
    · rw [hp] at z; cases z
    · rw [hp] at z; cases z
theorem Rd.upd {a p : Addr} {o u : HO} (h : Rd H a u) (hp : H p = none) : Rd (upd H p o) a u := by
  rcases h with z | ⟨ob, z⟩
  · exact .inl (by rw [upd_ne (ne_of_none z hp)]; exact z)
  · exact .inr ⟨ob, by rw [upd_ne (ne_of_none z hp)]; exact z⟩
theorem sb_upd {p : Addr} {o : HO} (sb : Sb F H) (hp : H p = none) : Sb F (upd H p o) := fun a x e =>
  ⟨Rd.upd (sb _ _ e).1 hp, fun i => by rw [upd_ne (ne_of_none ((sb _ _ e).2 i) hp)]; exact (sb _ _ e).2 i⟩
theorem upd_le {p : Addr} {o : HO} (hp : F p = none) : Le F (upd F p o) := fun a x h => by rw [upd_ne (ne_of_none h hp)]; exact h
/-- a new tuple is frozen at once -/
theorem vq_tup {ds : List D} {vs : List V} (r : Reps K cl F ds vs) (sb : Sb F H) (h : VQ K cl F H (.fz (.tup ds)) Q) : ∀ p, H p = none → Q (.ref p) (upd H p (.tup vs)) := fun p hp => by
  have fp := sb_none sb hp
  refine h (.ref p) (upd F p (.tup vs)) (upd H p (.tup vs)) [] ⟨rfl, p, vs, rfl, SqT.of upd_same, reps_mono (upd_le fp) ds vs r⟩ List.nodup_nil (fun a o e => ?_) ⟨fun b o e _ => by rw [upd_ne (ne_of_none e hp)]; exact e, upd_le fp, fun b w _ => ?_, fun b z => by cases z⟩
  · by_cases q : a = p
    · subst q
      rw [upd_same] at e
      cases e
      exact ⟨.inl upd_same, fun _ => upd_same⟩
    · rw [upd_ne q] at e
      exact sb_upd sb hp _ _ e
  · refine upd_ne ?_
    rintro rfl
    rw [hp] at w
    exact w
/-- new data of its own at p -/
theorem vq_own {p : Addr} {ho : HO} {o : OD} (hp : H p = none) (sb : Sb F H) (r : Own K cl F (upd H p ho) o (.ref p) [p]) (h : VQ K cl F H o Q) : Q (.ref p) (upd H p ho) := by
  refine h (.ref p) F (upd H p ho) [p] r (List.nodup_cons.mpr ⟨by simp, List.nodup_nil⟩) (sb_upd sb hp) ⟨fun b x e _ => by rw [upd_ne (ne_of_none e hp)]; exact e, Le.refl _, fun _ _ _ => rfl, fun b z => .inr ?_⟩
  rw [List.mem_singleton] at z
  rw [z]
  exact hp
def fzs (ds : List D) : List OD := ds.map .fz
@[simp] theorem fzs_nil : fzs [] = [] := rfl
@[simp] theorem fzs_cons {d : D} {ds : List D} : fzs (d :: ds) = .fz d :: fzs ds := rfl
@[simp] theorem fzs_len {ds : List D} : (fzs ds).length = ds.length := List.length_map _
@[simp] theorem toDs_fzs : ∀ {ds : List D}, toDs (fzs ds) = ds
  | [] => rfl
  | d :: ds => by rw [fzs_cons]; show d :: toDs (fzs ds) = _; rw [toDs_fzs]
@[simp] theorem oimms_fzs : ∀ {ds : List D}, oimms (fzs ds) = imms ds
  | [] => rfl
  | d :: ds => by rw [fzs_cons]; show (d.imm && oimms (fzs ds)) = _; rw [oimms_fzs]; rfl
theorem owns_fz : ∀ {ds : List D} {vs : List V}, Reps K cl F ds vs → Owns K cl F H (fzs ds) vs []
  | [], vs, h => ⟨h, rfl⟩
  | d :: ds, _, ⟨u, us, e, r, q⟩ => ⟨u, us, [], [], e, rfl, ⟨rfl, r⟩, owns_fz q⟩
theorem vq_lst {ds : List D} {vs : List V} (r : Reps K cl F ds vs) (sb : Sb F H) (h : VQ K cl F H (.lst (fzs ds)) Q) : ∀ p, H p = none → Q (.ref p) (upd H p (.lst vs)) := fun p hp =>
  vq_own (K := K) (cl := cl) (o := .lst (fzs ds)) hp sb ⟨p, vs, [], rfl, rfl, sb_none sb hp, upd_same, owns_fz r⟩ h

theorem reps1 {d : D} {vs : List V} (h : Reps K cl F [d] vs) : ∃ x, vs = [x] ∧ Rep K cl F d x := by
  obtain ⟨u, us, e, r, q⟩ := h
  obtain rfl : us = [] := q
  exact ⟨u, e, r⟩
theorem reps2 {d e : D} {vs : List V} (h : Reps K cl F [d, e] vs) : ∃ x y, vs = [x, y] ∧ Rep K cl F d x ∧ Rep K cl F e y := by
  obtain ⟨u, us, e1, r, q⟩ := h
  obtain ⟨y, rfl, r2⟩ := reps1 q
  exact ⟨u, y, e1, r, r2⟩
theorem reps3 {d e f : D} {vs : List V} (h : Reps K cl F [d, e, f] vs) : ∃ x y z, vs = [x, y, z] ∧ Rep K cl F d x ∧ Rep K cl F e y ∧ Rep K cl F f z := by
  obtain ⟨u, us, e1, r, q⟩ := h
  obtain ⟨y, z, rfl, r2⟩ := reps2 q
  exact ⟨u, y, z, e1, r, r2⟩

/-! ### first one, else the other -/
@[simp] def alt (f g : List D → Option OD) : List D → Option OD := fun ds => match f ds with
  | some o => some o
  | none => g ds
theorem PrimOk.alt {f g : List D → Option OD} {R R' : List V → Hp → VK → Prop} (h : PrimOk K cl f R) (h' : PrimOk K cl g R') : PrimOk K cl (alt f g) (fun vs H Q => R vs H Q ∨ R' vs H Q) := fun F H ds vs o Q sb r e q => by
  unfold DL.alt at e
  cases e1 : f ds with
  | none => rw [e1] at e; exact .inr (h' F H ds vs o Q sb r e q)
  | some o' => rw [e1] at e; cases e; exact .inl (h F H ds vs o Q sb r e1 q)
theorem PrimOk.alt2 {f g : List D → Option OD} {r r' : R2} (h : PrimOk K cl f (R2L r)) (h' : PrimOk K cl g (R2L r')) : PrimOk K cl (DL.alt f g) (R2L fun x y H Q => r x y H Q ∨ r' x y H Q) := fun F H ds vs o Q sb rr e q => by
  rcases (PrimOk.alt h h') F H ds vs o Q sb rr e q with ⟨x, y, e, z⟩ | ⟨x, y, e, z⟩
  · exact ⟨x, y, e, .inl z⟩
  · exact ⟨x, y, e, .inr z⟩

/-! ### numbers -/
@[simp] def pII (C : Int → Int → Bool) (g : Int → Int → V) : List D → Option OD
  | [.v (.int a), .v (.int b)] => if C a b = true then some (.fz (.v (g a b))) else none
  | _ => none
theorem pII_some {C : Int → Int → Bool} {g : Int → Int → V} {ds : List D} {o : OD} (h : pII C g ds = some o) : ∃ a b, ds = [.v (.int a), .v (.int b)] ∧ C a b = true ∧ o = .fz (.v (g a b)) := by
  unfold pII at h
  split at h
  · split at h
    · cases h
      exact ⟨_, _, rfl, by assumption, rfl⟩
    · cases h
  · cases h
theorem pr_ii {C : Int → Int → Bool} {C' : Int → Int → Prop} {g : Int → Int → V} (hC : ∀ a b, C a b = true → C' a b) (ng : ∀ a b, notRef (g a b)) : PrimOk K cl (pII C g) (R2L (rI C' g)) := fun F H ds vs o Q sb r e q => by
  obtain ⟨a, b, rfl, hc, rfl⟩ := pII_some e
  obtain ⟨x, y, rfl, rx, ry⟩ := reps2 r
  exact ⟨x, y, rfl, a, b, rx.1, ry.1, hC a b hc, vq_v (ng a b) sb q⟩
theorem pr_ii0 {g : Int → Int → V} (ng : ∀ a b, notRef (g a b)) : PrimOk K cl (pII (fun _ _ => true) g) (R2L (rI0 g)) := fun F H ds vs o Q sb r e q => by
  obtain ⟨a, b, rfl, hc, rfl⟩ := pII_some e
  obtain ⟨x, y, rfl, rx, ry⟩ := reps2 r
  exact ⟨x, y, rfl, a, b, rx.1, ry.1, vq_v (ng a b) sb q⟩
@[simp] def pSS (C : Str → Str → Bool) (g : Str → Str → V) : List D → Option OD
  | [.v (.str a), .v (.str b)] => if C a b = true then some (.fz (.v (g a b))) else none
  | _ => none
theorem pSS_some {C : Str → Str → Bool} {g : Str → Str → V} {ds : List D} {o : OD} (h : pSS C g ds = some o) : ∃ a b, ds = [.v (.str a), .v (.str b)] ∧ C a b = true ∧ o = .fz (.v (g a b)) := by
  unfold pSS at h
  split at h
  · split at h
    · cases h
      exact ⟨_, _, rfl, by assumption, rfl⟩
    · cases h
  · cases h
theorem pr_ss {C : Str → Str → Bool} {C' : Str → Str → Prop} {g : Str → Str → V} (hC : ∀ a b, C a b = true → C' a b) (ng : ∀ a b, notRef (g a b)) : PrimOk K cl (pSS C g) (R2L fun x y H Q => ∃ i j, x = .str i ∧ y = .str j ∧ C' i j ∧ Q (g i j) H) := fun F H ds vs o Q sb r e q => by
  obtain ⟨a, b, rfl, hc, rfl⟩ := pSS_some e
  obtain ⟨x, y, rfl, rx, ry⟩ := reps2 r
  exact ⟨x, y, rfl, a, b, rx.1, ry.1, hC a b hc, vq_v (ng a b) sb q⟩
theorem pr_ss0 {g : Str → Str → V} (ng : ∀ a b, notRef (g a b)) : PrimOk K cl (pSS (fun _ _ => true) g) (R2L fun x y H Q => ∃ i j, x = .str i ∧ y = .str j ∧ Q (g i j) H) := fun F H ds vs o Q sb r e q => by
  obtain ⟨a, b, rfl, hc, rfl⟩ := pSS_some e
  obtain ⟨x, y, rfl, rx, ry⟩ := reps2 r
  exact ⟨x, y, rfl, a, b, rx.1, ry.1, vq_v (ng a b) sb q⟩
theorem sz {n : Nat} (h : decide (n ≤ 16777216) = true) : n ≤ sizeLine := by
  rw [sizeLine_eq]
  exact of_decide_eq_true h
theorem reps_append : ∀ {ds es : List D} {vs us : List V}, Reps K cl F ds vs → Reps K cl F es us → Reps K cl F (ds ++ es) (vs ++ us)
  | [], es, vs, us, h, h' => by
    obtain rfl : vs = [] := h
    exact h'
  | d :: ds, es, _, us, ⟨u, vs, e, r, q⟩, h' => ⟨u, vs ++ us, by rw [e]; rfl, r, reps_append q h'⟩
/-- lists together -/
@[simp] def pLL : List D → Option OD
  | [.lst a, .lst b] => if (decide (a.length ≤ 16777216) && decide (b.length ≤ 16777216) && decide (a.length + b.length ≤ 16777216)) = true then some (.lst (fzs (a ++ b))) else none
  | _ => none
@[simp] def pTT : List D → Option OD
  | [.tup a, .tup b] => if decide (a.length + b.length ≤ 16777216) = true then some (.fz (.tup (a ++ b))) else none
  | _ => none
theorem pTT_some {ds : List D} {o : OD} (h : pTT ds = some o) : ∃ a b, ds = [.tup a, .tup b] ∧ decide (a.length + b.length ≤ 16777216) = true ∧ o = .fz (.tup (a ++ b)) := by
  unfold pTT at h
  split at h
  · split at h
    · cases h
      exact ⟨_, _, rfl, by assumption, rfl⟩
    · cases h
  · cases h
theorem pLL_some {ds : List D} {o : OD} (h : pLL ds = some o) : ∃ a b, ds = [.lst a, .lst b] ∧ decide (a.length + b.length ≤ 16777216) = true ∧ o = .lst (fzs (a ++ b)) := by
  unfold pLL at h
  split at h
  · split at h
    · rename_i z
      cases h
      exact ⟨_, _, rfl, (Bool.and_eq_true_iff.mp z).2, rfl⟩
    · cases h
  · cases h
theorem pr_tt : PrimOk K cl pTT (R2L (rCatA K)) := fun F H ds vs o Q sb r e q => by
  obtain ⟨a, b, rfl, hc, rfl⟩ := pTT_some e
  obtain ⟨x, y, rfl, ⟨p, xs, ex, hx, rx⟩, ⟨p', ys, ey, hy, ry⟩⟩ := reps2 r
  have lx := reps_length rx
  have ly := reps_length ry
  refine ⟨x, y, rfl, p, p', xs, ys, ex, ey, sb_sqT sb hx, sb_sqT sb hy, sz (by rw [lx, ly]; exact hc), fun z => ?_, fun z z' => ?_, fun _ _ => vq_tup (reps_append rx ry) sb q⟩
  · subst z
    have ea : a = [] := List.length_eq_zero_iff.mp lx.symm
    subst ea
    rw [← ey]
    exact vq_d (d := .tup b) ⟨p', ys, ey, hy, ry⟩ sb q
  · subst z'
    have eb : b = [] := List.length_eq_zero_iff.mp ly.symm
    subst eb
    rw [← ex]
    rw [List.append_nil] at q
    exact vq_d (d := .tup a) ⟨p, xs, ex, hx, rx⟩ sb q
end

section
variable {X : Cx} {cl : Nat → Addr}
/-! ### operators -/
@[simp] def fAdd : List D → Option OD := alt (pII (fun _ _ => true) fun a b => .int (a + b)) (alt (pSS (fun a b => decide (a.length + b.length ≤ 16777216)) fun a b => .str (a ++ b)) pTT)
theorem op_Add : ∃ r, OpR X (binaryOp .Add) r ∧ PrimOk X.K cl fAdd (R2L r) :=
  ⟨_, op_add.or (op_add_str.or op_catA), PrimOk.alt2 (pr_ii0 fun _ _ => trivial) (PrimOk.alt2 (pr_ss (fun _ _ h => sz h) fun _ _ => trivial) pr_tt)⟩
@[simp] def fSub : List D → Option OD := pII (fun _ _ => true) fun a b => .int (a - b)
theorem op_Sub : ∃ r, OpR X (binaryOp .Sub) r ∧ PrimOk X.K cl fSub (R2L r) := ⟨_, op_sub, pr_ii0 fun _ _ => trivial⟩
/-- not too great -/
def fitB (a : Int) : Bool := decide (a.natAbs < 2 ^ 3000)
theorem fitB_of {a : Int} {n : Nat} (h : a.natAbs < 2 ^ n) (hn : n ≤ 3000) : fitB a = true := decide_eq_true (Nat.lt_of_lt_of_le h (Nat.pow_le_pow_right (by decide) hn))
@[simp] def fMul : List D → Option OD := pII (fun a b => fitB a && fitB b) fun a b => .int (a * b)
theorem op_Mul : ∃ r, OpR X (binaryOp .Mult) r ∧ PrimOk X.K cl fMul (R2L r) := ⟨_, op_mulW, pr_ii (fun a b h => wide_mul (a := 3000) (b := 3000) (of_decide_eq_true (Bool.and_eq_true_iff.mp h).1) (of_decide_eq_true (Bool.and_eq_true_iff.mp h).2) (by decide) (by decide) (by decide)) fun _ _ => trivial⟩
@[simp] def fDiv : List D → Option OD := pII (fun _ b => decide (0 < b) && fitB b) fun a b => .int (a / b)
theorem op_Div : ∃ r, OpR X (binaryOp .FloorDiv) r ∧ PrimOk X.K cl fDiv (R2L r) := ⟨_, op_fdivW, pr_ii (fun a b h => wide_div (b := 3000) (of_decide_eq_true (Bool.and_eq_true_iff.mp h).1) (of_decide_eq_true (Bool.and_eq_true_iff.mp h).2) (by decide) (by decide)) fun _ _ => trivial⟩
@[simp] def fMod : List D → Option OD := pII (fun _ b => decide (0 < b)) fun a b => .int (a % b)
theorem op_Mod : ∃ r, OpR X (binaryOp .Mod) r ∧ PrimOk X.K cl fMod (R2L r) := ⟨_, op_mod, pr_ii (fun a b h => of_decide_eq_true h) fun _ _ => trivial⟩
@[simp] def fPow : List D → Option OD := pII (fun a b => decide (0 ≤ b) && decide (b ≤ 1000) && decide (a.natAbs < 1000000)) fun a b => .int (a ^ b.toNat)
theorem op_Pow : ∃ r, OpR X (binaryOp .Pow) r ∧ PrimOk X.K cl fPow (R2L r) := ⟨_, op_pow, pr_ii (fun a b h => by
  obtain ⟨h1, h3⟩ := Bool.and_eq_true_iff.mp h
  obtain ⟨h1, h2⟩ := Bool.and_eq_true_iff.mp h1
  have := of_decide_eq_true h1
  have := of_decide_eq_true h2
  have := of_decide_eq_true h3
  exact ⟨by omega, by omega, by omega⟩) fun _ _ => trivial⟩

/-! ### comparisons -/
/-- texts by their signs -/
def ltS (a b : Str) : Bool := decide (a.cps.toList < b.cps.toList)
@[simp] def fLt : List D → Option OD := alt (pII (fun _ _ => true) fun a b => .bl (decide (a < b))) (pSS (fun _ _ => true) fun a b => .bl (ltS a b))
theorem op_Lt : ∃ r, OpR X (compareOp .Lt) r ∧ PrimOk X.K cl fLt (R2L r) := ⟨_, op_lt.or op_lt_str, PrimOk.alt2 (pr_ii0 fun _ _ => trivial) (pr_ss0 fun _ _ => trivial)⟩
@[simp] def fLe : List D → Option OD := alt (pII (fun _ _ => true) fun a b => .bl (decide (a ≤ b))) (pSS (fun _ _ => true) fun a b => .bl (!ltS b a))
theorem op_Le : ∃ r, OpR X (compareOp .LtE) r ∧ PrimOk X.K cl fLe (R2L r) := ⟨_, op_le.or op_le_str, PrimOk.alt2 (pr_ii0 fun _ _ => trivial) (pr_ss0 fun _ _ => trivial)⟩
@[simp] def fGt : List D → Option OD := alt (pII (fun _ _ => true) fun a b => .bl (decide (b < a))) (pSS (fun _ _ => true) fun a b => .bl (ltS b a))
theorem op_Gt : ∃ r, OpR X (compareOp .Gt) r ∧ PrimOk X.K cl fGt (R2L r) := ⟨_, op_gt.or op_gt_str, PrimOk.alt2 (pr_ii0 fun _ _ => trivial) (pr_ss0 fun _ _ => trivial)⟩
@[simp] def fGe : List D → Option OD := alt (pII (fun _ _ => true) fun a b => .bl (decide (b ≤ a))) (pSS (fun _ _ => true) fun a b => .bl (!ltS a b))
theorem op_Ge : ∃ r, OpR X (compareOp .GtE) r ∧ PrimOk X.K cl fGe (R2L r) := ⟨_, op_ge.or op_ge_str, PrimOk.alt2 (pr_ii0 fun _ _ => trivial) (pr_ss0 fun _ _ => trivial)⟩
end
end DL
/-! DL9: equality, in, items, slices, lengths, displays, built-in calls. -/
namespace DL
open PySem L2

/-! ### data as the library's -/
mutual
@[simp] def D.py : D → Option PyData
  | .v .non => some .none
  | .v (.bl b) => some (.bool b)
  | .v (.int i) => some (.int i)
  | .v (.str z) => some (.str z)
  | .tup ds => match pys ds with
    | some ps => some (.tuple ps)
    | none => none
  | .lst ds => match pys ds with
    | some ps => some (.list ps)
    | none => none
  | _ => none
@[simp] def pys : List D → Option (List PyData)
  | [] => some []
  | d :: ds => match d.py with
    | none => none
    | some p => match pys ds with
      | none => none
      | some ps => some (p :: ps)
end
section
variable {K : PySem.W.Frag} {cl : Nat → Addr} {F F' H H' : Hp} {Q : VK}
mutual
theorem py_dp (sb : Sb F H) : ∀ (d : D) (v : V) (p : PyData), d.py = some p → Rep K cl F d v → Dp K H v p
  | .v .non, v, p, e, r => by cases e; rw [r.1]; exact .non
  | .v (.bl b), v, p, e, r => by cases e; rw [r.1]; exact .bl b
  | .v (.int b), v, p, e, r => by cases e; rw [r.1]; exact .int b
  | .v (.str b), v, p, e, r => by cases e; rw [r.1]; exact .str b
  | .tup ds, v, p, e, ⟨a, vs, ev, q, r⟩ => by
    unfold D.py at e
    cases e1 : pys ds with
    | none => rw [e1] at e; cases e
    | some ps => rw [e1] at e; cases e; rw [ev]; exact .tup (sb_sqT sb q) (pys_dp sb ds vs ps e1 r)
  | .lst ds, v, p, e, ⟨a, vs, ev, q, r⟩ => by
    unfold D.py at e
    cases e1 : pys ds with
    | none => rw [e1] at e; cases e
    | some ps => rw [e1] at e; cases e; rw [ev]; exact .lst (sb_sqL sb q) (pys_dp sb ds vs ps e1 r)
  | .v (.byt _), _, _, e, _ => by cases e
  | .v (.flt _), _, _, e, _ => by cases e
  | .v (.ref _), _, _, e, _ => by cases e
  | .v (.ty _), _, _, e, _ => by cases e
  | .dic _, _, _, e, _ => by cases e
  | .dct _, _, _, e, _ => by cases e
  | .ins _ _, _, _, e, _ => by cases e
theorem pys_dp (sb : Sb F H) : ∀ (ds : List D) (vs : List V) (ps : List PyData), pys ds = some ps → Reps K cl F ds vs → DpAll K H vs ps
  | [], vs, ps, e, r => by cases e; rw [show vs = [] from r]; exact .nil
  | d :: ds, vs, ps, e, ⟨u, us, ev, r, q⟩ => by
    unfold pys at e
    cases e1 : d.py with
    | none => rw [e1] at e; cases e
    | some p' =>
      rw [e1] at e
      dsimp only at e
      cases e2 : pys ds with
      | none => rw [e2] at e; cases e
      | some ps' => rw [e2] at e; cases e; rw [ev]; exact .cons (py_dp sb d u p' e1 r) (pys_dp sb ds us ps' e2 q)
end
@[simp] def pVV (C : V → V → Bool) (g : V → V → V) : List D → Option OD
  | [.v a, .v b] => if C a b = true then some (.fz (.v (g a b))) else none
  | _ => none
theorem pVV_some {C : V → V → Bool} {g : V → V → V} {ds : List D} {o : OD} (h : pVV C g ds = some o) : ∃ a b, ds = [.v a, .v b] ∧ C a b = true ∧ o = .fz (.v (g a b)) := by
  unfold pVV at h
  split at h
  · split at h
    · cases h
      exact ⟨_, _, rfl, by assumption, rfl⟩
    · cases h
  · cases h
@[simp] def pPP (g : PyData → PyData → Bool) : List D → Option OD
  | [a, b] => match a.py with
    | none => none
    | some p => match b.py with
      | none => none
      | some q => if (SeqAt.shaped p && SeqAt.shaped q) = true then some (.fz (.v (.bl (g p q)))) else none
  | _ => none
theorem pPP_some {g : PyData → PyData → Bool} {ds : List D} {o : OD} (h : pPP g ds = some o) : ∃ a b p q, ds = [a, b] ∧ a.py = some p ∧ b.py = some q ∧ SeqAt.shaped p = true ∧ SeqAt.shaped q = true ∧ o = .fz (.v (.bl (g p q))) := by
  unfold pPP at h
  split at h
  · split at h
    · cases h
    · split at h
      · cases h
      · split at h
        · rename_i hc
          cases h
          exact ⟨_, _, _, _, rfl, by assumption, by assumption, (Bool.and_eq_true_iff.mp hc).1, (Bool.and_eq_true_iff.mp hc).2, rfl⟩
        · cases h
  · cases h
theorem pr_vv {C : V → V → Bool} {g : V → V → V} {C' : V → V → Prop} (hC : ∀ a b, C a b = true → C' a b) (ng : ∀ a b, notRef (g a b)) : PrimOk K cl (pVV C g) (R2L fun x y H Q => C' x y ∧ Q (g x y) H) := fun F H ds vs o Q sb r e q => by
  obtain ⟨a, b, rfl, hc, rfl⟩ := pVV_some e
  obtain ⟨x, y, rfl, rx, ry⟩ := reps2 r
  rw [rx.1, ry.1]
  exact ⟨a, b, rfl, hC a b hc, vq_v (ng a b) sb q⟩
theorem pr_pp {g : PyData → PyData → Bool} : PrimOk K cl (pPP g) (R2L fun x y H Q => ∃ d e, Dp K H x d ∧ Dp K H y e ∧ SeqAt.shaped d = true ∧ SeqAt.shaped e = true ∧ Q (.bl (g d e)) H) := fun F H ds vs o Q sb r e q => by
  obtain ⟨a, b, p, p', rfl, e1, e2, s1, s2, rfl⟩ := pPP_some e
  obtain ⟨x, y, rfl, rx, ry⟩ := reps2 r
  exact ⟨x, y, rfl, p, p', py_dp sb _ _ _ e1 rx, py_dp sb _ _ _ e2 ry, s1, s2, vq_v trivial sb q⟩
/-- the flat items of a sequence -/
@[simp] def flats : List D → Option (List V)
  | [] => some []
  | .v x :: ds => if flatV x = true then (match flats ds with
    | some xs => some (x :: xs)
    | none => none) else none
  | _ :: _ => none
theorem flats_rep : ∀ {ds : List D} {vs xs : List V}, flats ds = some xs → Reps K cl F ds vs → vs = xs ∧ xs.all flatV = true
  | [], vs, xs, e, r => by cases e; exact ⟨r, rfl⟩
  | .v x :: ds, vs, xs, e, ⟨u, us, ev, r, q⟩ => by
    unfold flats at e
    split at e
    · rename_i hf
      cases e1 : flats ds with
      | none => rw [e1] at e; cases e
      | some ys =>
        rw [e1] at e
        cases e
        obtain ⟨h1, h2⟩ := flats_rep e1 q
        exact ⟨by rw [ev, r.1, h1], by rw [List.all_cons, hf, h2]; rfl⟩
    · cases e
  | .tup _ :: _, _, _, e, _ => by cases e
  | .lst _ :: _, _, _, e, _ => by cases e
  | .dic _ :: _, _, _, e, _ => by cases e
  | .dct _ :: _, _, _, e, _ => by cases e
  | .ins _ _ :: _, _, _, e, _ => by cases e
@[simp] def seqOf : D → Option (List D)
  | .lst ds => some ds
  | .tup ds => some ds
  | _ => none
theorem seq_rep {d : D} {ds : List D} {v : V} (sb : Sb F H) (e : seqOf d = some ds) (r : Rep K cl F d v) : ∃ a vs, v = .ref a ∧ (SqL K H a vs ∨ SqT K H a vs) ∧ Reps K cl F ds vs := by
  cases d with
  | lst _ => cases e; obtain ⟨a, vs, e, q, r⟩ := r; exact ⟨a, vs, e, .inl (sb_sqL sb q), r⟩
  | tup _ => cases e; obtain ⟨a, vs, e, q, r⟩ := r; exact ⟨a, vs, e, .inr (sb_sqT sb q), r⟩
  | v _ => cases e
  | dic _ => cases e
  | dct _ => cases e
  | ins _ _ => cases e
@[simp] def pIn (neg : Bool) : List D → Option OD
  | [.v x, s] => if flatV x = true then (match seqOf s with
    | none => none
    | some ds => match flats ds with
      | none => none
      | some xs => some (.fz (.v (.bl (if neg then !inV x xs else inV x xs))))) else none
  | _ => none
theorem pIn_some {neg : Bool} {ds : List D} {o : OD} (h : pIn neg ds = some o) : ∃ x s es xs, ds = [.v x, s] ∧ flatV x = true ∧ seqOf s = some es ∧ flats es = some xs ∧ o = .fz (.v (.bl (if neg then !inV x xs else inV x xs))) := by
  unfold pIn at h
  split at h
  · split at h
    · split at h
      · cases h
      · split at h
        · cases h
        · cases h
          exact ⟨_, _, _, _, rfl, by assumption, by assumption, by assumption, rfl⟩
    · cases h
  · cases h
theorem pr_in {neg : Bool} : PrimOk K cl (pIn neg) (R2L (rIn K neg)) := fun F H ds vs o Q sb r e q => by
  obtain ⟨x, s, es, xs, rfl, hf, e1, e2, rfl⟩ := pIn_some e
  obtain ⟨u, y, rfl, rx, ry⟩ := reps2 r
  obtain ⟨a, us, rfl, hq, rr⟩ := seq_rep sb e1 ry
  obtain ⟨rfl, h2⟩ := flats_rep e2 rr
  rw [rx.1]
  exact ⟨x, _, rfl, a, us, rfl, hq, hf, h2, vq_v trivial sb q⟩
/-- an item of a list, a tuple, a text -/
@[simp] def pIx : List D → Option OD
  | [.lst ds, .v (.int i)] => (atI ds i).map .fz
  | [.tup ds, .v (.int i)] => (atI ds i).map .fz
  | [.v (.str z), .v (.int i)] => if decide (z.length ≤ 16777216) = true then (atI z.cps.toList i).map fun c => .fz (.v (.str ⟨#[c]⟩)) else none
  | _ => none
theorem atI_rep {ds : List D} {vs : List V} {i : Int} {d : D} (r : Reps K cl F ds vs) (e : atI ds i = some d) : ∃ v, atI vs i = some v ∧ Rep K cl F d v := by
  unfold atI at e ⊢
  rw [reps_length r]
  cases e1 : ixN ds.length i with
  | none => rw [e1] at e; cases e
  | some j =>
    rw [e1] at e
    exact reps_get r e
theorem pr_ix : PrimOk K cl pIx (R2L (rIx K)) := fun F H ds vs o Q sb r e q => by
  unfold pIx at e
  split at e
  · rename_i es i
    cases e1 : atI es i with
    | none => rw [e1] at e; cases e
    | some d =>
      rw [e1] at e
      cases e
      obtain ⟨x, y, rfl, ⟨a, us, ex, hq, rr⟩, ry⟩ := reps2 r
      obtain ⟨v, h1, h2⟩ := atI_rep rr e1
      exact ⟨x, y, rfl, .inl ⟨a, us, i, v, ex, ry.1, sb_sqL sb hq, h1, vq_d h2 sb q⟩⟩
  · rename_i es i
    cases e1 : atI es i with
    | none => rw [e1] at e; cases e
    | some d =>
      rw [e1] at e
      cases e
      obtain ⟨x, y, rfl, ⟨a, us, ex, hq, rr⟩, ry⟩ := reps2 r
      obtain ⟨v, h1, h2⟩ := atI_rep rr e1
      exact ⟨x, y, rfl, .inr (.inl ⟨a, us, i, v, ex, ry.1, sb_sqT sb hq, h1, vq_d h2 sb q⟩)⟩
  · rename_i z i
    split at e
    · rename_i hz
      cases e1 : atI z.cps.toList i with
      | none => rw [e1] at e; cases e
      | some c =>
        rw [e1] at e
        cases e
        obtain ⟨x, y, rfl, rx, ry⟩ := reps2 r
        exact ⟨x, y, rfl, .inr (.inr ⟨z, i, c, rx.1, ry.1, sz hz, e1, vq_v trivial sb q⟩)⟩
    · cases e
  · cases e
/-- an item of a dict -/
@[simp] def keyOf : D → Option Key
  | .v (.int i) => some (.inl i)
  | .v (.str z) => some (.inr z)
  | _ => none
@[simp] def keysOf : List D → Option (List Key)
  | [] => some []
  | d :: ds => match keyOf d with
    | none => none
    | some k => match keysOf ds with
      | none => none
      | some ks => some (k :: ks)
theorem key_rep {d : D} {k : Key} {v : V} (e : keyOf d = some k) (r : Rep K cl F d v) : v = kV k := by
  unfold keyOf at e
  split at e
  · cases e; exact r.1
  · cases e; exact r.1
  · cases e
theorem keys_rep : ∀ {ds : List D} {ks : List Key} {vs : List V}, keysOf ds = some ks → Reps K cl F ds vs → vs = ks.map kV
  | [], ks, vs, e, r => by cases e; exact r
  | d :: ds, ks, vs, e, ⟨u, us, ev, r, q⟩ => by
    unfold keysOf at e
    cases e1 : keyOf d with
    | none => rw [e1] at e; cases e
    | some k =>
      rw [e1] at e
      dsimp only at e
      cases e2 : keysOf ds with
      | none => rw [e2] at e; cases e
      | some ks' =>
        rw [e2] at e
        cases e
        rw [ev, key_rep e1 r, keys_rep e2 q]
        rfl
def dval {κ : Type} [DecidableEq κ] (kvs : List (κ × D)) (k : κ) : Option D := (kvs.find? fun kv => decide (kv.1 = k)).map (·.2)
/-- what stands under a key: none: no such step; some none: not there -/
@[simp] def dget : D → D → Option (Option D)
  | .dic kvs, d => match keyOf d with
    | some k => some (dval kvs k)
    | none => none
  | _, _ => none
theorem dval_repK : ∀ {kvs : List (Key × D)} {vs : List (Key × V)} {k : Key}, RepK K cl F kvs vs → match dval kvs k with
    | some d => ∃ v, valV vs k = some v ∧ Rep K cl F d v
    | none => valV vs k = none
  | [], vs, k, h => by rw [show vs = [] from h]; rfl
  | (j, d) :: kvs, vs, k, ⟨u, us, e, r, q⟩ => by
    subst e
    by_cases h : j = k
    · have e1 : dval ((j, d) :: kvs) k = some d := by simp [dval, List.find?_cons, h]
      rw [e1]
      exact ⟨u, valV_pos h, r⟩
    · have e1 : dval ((j, d) :: kvs) k = dval kvs k := by simp [dval, List.find?_cons, h]
      rw [e1, valV_neg (p := (j, u)) h]
      exact dval_repK q
@[simp] def pDIn (neg : Bool) : List D → Option OD
  | [k, d] => match dget d k with
    | some o => some (.fz (.v (.bl (if neg then !o.isSome else o.isSome))))
    | none => none
  | _ => none
@[simp] def pDIx : List D → Option OD
  | [d, k] => match dget d k with
    | some (some x) => some (.fz x)
    | _ => none
  | _ => none
theorem dget_rep {d k : D} {o : Option D} {x y : V} (sb : Sb F H) (e : dget d k = some o) (rd : Rep K cl F d x) (rk : Rep K cl F k y) : ∃ a, x = .ref a ∧
    (∀ d', o = some d' → ∃ v, DGet H a y (some v) ∧ Rep K cl F d' v) ∧ (o = none → DGet H a y none) := by
  cases d with
  | dic kvs =>
    unfold dget at e
    dsimp only at e
    cases e1 : keyOf k with
    | none => rw [e1] at e; cases e
    | some k' =>
      rw [e1] at e
      cases e
      obtain ⟨a, vs, ex, hq, rr⟩ := rd
      refine ⟨a, ex, ?_⟩
      have hr := (sb _ _ hq).1
      have ey := key_rep e1 rk
      have := dval_repK (k := k') rr
      refine ⟨fun d' e2 => ?_, fun e2 => ?_⟩
      · rw [e2] at this
        obtain ⟨v, h1, h2⟩ := this
        exact ⟨v, .inl ⟨vs, k', hr, ey, h1.symm⟩, h2⟩
      · rw [e2] at this
        exact .inl ⟨vs, k', hr, ey, this.symm⟩
  | v _ => cases e
  | tup _ => cases e
  | lst _ => cases e
  | dct _ => cases e
  | ins _ _ => cases e
theorem pr_din {neg : Bool} : PrimOk K cl (pDIn neg) (R2L fun y x H Q => ∃ a o, x = .ref a ∧ DGet H a y o ∧ Q (.bl (if neg then !o.isSome else o.isSome)) H) := fun F H ds vs o Q sb r e q => by
  unfold pDIn at e
  split at e
  · rename_i k d
    cases e1 : dget d k with
    | none => rw [e1] at e; cases e
    | some o' =>
      rw [e1] at e
      cases e
      obtain ⟨y, x, rfl, ry, rx⟩ := reps2 r
      obtain ⟨a, ex, h, h'⟩ := dget_rep sb e1 rx ry
      cases o' with
      | none => exact ⟨y, x, rfl, a, none, ex, h' rfl, vq_v trivial sb q⟩
      | some d' =>
        obtain ⟨v, h1, h2⟩ := h d' rfl
        exact ⟨y, x, rfl, a, some v, ex, h1, vq_v trivial sb q⟩
  · cases e
theorem pr_dix : PrimOk K cl pDIx (R2L fun x y H Q => ∃ a v, x = .ref a ∧ DGet H a y (some v) ∧ Q v H) := fun F H ds vs o Q sb r e q => by
  unfold pDIx at e
  split at e
  · rename_i d k
    split at e
    · rename_i d' e1
      cases e
      obtain ⟨x, y, rfl, rx, ry⟩ := reps2 r
      obtain ⟨a, ex, h, _⟩ := dget_rep sb e1 rx ry
      obtain ⟨v, h1, h2⟩ := h d' rfl
      exact ⟨x, y, rfl, a, v, ex, h1, vq_d h2 sb q⟩
    · cases e
  · cases e
end

section
variable {X : Cx} {cl : Nat → Addr} {W : WX} {e a b : Expr} {ta tb : Rho → Res Opd} {pos : Pos}
theorem fin_alt {f g : List D → Option OD} {qs : List Opd} {ρ : Rho} : fin (alt f g) qs ρ = fin f qs ρ ∨ fin (alt f g) qs ρ = fin g qs ρ := by
  unfold fin
  cases rss ρ qs with
  | none => exact .inl rfl
  | some ds =>
    dsimp only [alt]
    cases f ds with
    | none => exact .inr rfl
    | some o => exact .inl rfl
theorem ee_alt2 {f g : List D → Option OD} (h : EE X cl W e (ev2 f ta tb)) (h' : EE X cl W e (ev2 g ta tb)) : EE X cl W e (ev2 (alt f g) ta tb) := by
  refine PE.imp (PE.or h h') fun σ H Q ⟨F, ρ, A, s, q⟩ => ?_
  have : ev2 (alt f g) ta tb ρ = ev2 f ta tb ρ ∨ ev2 (alt f g) ta tb ρ = ev2 g ta tb ρ := by
    unfold ev2
    cases ta ρ with
    | bad => exact .inl rfl
    | err _ _ => exact .inl rfl
    | ok x ρ1 =>
      show (tb ρ1).bind _ = (tb ρ1).bind _ ∨ (tb ρ1).bind _ = (tb ρ1).bind _
      cases tb ρ1 with
      | bad => exact .inl rfl
      | err _ _ => exact .inl rfl
      | ok y ρ2 => exact fin_alt
  rcases this with z | z
  · rw [z] at q; exact .inl ⟨F, ρ, A, s, q⟩
  · rw [z] at q; exact .inr ⟨F, ρ, A, s, q⟩
theorem ee_altN {f g : List D → Option OD} {ts : Rho → Res (List Opd)} (h : EE X cl W e (evN f ts)) (h' : EE X cl W e (evN g ts)) : EE X cl W e (evN (alt f g) ts) := by
  refine PE.imp (PE.or h h') fun σ H Q ⟨F, ρ, A, s, q⟩ => ?_
  have : evN (alt f g) ts ρ = evN f ts ρ ∨ evN (alt f g) ts ρ = evN g ts ρ := by
    unfold evN
    cases ts ρ with
    | bad => exact .inl rfl
    | err _ _ => exact .inl rfl
    | ok y ρ2 => exact fin_alt
  rcases this with z | z
  · rw [z] at q; exact .inl ⟨F, ρ, A, s, q⟩
  · rw [z] at q; exact .inr ⟨F, ρ, A, s, q⟩

@[simp] def fEq : List D → Option OD := alt (pVV scal fun x y => .bl (decide (x = y))) (pPP PyData.eqv)
@[simp] def fNe : List D → Option OD := alt (pVV scal fun x y => .bl (!decide (x = y))) (pPP fun p q => !PyData.eqv p q)
theorem op_Eq (hu : X.A.units + 64 < cLine) : ∃ r, OpR X (compareOp .Eq) r ∧ PrimOk X.K cl fEq (R2L r) := ⟨_, op_eq.or (op_eqD hu), PrimOk.alt2 (pr_vv (fun _ _ h => h) fun _ _ => trivial) pr_pp⟩
theorem op_Ne (hu : X.A.units + 64 < cLine) : ∃ r, OpR X (compareOp .NotEq) r ∧ PrimOk X.K cl fNe (R2L r) := ⟨_, op_ne.or (op_neD hu), PrimOk.alt2 (pr_vv (fun _ _ h => h) fun _ _ => trivial) pr_pp⟩
/-- is None, is True .. -/
@[simp] def pIsN (neg : Bool) : List D → Option OD
  | [.v x, .v .non] => some (.fz (.v (.bl (if neg then !decide (x = .non) else decide (x = .non)))))
  | [.lst _, .v .non] => some (.fz (.v (.bl neg)))
  | [.tup _, .v .non] => some (.fz (.v (.bl neg)))
  | [.v (.bl a), .v (.bl b)] => some (.fz (.v (.bl (if neg then !decide (a = b) else decide (a = b)))))
  | _ => none
theorem pr_isN {K : PySem.W.Frag} : PrimOk K cl (pIsN false) (R2L fun x y H Q => (y = .non ∧ Q (.bl (decide (x = .non))) H) ∨ rIsB x y H Q) := fun F H ds vs o Q sb r e q => by
  unfold pIsN at e
  split at e
  · cases e
    obtain ⟨x, y, rfl, rx, ry⟩ := reps2 r
    refine ⟨x, y, rfl, .inl ⟨ry.1, ?_⟩⟩
    rw [rx.1]
    exact vq_v trivial sb q
  · cases e
    obtain ⟨x, y, rfl, ⟨a, vs, ex, _⟩, ry⟩ := reps2 r
    refine ⟨x, y, rfl, .inl ⟨ry.1, ?_⟩⟩
    rw [ex]
    exact vq_v trivial sb q
  · cases e
    obtain ⟨x, y, rfl, ⟨a, vs, ex, _⟩, ry⟩ := reps2 r
    refine ⟨x, y, rfl, .inl ⟨ry.1, ?_⟩⟩
    rw [ex]
    exact vq_v trivial sb q
  · cases e
    obtain ⟨x, y, rfl, rx, ry⟩ := reps2 r
    exact ⟨x, y, rfl, .inr ⟨_, _, rx.1, ry.1, vq_v trivial sb q⟩⟩
  · cases e
theorem pr_notN {K : PySem.W.Frag} : PrimOk K cl (pIsN true) (R2L fun x y H Q => (y = .non ∧ Q (.bl (!decide (x = .non))) H) ∨ rNotB x y H Q) := fun F H ds vs o Q sb r e q => by
  unfold pIsN at e
  split at e
  · cases e
    obtain ⟨x, y, rfl, rx, ry⟩ := reps2 r
    refine ⟨x, y, rfl, .inl ⟨ry.1, ?_⟩⟩
    rw [rx.1]
    exact vq_v trivial sb q
  · cases e
    obtain ⟨x, y, rfl, ⟨a, vs, ex, _⟩, ry⟩ := reps2 r
    refine ⟨x, y, rfl, .inl ⟨ry.1, ?_⟩⟩
    rw [ex]
    exact vq_v trivial sb q
  · cases e
    obtain ⟨x, y, rfl, ⟨a, vs, ex, _⟩, ry⟩ := reps2 r
    refine ⟨x, y, rfl, .inl ⟨ry.1, ?_⟩⟩
    rw [ex]
    exact vq_v trivial sb q
  · cases e
    obtain ⟨x, y, rfl, rx, ry⟩ := reps2 r
    exact ⟨x, y, rfl, .inr ⟨_, _, rx.1, ry.1, vq_v trivial sb q⟩⟩
  · cases e
theorem op_Is : ∃ r, OpR X (compareOp .Is) r ∧ PrimOk X.K cl (pIsN false) (R2L r) := ⟨_, op_isN.or op_isBl, pr_isN⟩
theorem op_IsNot : ∃ r, OpR X (compareOp .IsNot) r ∧ PrimOk X.K cl (pIsN true) (R2L r) := ⟨_, op_notN.or op_notBl, pr_notN⟩
def inS (i j : Str) : Bool := !(Builtin.Str.occurrences j i 0 j.length 1).isEmpty
/-- in: a text in a text, a flat thing in a list or tuple, data in a list, a key in a dict -/
def pInD (neg : Bool) : List D → Option OD := pPP fun p q => match q with
  | .list ps => if neg then !ps.any fun z => PyData.eqv z p else ps.any fun z => PyData.eqv z p
  | _ => false
@[simp] def fIn0 (neg : Bool) : List D → Option OD := alt (pSS (fun _ _ => true) fun i j => .bl (if neg then !inS i j else inS i j)) (pIn neg)
@[simp] def fIn (neg : Bool) : List D → Option OD := alt (fIn0 neg) (pDIn neg)
theorem ee_in (hu : X.A.units + 1 < cLine) (ha : EP' X cl W a ta) (hb : EP' X cl W b tb) (hm : behindInMarks .In b = false := by rfl) : EE X cl W (.Compare a [.In] [b] pos) (ev2 (fIn false) ta tb) :=
  ee_alt2 (ee_cmp (op_in_str.or op_in_seq) (PrimOk.alt2 (pr_ss0 fun _ _ => trivial) pr_in) ha hb hm) (ee_2 (fun h1 h2 => pe_cmp (pc_din hu h1 h2) hm) pr_din ha hb)
theorem ee_notin (hu : X.A.units + 1 < cLine) (ha : EP' X cl W a ta) (hb : EP' X cl W b tb) (hm : behindInMarks .NotIn b = false := by rfl) : EE X cl W (.Compare a [.NotIn] [b] pos) (ev2 (fIn true) ta tb) :=
  ee_alt2 (ee_cmp (op_notIn_str.or op_notIn_seq) (PrimOk.alt2 (pr_ss0 fun _ _ => trivial) pr_in) ha hb hm) (ee_2 (fun h1 h2 => pe_cmp (pc_dnotin hu h1 h2) hm) pr_din ha hb)
@[simp] def fIx : List D → Option OD := alt pIx pDIx
theorem ee_item (hu : X.A.units + 1 < cLine) (ha : EP' X cl W a ta) (hb : EP' X cl W b tb) (hs : PlainIx b := by exact fun _ _ => rfl) : EE X cl W (.Subscript a b pos) (ev2 fIx ta tb) :=
  ee_alt2 (ee_ix ix_seq pr_ix ha hb hs) (ee_2 (fun h1 h2 => pe_dget hu h1 h2 hs) pr_dix ha hb)
/-! ### built-in calls -/
theorem ee_callB {f : List D → Option OD} {R : List V → Hp → VK → Prop} {id : String} {x : Str} {p : Pos} {es : List Expr} {ts : Rho → Res (List Opd)} (hc : CallR X (.builtin id) R) (pr : PrimOk X.K cl f R) (hg : Gl X x) (hm : X.mg x = none) (hv : bootBuiltins x = some (.builtin id)) (ha : EA X cl W (a :: es) ts) (hn : x ≠ "__name__" := by decide) (hdb : (x == ("__debug__" : Str)) = false := by decide)
    (he : starEach (a :: es) X.env = (false, eval a X.env) :: starEach es X.env := by rfl) (hpl : (backTo pos (starEach es X.env)).any (·.1) = false := by rfl) : EE X cl W (.Call (.Name x p) (a :: es) [] pos) (evN f ts) :=
  ee_n (fun h => pe_callB hc hg hm hv h hn hdb he hpl) pr ha
theorem ee_callTy {f : List D → Option OD} {R : List V → Hp → VK → Prop} {T : String} {x : Str} {p : Pos} {es : List Expr} {ts : Rho → Res (List Opd)} (hc : CallR X (.type T) R) (pr : PrimOk X.K cl f R) (hg : Gl X x) (hm : X.mg x = none) (hv : bootBuiltins x = some (.type T)) (ha : EA X cl W (a :: es) ts) (hn : x ≠ "__name__" := by decide) (hdb : (x == ("__debug__" : Str)) = false := by decide)
    (he : starEach (a :: es) X.env = (false, eval a X.env) :: starEach es X.env := by rfl) (hpl : (backTo pos (starEach es X.env)).any (·.1) = false := by rfl) : EE X cl W (.Call (.Name x p) (a :: es) [] pos) (evN f ts) :=
  ee_n (fun h => pe_callTy hc hg hm hv h hn hdb he hpl) pr ha
end
end DL
/-! DL10: built-in calls, slices, displays, what changes an own object. -/
namespace DL
open PySem L2

section
variable {K : PySem.W.Frag} {cl : Nat → Addr} {F F' H H' : Hp} {Q : VK}
/-! ### len, list, tuple, isinstance, max, min, str -/
@[simp] def pLen : List D → Option OD
  | [.lst ds] => some (.fz (.v (.int ds.length)))
  | [.tup ds] => some (.fz (.v (.int ds.length)))
  | [.v (.str z)] => if decide (z.length ≤ 16777216) = true then some (.fz (.v (.int z.length))) else none
  | [.dic kvs] => some (.fz (.v (.int kvs.length)))
  | _ => none
theorem repK_length : ∀ {ds : List (Key × D)} {vs : List (Key × V)}, RepK K cl F ds vs → vs.length = ds.length
  | [], vs, h => by rw [show vs = [] from h]; rfl
  | (k, d) :: ds, vs, ⟨u, us, e, _, q⟩ => by rw [e, List.length_cons, List.length_cons, repK_length q]
@[simp] def pListOf : List D → Option OD
  | [.lst ds] => some (.lst (fzs ds))
  | [.tup ds] => some (.lst (fzs ds))
  | _ => none
theorem pr_listOf : PrimOk K cl pListOf (fun xs H Q => ∃ p ys, xs = [.ref p] ∧ (SqL K H p ys ∨ SqT K H p ys) ∧ ∀ l, H l = none → Q (.ref l) (upd H l (.lst ys))) := fun F H ds vs o Q sb r e q => by
  unfold pListOf at e
  split at e
  · cases e
    obtain ⟨x, rfl, a, us, rfl, hq, rr⟩ := reps1 r
    exact ⟨a, us, rfl, .inl (sb_sqL sb hq), vq_lst rr sb q⟩
  · cases e
    obtain ⟨x, rfl, a, us, rfl, hq, rr⟩ := reps1 r
    exact ⟨a, us, rfl, .inr (sb_sqT sb hq), vq_lst rr sb q⟩
  · cases e
@[simp] def pTupOf : List D → Option OD
  | [.lst ds] => some (.fz (.tup ds))
  | [.tup ds] => some (.fz (.tup ds))
  | _ => none
theorem pr_tupOf : PrimOk K cl pTupOf (fun xs H Q => ∃ p ys, xs = [.ref p] ∧ ((SqL K H p ys ∧ ∀ l, H l = none → Q (.ref l) (upd H l (.tup ys))) ∨ (SqT K H p ys ∧ Q (.ref p) H))) := fun F H ds vs o Q sb r e q => by
  unfold pTupOf at e
  split at e
  · cases e
    obtain ⟨x, rfl, a, us, rfl, hq, rr⟩ := reps1 r
    exact ⟨a, us, rfl, .inl ⟨sb_sqL sb hq, vq_tup rr sb q⟩⟩
  · cases e
    obtain ⟨x, rfl, a, us, rfl, hq, rr⟩ := reps1 r
    exact ⟨a, us, rfl, .inr ⟨sb_sqT sb hq, vq_d (d := .tup _) ⟨a, us, rfl, hq, rr⟩ sb q⟩⟩
  · cases e
@[simp] def tyName : D → Option String
  | .v .non => some "NoneType"
  | .v (.bl _) => some "bool"
  | .v (.int _) => some "int"
  | .v (.str _) => some "str"
  | .lst _ => some "list"
  | .tup _ => some "tuple"
  | .dic _ => some "dict"
  | _ => none
def isiB (a b : String) : Option Bool := if a == b then some true else if a == "bool" && b == "int" then some true else
  if (b == "bool" || b == "int" || b == "str" || b == "list" || b == "tuple" || b == "dict") then some false else none
@[simp] def pIsi : List D → Option OD
  | [d, .v (.ty T)] => match tyName d with
    | some a => (kitB a T).map fun b => .fz (.v (.bl b))
    | none => none
  | _ => none
theorem ty_list {a : Addr} {xs : List V} (h : SqL K H a xs) : TyX K H (.ref a) (.type "list") := by
  rcases h with (h | ⟨o, h⟩) | ⟨o, its, n, h1, h2, h3, _⟩
  · exact .base (.lst h)
  · exact .base (.frz h)
  · exact .kList h1 h2
theorem ty_tup {a : Addr} {xs : List V} (h : SqT K H a xs) : TyX K H (.ref a) (.type "tuple") := by
  rcases h with (h | ⟨o, h⟩) | ⟨o, its, n, h1, h2, h3, _⟩
  · exact .base (.tup h)
  · exact .fTuple h
  · exact .kTuple h1 h2
theorem ty_dict {a : Addr} {xs : List (Key × V)} (h : Rd H a (.dK xs)) : TyX K H (.ref a) (.type "dict") := by
  rcases h with h | ⟨o, h⟩
  · exact .base (.dK h)
  · exact .fDict h
theorem tyName_ok {d : D} {a : String} {v : V} (sb : Sb F H) (e : tyName d = some a) (r : Rep K cl F d v) : TyX K H v (.type a) := by
  unfold tyName at e
  split at e
  · cases e; rw [r.1]; exact .base .non
  · cases e; rw [r.1]; exact .base (.bl _)
  · cases e; rw [r.1]; exact .base (.int _)
  · cases e; rw [r.1]; exact .base (.str _)
  · cases e; obtain ⟨a, vs, rfl, q, _⟩ := r; exact ty_list (sb_sqL sb q)
  · cases e; obtain ⟨a, vs, rfl, q, _⟩ := r; exact ty_tup (sb_sqT sb q)
  · cases e; obtain ⟨a, vs, rfl, q, _⟩ := r; exact ty_dict (sb _ _ q).1
  · cases e
theorem pIsi_some {ds : List D} {o : OD} (h : pIsi ds = some o) : ∃ d T a b, ds = [d, .v (.ty T)] ∧ tyName d = some a ∧ kitB a T = some b ∧ o = .fz (.v (.bl b)) := by
  match ds, h with
  | [d, .v (.ty T)], h =>
    unfold pIsi at h
    dsimp only at h
    cases ea : tyName d with
    | none => rw [ea] at h; cases h
    | some a =>
      rw [ea] at h
      dsimp only at h
      cases ek : kitB a T with
      | none => rw [ek] at h; cases h
      | some b => rw [ek] at h; cases h; exact ⟨d, T, a, b, rfl, ea, ek, rfl⟩
theorem pr_isi : PrimOk K cl pIsi (rIsi K) := fun F H ds vs o Q sb r e q => by
  obtain ⟨d, T, a, b, rfl, ea, ek, rfl⟩ := pIsi_some e
  obtain ⟨x, y, rfl, rx, ry⟩ := reps2 r
  exact ⟨x, y, _, _, b, rfl, by rw [ry.1]; exact .ty T, tyName_ok sb ea rx, kit_ty ek, vq_v trivial sb q⟩
@[simp] def pMax : List D → Option OD
  | [.v (.int a), .v (.int b)] => some (.fz (.v (.int (if b > a then b else a))))
  | _ => none
@[simp] def pMin : List D → Option OD
  | [.v (.int a), .v (.int b)] => some (.fz (.v (.int (if b < a then b else a))))
  | _ => none
theorem pr_max : PrimOk K cl pMax (fun xs H Q => ∃ i j, xs = [.int i, .int j] ∧ Q (.int (if j > i then j else i)) H) := fun F H ds vs o Q sb r e q => by
  unfold pMax at e
  split at e
  · cases e
    obtain ⟨x, y, rfl, rx, ry⟩ := reps2 r
    exact ⟨_, _, by rw [rx.1, ry.1], vq_v trivial sb q⟩
  · cases e
theorem pr_min : PrimOk K cl pMin (fun xs H Q => ∃ i j, xs = [.int i, .int j] ∧ Q (.int (if j < i then j else i)) H) := fun F H ds vs o Q sb r e q => by
  unfold pMin at e
  split at e
  · cases e
    obtain ⟨x, y, rfl, rx, ry⟩ := reps2 r
    exact ⟨_, _, by rw [rx.1, ry.1], vq_v trivial sb q⟩
  · cases e
/-- int(n), int(flag) -/
@[simp] def pInt : List D → Option OD
  | [.v (.int a)] => some (.fz (.v (.int a)))
  | [.v (.bl k)] => some (.fz (.v (.int (if k then 1 else 0))))
  | _ => none
theorem pr_int : PrimOk K cl pInt (fun xs H Q => (∃ i, xs = [.int i] ∧ Q (.int i) H) ∨ ∃ k, xs = [.bl k] ∧ Q (.int (if k then 1 else 0)) H) := fun F H ds vs o Q sb r e q => by
  unfold pInt at e
  split at e
  · cases e
    obtain ⟨x, rfl, rx⟩ := reps1 r
    exact .inl ⟨_, by rw [rx.1], vq_v trivial sb q⟩
  · cases e
    obtain ⟨x, rfl, rx⟩ := reps1 r
    exact .inr ⟨_, by rw [rx.1], vq_v trivial sb q⟩
  · cases e
@[simp] def pNeg : List D → Option OD
  | [.v (.int a)] => some (.fz (.v (.int (-a))))
  | _ => none
theorem pr_neg : PrimOk K cl pNeg (fun vs H Q => ∃ x, vs = [x] ∧ (rU fun i => .int (-i)) x H Q) := fun F H ds vs o Q sb r e q => by
  unfold pNeg at e
  split at e
  · cases e
    obtain ⟨x, rfl, rx⟩ := reps1 r
    exact ⟨x, rfl, _, rx.1, vq_v trivial sb q⟩
  · cases e
/-- all(xs), any(xs) of truths -/
@[simp] def bools : List D → Option (List Bool)
  | [] => some []
  | .v (.bl b) :: ds => match bools ds with
    | some bs => some (b :: bs)
    | none => none
  | _ :: _ => none
theorem bools_rep : ∀ {ds : List D} {bs : List Bool} {vs : List V}, bools ds = some bs → Reps K cl F ds vs → vs = bs.map V.bl
  | [], bs, vs, e, r => by cases e; exact r
  | .v (.bl b) :: ds, bs, vs, e, ⟨u, us, ev, r, q⟩ => by
    unfold bools at e
    cases e1 : bools ds with
    | none => rw [e1] at e; cases e
    | some bs' => rw [e1] at e; cases e; rw [ev, r.1, bools_rep e1 q]; rfl
  | .tup _ :: _, _, _, e, _ => by cases e
  | .lst _ :: _, _, _, e, _ => by cases e
  | .dic _ :: _, _, _, e, _ => by cases e
  | .dct _ :: _, _, _, e, _ => by cases e
  | .ins _ _ :: _, _, _, e, _ => by cases e
  | .v .non :: _, _, _, e, _ => by cases e
  | .v (.int _) :: _, _, _, e, _ => by cases e
  | .v (.str _) :: _, _, _, e, _ => by cases e
  | .v (.byt _) :: _, _, _, e, _ => by cases e
  | .v (.flt _) :: _, _, _, e, _ => by cases e
  | .v (.ref _) :: _, _, _, e, _ => by cases e
  | .v (.ty _) :: _, _, _, e, _ => by cases e
@[simp] def pAll : List D → Option OD
  | [.lst ds] => match bools ds with
    | some bs => some (.fz (.v (.bl (bs.all id))))
    | none => none
  | _ => none
@[simp] def pAny : List D → Option OD
  | [.lst ds] => match bools ds with
    | some bs => some (.fz (.v (.bl (bs.any id))))
    | none => none
  | _ => none
end

section
variable {X : Cx} {cl : Nat → Addr} {W : WX} {e a b : Expr} {es : List Expr} {ts : Rho → Res (List Opd)} {ta tb : Rho → Res Opd} {pos p : Pos}
theorem pr_lenS {K : PySem.W.Frag} : PrimOk K cl pLen (fun xs H Q => (∃ p ys, xs = [.ref p] ∧ (SqL K H p ys ∨ SqT K H p ys) ∧ Q (.int ys.length) H) ∨ (∃ z, xs = [.str z] ∧ z.length ≤ sizeLine ∧ Q (.int z.length) H) ∨ ∃ d kvs, xs = [.ref d] ∧ Rd H d (.dK kvs) ∧ Q (.int (kvs.length : Nat)) H) := fun F H ds vs o Q sb r e q => by
  unfold pLen at e
  split at e
  · cases e
    obtain ⟨x, rfl, a, us, rfl, hq, rr⟩ := reps1 r
    refine .inl ⟨a, us, rfl, .inl (sb_sqL sb hq), ?_⟩
    rw [reps_length rr]
    exact vq_v trivial sb q
  · cases e
    obtain ⟨x, rfl, a, us, rfl, hq, rr⟩ := reps1 r
    refine .inl ⟨a, us, rfl, .inr (sb_sqT sb hq), ?_⟩
    rw [reps_length rr]
    exact vq_v trivial sb q
  · split at e
    · rename_i hz
      cases e
      obtain ⟨x, rfl, rx⟩ := reps1 r
      exact .inr (.inl ⟨_, by rw [rx.1], sz hz, vq_v trivial sb q⟩)
    · cases e
  · cases e
    obtain ⟨x, rfl, a, us, rfl, hq, rr⟩ := reps1 r
    refine .inr (.inr ⟨a, us, rfl, (sb _ _ hq).1, ?_⟩)
    rw [repK_length rr]
    exact vq_v trivial sb q
  · cases e
theorem call_lenRd : CallR X (.builtin "len") (fun xs H Q => ∃ d kvs, xs = [.ref d] ∧ Rd H d (.dK kvs) ∧ Q (.int (kvs.length : Nat)) H) := by
  intro pins s σ H xs us Q I r h
  obtain ⟨d, kvs, rfl, hd, q⟩ := h
  obtain ⟨u, rfl, ru⟩ := vals1 r
  cases (show u = Value.ref d from ru)
  exact d_len I hd fun t s' I' => ⟨.int (kvs.length : Nat), H, I', ⟨t, rfl⟩, q⟩
theorem ee_len (hg : Gl X "len") (hm : X.mg "len" = none) (ha : EA X cl W [a] ts) (he : starEach [a] X.env = (false, eval a X.env) :: starEach [] X.env := by rfl) : EE X cl W (.Call (.Name "len" p) [a] [] pos) (evN pLen ts) :=
  ee_callB (call_len_seq.or (call_len_str.or call_lenRd)) pr_lenS hg hm PySem.boot_len ha (by decide) (by decide) he rfl
theorem ee_list (hg : Gl X "list") (hm : X.mg "list" = none) (ha : EA X cl W [a] ts) (he : starEach [a] X.env = (false, eval a X.env) :: starEach [] X.env := by rfl) : EE X cl W (.Call (.Name "list" p) [a] [] pos) (evN pListOf ts) :=
  ee_callTy call_list_of pr_listOf hg hm (by decide +kernel) ha (by decide) (by decide) he rfl
theorem ee_tuple (hg : Gl X "tuple") (hm : X.mg "tuple" = none) (ha : EA X cl W [a] ts) (he : starEach [a] X.env = (false, eval a X.env) :: starEach [] X.env := by rfl) : EE X cl W (.Call (.Name "tuple" p) [a] [] pos) (evN pTupOf ts) :=
  ee_callTy call_tuple_of pr_tupOf hg hm (by decide +kernel) ha (by decide) (by decide) he rfl
theorem ee_toInt (hg : Gl X "int") (hm : X.mg "int" = none) (ha : EA X cl W [a] ts) (he : starEach [a] X.env = (false, eval a X.env) :: starEach [] X.env := by rfl) : EE X cl W (.Call (.Name "int" p) [a] [] pos) (evN pInt ts) :=
  ee_callTy call_int1 pr_int hg hm (by decide +kernel) ha (by decide) (by decide) he rfl
theorem ee_isi (hg : Gl X "isinstance") (hm : X.mg "isinstance" = none) (ha : EA X cl W [a, b] ts) (he : starEach [a, b] X.env = (false, eval a X.env) :: starEach [b] X.env := by rfl) (hpl : (backTo pos (starEach [b] X.env)).any (·.1) = false := by rfl) : EE X cl W (.Call (.Name "isinstance" p) [a, b] [] pos) (evN pIsi ts) :=
  ee_callB call_isi pr_isi hg hm (by decide +kernel) ha (by decide) (by decide) he hpl
theorem ee_max (hc : X.calm = true) (hg : Gl X "max") (hm : X.mg "max" = none) (ha : EA X cl W [a, b] ts) (he : starEach [a, b] X.env = (false, eval a X.env) :: starEach [b] X.env := by rfl) (hpl : (backTo pos (starEach [b] X.env)).any (·.1) = false := by rfl) : EE X cl W (.Call (.Name "max" p) [a, b] [] pos) (evN pMax ts) :=
  ee_callB (call_max2 hc) pr_max hg hm (by decide +kernel) ha (by decide) (by decide) he hpl
theorem ee_min (hc : X.calm = true) (hg : Gl X "min") (hm : X.mg "min" = none) (ha : EA X cl W [a, b] ts) (he : starEach [a, b] X.env = (false, eval a X.env) :: starEach [b] X.env := by rfl) (hpl : (backTo pos (starEach [b] X.env)).any (·.1) = false := by rfl) : EE X cl W (.Call (.Name "min" p) [a, b] [] pos) (evN pMin ts) :=
  ee_callB (call_min2 hc) pr_min hg hm (by decide +kernel) ha (by decide) (by decide) he hpl
theorem ee_neg (ha : EP' X cl W a ta) : EE X cl W (.UnaryOp .USub a pos) (ev1 pNeg ta) := ee_un un_neg pr_neg ha
theorem ee_op' {op : Operator} {f : List D → Option OD} (h : ∃ r, OpR X (binaryOp op) r ∧ PrimOk X.K cl f (R2L r)) (ha : EP' X cl W a ta) (hb : EP' X cl W b tb) : EE X cl W (.BinOp a op b pos) (ev2 f ta tb) :=
  let ⟨_, h1, h2⟩ := h; ee_op h1 h2 ha hb
theorem ee_cmp' {op : CmpOp} {f : List D → Option OD} (h : ∃ r, OpR X (compareOp op) r ∧ PrimOk X.K cl f (R2L r)) (ha : EP' X cl W a ta) (hb : EP' X cl W b tb) (hm : behindInMarks op b = false := by rfl) : EE X cl W (.Compare a [op] [b] pos) (ev2 f ta tb) :=
  let ⟨_, h1, h2⟩ := h; ee_cmp h1 h2 ha hb hm
/-! ### displays -/
@[simp] def evTup : List D → Option OD := fun ds => if decide (ds.length ≤ 16777216) = true then some (.fz (.tup ds)) else none
@[simp] def evLst : List D → Option OD := fun ds => if decide (ds.length ≤ 16777216) = true then some (.lst (fzs ds)) else none
theorem ee_tup {x1} (h : EA X cl W es ts) : EE X cl W (.Tuple es x1 pos) (evN evTup ts) :=
  ee_n (R := fun xs H1 Q => xs.length ≤ sizeLine ∧ ∀ p, H1 p = none → Q (.ref p) (upd H1 p (.tup xs))) (fun h => pe_tup h) (fun F H ds vs o Q sb r e q => by
    unfold evTup at e
    split at e
    · rename_i hz
      cases e
      exact ⟨by rw [reps_length r]; exact sz hz, vq_tup r sb q⟩
    · cases e) h
theorem ee_lst (h : EA X cl W es ts) : EE X cl W (.List es pos) (evN evLst ts) :=
  ee_n (R := fun xs H1 Q => xs.length ≤ sizeLine ∧ ∀ p, H1 p = none → Q (.ref p) (upd H1 p (.lst xs))) (fun h => pe_lst h) (fun F H ds vs o Q sb r e q => by
    unfold evLst at e
    split at e
    · rename_i hz
      cases e
      exact ⟨by rw [reps_length r]; exact sz hz, vq_lst r sb q⟩
    · cases e) h
@[simp] def evNewK : Rho → Res OV := fun ρ => .ok (.o (.dic [])) ρ
theorem ee_newK : EE X cl W (.Dict [] [] pos) evNewK := PE.imp pe_dnewK fun σ H Q ⟨F, ρ, A, s, q⟩ => fun p hp =>
  vq_own (K := X.K) (cl := cl) (o := .dic []) hp s.sub ⟨p, [], [], rfl, rfl, sb_none s.sub hp, upd_same, rfl, rfl⟩ fun v F' H' B r nd sb g => q v F' H' A B (s.new sb g) ⟨fun b o e _ => g.keep b o e id, g.ff, fun b e _ => g.new b e id, fun b z => z.elim .inl fun z => (g.ow b z).elim (fun z => z.elim) .inr⟩ r nd fun b hb ⟨i, hi⟩ => by
    have h1 := (s.at_ ⟨i, hi⟩).2
    rcases g.ow b hb with z | z
    · exact z
    · rw [z] at h1; exact h1
/-! ### slices -/
@[simp] def evPart : Option (Rho → Res Opd) → Rho → Res (Option Int)
  | none, ρ => .ok none ρ
  | some t, ρ => match t ρ with
    | .ok (.d (.v (.int i))) ρ1 => .ok (some i) ρ1
    | .err x ρ1 => .err x ρ1
    | _ => .bad
def LO (K : PySem.W.Frag) (cl : Nat → Addr) (W : WX) (t : Rho → Res (Option Int)) : TO := fun σ H Q => ∃ F ρ A, Sto K cl F H σ ρ A ∧ match t ρ with
  | .ok b ρ' => ∀ F' H' A', Sto K cl F' H' σ ρ' A' → Gr (ownd A) (ownd A') F H F' H' → Q b H'
  | .err x ρ' => ErrQ K cl W (ownd A) F H σ x ρ'
  | .bad => False
def EO (X : Cx) (cl : Nat → Addr) (W : WX) (e : Option Expr) (t : Rho → Res (Option Int)) : Prop := PO X e (LO X.K cl W t)
theorem PO.imp {e : Option Expr} {t t' : TO} (h : PO X e t) (i : ∀ σ H Q, t' σ H Q → t σ H Q) : PO X e t' := ⟨fun pins s σ H Q I q => h.run pins s σ H Q I (i _ _ _ q)⟩
theorem eo_none : EO X cl W none (evPart none) := PO.imp po_none fun σ H Q ⟨F, ρ, A, s, q⟩ => q F H A s Gr.refl
theorem eo_some (h : EP' X cl W a ta) : EO X cl W (some a) (evPart (some ta)) := PO.imp (po_some h) fun σ H Q ⟨F, ρ, A, s, q⟩ => ⟨F, ρ, A, s, by
  unfold evPart at q
  dsimp only at q
  cases e : ta ρ with
  | bad => rw [e] at q; exact q
  | err x ρ' => rw [e] at q; exact q
  | ok o ρ1 =>
    rw [e] at q
    intro v F1 H1 A1 s1 g1 p1
    split at q
    · rename_i b ρ2 e2
      split at e2
      · rename_i i ρ3 e3
        cases e3
        cases e2
        exact ⟨i, p1.1, q F1 H1 A1 s1 g1⟩
      · rename_i e3; cases e3
      · cases e2
    · rename_i e2
      split at e2
      · cases e2
      · rename_i e3; cases e3
      · cases e2
    · exact q.elim⟩
/-- the slice's step -/
@[simp] def evSl (f : Option Int → Option Int → List D → Option OD) (t : Rho → Res Opd) (lo hi : Rho → Res (Option Int)) : Rho → Res OV := fun ρ => (t ρ).bind fun x ρ1 => (lo ρ1).bind fun l ρ2 => (hi ρ2).bind fun u ρ3 => fin (f l u) [x] ρ3
@[simp] def fSl (lo hi : Option Int) : List D → Option OD
  | [.lst ds] => some (.lst (fzs ((ds.drop (HT.sIx ds.length 0 lo)).take (HT.sIx ds.length ds.length hi - HT.sIx ds.length 0 lo))))
  | [.tup ds] => some (.fz (.tup ((ds.drop (HT.sIx ds.length 0 lo)).take (HT.sIx ds.length ds.length hi - HT.sIx ds.length 0 lo))))
  | [.v (.str z)] => if decide (z.length ≤ 16777216) = true then some (.fz (.v (.str (cutS z lo hi)))) else none
  | _ => none
theorem reps_drop {K : PySem.W.Frag} {F : Hp} : ∀ (n : Nat) {ds : List D} {vs : List V}, Reps K cl F ds vs → Reps K cl F (ds.drop n) (vs.drop n)
  | 0, _, _, h => h
  | n + 1, [], vs, h => by rw [show vs = [] from h]; rfl
  | n + 1, d :: ds, vs, ⟨u, us, e, _, q⟩ => by rw [e]; exact reps_drop n q
theorem reps_take {K : PySem.W.Frag} {F : Hp} : ∀ (n : Nat) {ds : List D} {vs : List V}, Reps K cl F ds vs → Reps K cl F (ds.take n) (vs.take n)
  | 0, _, _, h => rfl
  | n + 1, [], vs, h => by rw [show vs = [] from h]; rfl
  | n + 1, d :: ds, vs, ⟨u, us, e, r, q⟩ => by rw [e]; exact ⟨u, us.take n, rfl, r, reps_take n q⟩
theorem reps_cut {K : PySem.W.Frag} {F : Hp} {ds : List D} {vs : List V} {lo hi : Option Int} (h : Reps K cl F ds vs) : Reps K cl F ((ds.drop (HT.sIx ds.length 0 lo)).take (HT.sIx ds.length ds.length hi - HT.sIx ds.length 0 lo)) (cutV vs lo hi) := by
  unfold cutV
  rw [reps_length h]
  exact reps_take _ (reps_drop _ h)
abbrev rSl3 (K : PySem.W.Frag) : V → Option Int → Option Int → Hp → VK → Prop := fun x lo hi H Q => rSlL K x lo hi H Q ∨ rSlA K x lo hi H Q ∨ rSlS x lo hi H Q
theorem pr_sl {K : PySem.W.Frag} {lo hi : Option Int} : PrimOk K cl (fSl lo hi) (fun vs H Q => ∃ x, vs = [x] ∧ rSl3 K x lo hi H Q) := fun F H ds vs o Q sb r e q => by
  unfold fSl at e
  split at e
  · cases e
    obtain ⟨x, rfl, a, us, ex, hq, rr⟩ := reps1 r
    exact ⟨x, rfl, .inl ⟨a, us, ex, sb_sqL sb hq, vq_lst (reps_cut rr) sb q⟩⟩
  · rename_i es
    cases e
    obtain ⟨x, rfl, a, us, ex, hq, rr⟩ := reps1 r
    refine ⟨x, rfl, .inr (.inl ⟨a, us, ex, sb_sqT sb hq, fun ⟨h1, h2⟩ => ?_, fun _ => vq_tup (reps_cut rr) sb q⟩)⟩
    rw [reps_length rr] at h1 h2
    rw [h1, h2, List.drop_zero, Nat.sub_zero, List.take_length] at q
    rw [← ex]
    exact vq_d (d := .tup es) ⟨a, us, ex, hq, rr⟩ sb q
  · split at e
    · rename_i hz
      cases e
      obtain ⟨x, rfl, rx⟩ := reps1 r
      exact ⟨x, rfl, .inr (.inr ⟨_, rx.1, sz hz, vq_v trivial sb q⟩)⟩
    · cases e
  · cases e
theorem ee_slice {lo hi : Option Expr} {p2 : Pos} {tl th : Rho → Res (Option Int)} (ha : EP' X cl W a ta) (hl : EO X cl W lo tl) (hh : EO X cl W hi th) : EE X cl W (.Subscript a (.Slice lo hi none p2) pos) (evSl fSl ta tl th) := by
  refine PE.imp (pe_slice (sl_list.or (sl_tupA.or sl_str)) ha hl hh) fun σ H Q ⟨F, ρ, A, s, q⟩ => ⟨F, ρ, A, s, ?_⟩
  unfold evSl at q
  cases e1 : ta ρ with
  | bad => rw [e1] at q; exact q
  | err x ρ' => rw [e1] at q; exact q
  | ok x ρ1 =>
    rw [e1] at q
    intro v F1 H1 A1 s1 g1 p1
    refine ⟨F1, ρ1, A1, s1, ?_⟩
    dsimp only [Res.bind] at q
    cases e2 : tl ρ1 with
    | bad => rw [e2] at q; exact q
    | err x ρ' => rw [e2] at q; exact ErrQ.pre q g1
    | ok l ρ2 =>
      rw [e2] at q
      intro F2 H2 A2 s2 g2
      refine ⟨F2, ρ2, A2, s2, ?_⟩
      dsimp only at q
      cases e3 : th ρ2 with
      | bad => rw [e3] at q; exact q
      | err x ρ' => rw [e3] at q; exact ErrQ.pre q (g1.trans g2)
      | ok u ρ3 =>
        rw [e3] at q
        intro F3 H3 A3 s3 g3
        obtain ⟨_, e, h⟩ := fin_end pr_sl s3 ((g1.trans g2).trans g3) (qs := [x]) (vs := [v]) ⟨v, _, rfl, p1.mono (g2.ff.trans g3.ff), rfl⟩ q
        cases e
        exact h
end
end DL
/-! DL11: what changes an own object. -/
namespace DL
open PySem L2

section
variable {K : PySem.W.Frag} {cl : Nat → Addr} {F F' H H' : Hp} {σ : L2.St} {ρ : Rho} {A : Nat → List Addr}
theorem ne_mem {a p : Addr} {B : List Addr} (ha : a ∈ B) (n : p ∉ B) : a ≠ p := fun z => n (z ▸ ha)
theorem rho_set_self {i : Nat} (h : gt ρ i ≠ .gone) : ρ.set i (gt ρ i) = ρ := by
  have hi := gt_lt h
  apply List.ext_getElem?
  intro j
  by_cases e : j = i
  · subst e
    rw [List.getElem?_set_self hi]
    show some (ρ.getD j .gone) = ρ[j]?
    rw [List.getD_eq_getElem?_getD, List.getElem?_eq_getElem hi]
    rfl
  · rw [List.getElem?_set_ne (Ne.symm e)]
theorem sigma_set_self {i : Nat} {v : V} (h : σ[i]? = some (some v)) : σ.set i (some v) = σ := by
  apply List.ext_getElem?
  intro j
  by_cases e : j = i
  · subst e
    rw [List.getElem?_set_self (List.getElem?_eq_some_iff.mp h).1, h]
  · rw [List.getElem?_set_ne (Ne.symm e)]
/-- the object p of slot i is changed -/
theorem Sto.mut {i : Nat} {p : Addr} {B : List Addr} {ho : HO} {o' : OD} (s : Sto K cl F H σ ρ A) (hv : σ[i]? = some (some (.ref p))) (eA : A i = p :: B) (r : Own K cl F (upd H p ho) o' (.ref p) (p :: B)) :
    Sto K cl F (upd H p ho) σ (ρ.set i o') A ∧ Gr (ownd A) (ownd A) F H F (upd H p ho) := by
  have hp : ownd A p := ⟨i, by rw [eA]; exact List.mem_cons_self⟩
  have fp : F p = none := (s.at_ hp).1
  have hi : i < ρ.length := by rw [s.len]; exact (List.getElem?_eq_some_iff.mp hv).1
  refine ⟨⟨fun a x e => ?_, by rw [List.length_set]; exact s.len, fun j => ?_, s.dis, s.nd⟩, fun b o e n => ?_, Le.refl _, fun _ _ _ => rfl, fun b z => .inl z⟩
  · have ne : a ≠ p := ne_of_none e fp
    obtain ⟨h1, h2⟩ := s.sub a x e
    refine ⟨?_, fun q => by rw [upd_ne ne]; exact h2 q⟩
    rcases h1 with z | ⟨ob, z⟩
    · exact .inl (by rw [upd_ne ne]; exact z)
    · exact .inr ⟨ob, by rw [upd_ne ne]; exact z⟩
  · by_cases e : j = i
    · subst e
      rw [gt_set hi, eA]
      exact .mk hv r
    · rw [gt_ne e]
      refine (s.sl j).mono (Le.refl _) fun a ha => ⟨((s.sl j).at_ a ha).1, fun y hy => ?_⟩
      rw [upd_ne ?_]
      · exact hy
      · rintro rfl
        exact s.dis j i e a ha (by rw [eA]; exact List.mem_cons_self)
  · rw [upd_ne (fun z => n (by rw [z]; exact hp))]
    exact e
theorem owns_append {v : V} {d : D} : ∀ {os : List OD} {vs : List V} {B : List Addr}, Owns K cl F H os vs B → Rep K cl F d v → Owns K cl F H (os ++ [.fz d]) (vs ++ [v]) B
  | [], vs, B, ⟨e, eB⟩, r => by subst e eB; exact ⟨v, [], [], [], rfl, rfl, ⟨rfl, r⟩, rfl, rfl⟩
  | o :: os, vs, B, ⟨u, us, A1, A2, e, eB, h, q⟩, r => by subst e eB; exact ⟨u, us ++ [v], A1, A2, rfl, rfl, h, owns_append q r⟩
theorem owns_length : ∀ {os : List OD} {vs : List V} {B : List Addr}, Owns K cl F H os vs B → vs.length = os.length
  | [], vs, B, ⟨e, _⟩ => by rw [e]; rfl
  | o :: os, vs, B, ⟨u, us, A1, A2, e, _, _, q⟩ => by rw [e, List.length_cons, List.length_cons, owns_length q]
theorem owns_upd {p : Addr} {ho : HO} {os : List OD} {vs : List V} {B : List Addr} (h : Owns K cl F H os vs B) (n : p ∉ B) : Owns K cl F (upd H p ho) os vs B :=
  owns_mono (Le.refl _) os vs B (fun a ha => ⟨(owns_at os vs B h a ha).1, fun x hx => by rw [upd_ne (ne_mem ha n)]; exact hx⟩) h
theorem ownK_upd {p : Addr} {ho : HO} {os : List (Key × OD)} {vs : List (Key × V)} {B : List Addr} (h : OwnK K cl F H os vs B) (n : p ∉ B) : OwnK K cl F (upd H p ho) os vs B :=
  ownK_mono (Le.refl _) os vs B (fun a ha => ⟨(ownK_at os vs B h a ha).1, fun x hx => by rw [upd_ne (ne_mem ha n)]; exact hx⟩) h
theorem ownT_upd {p : Addr} {ho : HO} {os : List (List Key × OD)} {vs : List (List Key × V)} {B : List Addr} (h : OwnT K cl F H os vs B) (n : p ∉ B) : OwnT K cl F (upd H p ho) os vs B :=
  ownT_mono (Le.refl _) os vs B (fun a ha => ⟨(ownT_at os vs B h a ha).1, fun x hx => by rw [upd_ne (ne_mem ha n)]; exact hx⟩) h
theorem ownA_upd {p : Addr} {ho : HO} {os : List (Str × OD)} {vs : List (Str × V)} {B : List Addr} (h : OwnA K cl F H os vs B) (n : p ∉ B) : OwnA K cl F (upd H p ho) os vs B :=
  ownA_mono (Le.refl _) os vs B (fun a ha => ⟨(ownA_at os vs B h a ha).1, fun x hx => by rw [upd_ne (ne_mem ha n)]; exact hx⟩) h

/-- a change of one own object by a step: f gives what it is then, and the answer -/
def MutOk (K : PySem.W.Frag) (cl : Nat → Addr) (f : OD → List D → Option (OD × D)) (R : V → List V → Hp → VK → Prop) : Prop :=
  ∀ F H o p B ds vs o' d Q, Own K cl F H o (.ref p) (p :: B) → (p :: B).Nodup → Sb F H → Reps K cl F ds vs → f o ds = some (o', d) →
    (∀ ho v, Own K cl F (upd H p ho) o' (.ref p) (p :: B) → Rep K cl F d v → Q v (upd H p ho)) → R (.ref p) vs H Q

@[simp] def mAppend : OD → List D → Option (OD × D)
  | .lst os, [d] => if decide (os.length < 16777216) = true then some (.lst (os ++ [.fz d]), .v .non) else none
  | _, _ => none
theorem rep_non : Rep K cl F (.v .non) .non := ⟨rfl, trivial⟩
theorem mu_append : MutOk K cl mAppend rAppend := fun F H o p B ds vs o' d Q r nd sb rr e q => by
  match o, ds, e with
  | .lst os, [d'], e =>
    unfold mAppend at e
    dsimp only at e
    split at e
    · rename_i hz
      cases e
      obtain ⟨p', us, B', e1, e2, f, h, w⟩ := r
      cases e1
      cases e2
      obtain ⟨y, rfl, ry⟩ := reps1 rr
      refine ⟨p, us, y, rfl, rfl, h, by rw [owns_length w, sizeLine_eq]; exact of_decide_eq_true hz, q _ _ ⟨p, _, B, rfl, rfl, f, upd_same, ?_⟩ rep_non⟩
      exact owns_append (owns_upd w (List.nodup_cons.mp nd).1) ry
    · cases e
/-- only frozen data within -/
@[simp] def allFz : List OD → Option (List D)
  | [] => some []
  | .fz d :: os => match allFz os with
    | some ds => some (d :: ds)
    | none => none
  | _ :: _ => none
@[simp] theorem allFz_fzs : ∀ {ds : List D}, allFz (fzs ds) = some ds
  | [] => rfl
  | d :: ds => by rw [fzs_cons]; unfold allFz; rw [allFz_fzs]
theorem allFz_owns : ∀ {os : List OD} {ds : List D} {vs : List V} {B : List Addr}, allFz os = some ds → Owns K cl F H os vs B → Reps K cl F ds vs ∧ B = []
  | [], ds, vs, B, e, ⟨ev, eB⟩ => by cases e; exact ⟨ev, eB⟩
  | .fz d :: os, ds, vs, B, e, ⟨u, us, A1, A2, ev, eB, ⟨eA, r⟩, q⟩ => by
    unfold allFz at e
    cases e1 : allFz os with
    | none => rw [e1] at e; cases e
    | some ds' =>
      rw [e1] at e
      cases e
      obtain ⟨h1, h2⟩ := allFz_owns e1 q
      exact ⟨⟨u, us, ev, r, h1⟩, by rw [eB, eA, h2]; rfl⟩
  | .gone :: _, _, _, _, e, _ => by cases e
  | .tup _ :: _, _, _, _, e, _ => by cases e
  | .lst _ :: _, _, _, _, e, _ => by cases e
  | .dic _ :: _, _, _, _, e, _ => by cases e
  | .dct _ :: _, _, _, _, e, _ => by cases e
  | .ins _ _ :: _, _, _, _, e, _ => by cases e
/-- steps on lists of frozen items -/
@[simp] def mLst (g : List D → List D → Option (List D × D)) : OD → List D → Option (OD × D)
  | .lst os, ds => match allFz os with
    | none => none
    | some xs => match g xs ds with
      | some (ys, d) => some (.lst (fzs ys), d)
      | none => none
  | _, _ => none
theorem mLst_some {g : List D → List D → Option (List D × D)} {o o' : OD} {ds : List D} {d : D} (h : mLst g o ds = some (o', d)) : ∃ os xs ys, o = .lst os ∧ allFz os = some xs ∧ g xs ds = some (ys, d) ∧ o' = .lst (fzs ys) := by
  match o, h with
  | .lst os, h =>
    unfold mLst at h
    dsimp only at h
    cases e1 : allFz os with
    | none => rw [e1] at h; cases h
    | some xs =>
      rw [e1] at h
      dsimp only at h
      cases e2 : g xs ds with
      | none => rw [e2] at h; cases h
      | some z =>
        obtain ⟨ys, d'⟩ := z
        rw [e2] at h
        cases h
        exact ⟨os, xs, ys, rfl, e1, e2, rfl⟩
theorem mu_lst {g : List D → List D → Option (List D × D)} {R : V → List V → Hp → VK → Prop}
    (h : ∀ F H p xs us ds vs ys d Q, H p = some (.lst us) → Reps K cl F xs us → Reps K cl F ds vs → Sb F H → g xs ds = some (ys, d) → (∀ us' v, Reps K cl F ys us' → Rep K cl F d v → Q v (upd H p (.lst us'))) → R (.ref p) vs H Q) : MutOk K cl (mLst g) R := fun F H o p B ds vs o' d Q r nd sb rr e q => by
  obtain ⟨os, xs, ys, rfl, e1, e2, rfl⟩ := mLst_some e
  obtain ⟨p', us, B', ep, eB, f, hh, w⟩ := r
  cases ep
  cases eB
  obtain ⟨w1, rfl⟩ := allFz_owns e1 w
  exact h F H p xs us ds vs ys d Q hh w1 rr sb e2 fun us' v r1 r2 => q _ _ ⟨p, us', [], rfl, rfl, f, upd_same, owns_fz r1⟩ r2
@[simp] def gInsert : List D → List D → Option (List D × D)
  | xs, [.v (.int i), d] => if (decide (xs.length < 16777216) && decide (0 ≤ i) && decide (i < 2 ^ 63)) = true then some (xs.take i.toNat ++ [d] ++ xs.drop i.toNat, .v .non) else none
  | _, _ => none
theorem mu_insert : MutOk K cl (mLst gInsert) (fun x vs H Q => ∃ (l : Addr) (xs : List V) (i : Int) (y : V), x = .ref l ∧ vs = [.int i, y] ∧ H l = some (.lst xs) ∧ xs.length < sizeLine ∧ 0 ≤ i ∧ i < 2 ^ 63 ∧
    Q .non (upd H l (.lst (xs.take i.toNat ++ [y] ++ xs.drop i.toNat)))) := mu_lst fun F H p xs us ds vs ys d Q hh w rr sb e q => by
  match ds, e with
  | [.v (.int i), d'], e =>
    unfold gInsert at e
    dsimp only at e
    split at e
    · rename_i hz
      cases e
      obtain ⟨h1, h3⟩ := Bool.and_eq_true_iff.mp hz
      obtain ⟨h1, h2⟩ := Bool.and_eq_true_iff.mp h1
      obtain ⟨x, y, rfl, rx, ry⟩ := reps2 rr
      exact ⟨p, us, i, y, rfl, by rw [rx.1], hh, by rw [reps_length w, sizeLine_eq]; exact of_decide_eq_true h1, of_decide_eq_true h2, of_decide_eq_true h3,
        q _ _ (reps_append (reps_append (reps_take _ w) ⟨y, [], rfl, ry, rfl⟩) (reps_drop _ w)) rep_non⟩
    · cases e
theorem reps_set : ∀ {xs : List D} {us : List V} {j : Nat} {d : D} {v : V}, Reps K cl F xs us → Rep K cl F d v → Reps K cl F (xs.set j d) (us.set j v)
  | [], us, _, _, _, h, _ => by rw [show us = [] from h]; rfl
  | x :: xs, _, 0, d, v, ⟨u, us, e, _, q⟩, r => by rw [e]; exact ⟨v, us, rfl, r, q⟩
  | x :: xs, _, j + 1, d, v, ⟨u, us, e, h, q⟩, r => by rw [e]; exact ⟨u, us.set j v, rfl, h, reps_set q r⟩
theorem reps_erase : ∀ {xs : List D} {us : List V} {j : Nat}, Reps K cl F xs us → Reps K cl F (xs.eraseIdx j) (us.eraseIdx j)
  | [], us, _, h => by rw [show us = [] from h]; rfl
  | x :: xs, _, 0, ⟨u, us, e, _, q⟩ => by rw [e]; exact q
  | x :: xs, _, j + 1, ⟨u, us, e, h, q⟩ => by rw [e]; exact ⟨u, us.eraseIdx j, rfl, h, reps_erase q⟩
/-- xs[i] = d -/
@[simp] def gSetIx : List D → List D → Option (List D × D)
  | xs, [.v (.int i), d] => match ixN xs.length i with
    | some j => some (xs.set j d, .v .non)
    | none => none
  | _, _ => none
@[simp] def gPopAt : List D → List D → Option (List D × D)
  | xs, [.v (.int i)] => if (decide (0 ≤ i) && decide (i < 2 ^ 62)) = true then (match xs[i.toNat]? with
    | some d => some (xs.eraseIdx i.toNat, d)
    | none => none) else none
  | xs, [] => match xs[xs.length - 1]? with
    | some d => some (xs.dropLast, d)
    | none => none
  | _, _ => none
@[simp] def gExtend : List D → List D → Option (List D × D)
  | xs, [.lst ys] => if decide (xs.length + ys.length ≤ 16777216) = true then some (xs ++ ys, .v .non) else none
  | _, _ => none
end

section
variable {X : Cx} {cl : Nat → Addr} {W : WX} {pn : List Nat} {e : Expr} {es : List Expr} {ts : Rho → Res (List Opd)} {ta tb : Rho → Res Opd} {pos p apos tpos : Pos}
@[simp] def allD : List Opd → Option (List D)
  | [] => some []
  | .d d :: qs => match allD qs with
    | some ds => some (d :: ds)
    | none => none
  | .b _ :: _ => none
theorem allD_reps {K : PySem.W.Frag} {F : Hp} {σ : L2.St} : ∀ {qs : List Opd} {ds : List D} {vs : List V}, allD qs = some ds → POks K cl F σ qs vs → Reps K cl F ds vs
  | [], ds, vs, e, h => by cases e; exact h
  | .d d :: qs, ds, vs, e, ⟨u, us, ev, p, h⟩ => by
    unfold allD at e
    cases e1 : allD qs with
    | none => rw [e1] at e; cases e
    | some ds' => rw [e1] at e; cases e; exact ⟨u, us, ev, p, allD_reps e1 h⟩
/-- a method that changes the own object of slot i; ok: what its object must be ahead of the arguments -/
@[simp] def evMut (i : Nat) (f : OD → List D → Option (OD × D)) (ts : Rho → Res (List Opd)) : Rho → Res OV := fun ρ => match gt ρ i with
  | .lst _ => (ts ρ).bind fun qs ρ1 => (match allD qs with
    | none => .bad
    | some ds => match f (gt ρ1 i) ds with
      | some (o', d) => .ok (.o (.fz d)) (ρ1.set i o')
      | none => .bad)
  | _ => .bad
theorem own_ref {K : PySem.W.Frag} {F H : Hp} {o : OD} {v : V} {B : List Addr} (r : Own K cl F H o v B) (h : ∃ os, o = .lst os) : ∃ p B', v = .ref p ∧ B = p :: B' := by
  obtain ⟨os, rfl⟩ := h
  obtain ⟨p, vs, B', e1, e2, _⟩ := r
  exact ⟨p, B', e1, e2⟩
/-- f only works on lists -/
def OnLst (f : OD → List D → Option (OD × D)) : Prop := ∀ o ds z, f o ds = some z → ∃ os, o = .lst os
theorem onL_append : OnLst mAppend := fun o ds z h => by
  unfold mAppend at h
  split at h
  · exact ⟨_, rfl⟩
  · cases h
theorem onL_lst {g : List D → List D → Option (List D × D)} : OnLst (mLst g) := fun o ds z h => by
  obtain ⟨o', d⟩ := z
  obtain ⟨os, _, _, e, _⟩ := mLst_some h
  exact ⟨os, e⟩
theorem ee_mut {p' : Expr} {i : Nat} {f : OD → List D → Option (OD × D)} {R : V → List V → Hp → VK → Prop} (hr : ∀ {to : TE} {ta : TA}, PE X e to → PA X es ta → PE X p' (tBM X.K "list" R to ta)) (he : PE X e (tVar i)) (mu : MutOk X.K cl f R) (hl : OnLst f) (ha : EA X cl W es ts) : EE X cl W p' (evMut i f ts) := by
  refine PE.imp (hr he ha) fun σ H Q ⟨F, ρ, A, s, q⟩ => ?_
  unfold evMut at q
  cases e0 : gt ρ i with
  | lst os =>
    rw [e0] at q
    obtain ⟨v, ev, r⟩ := (s.sl i).own (by rw [e0]; exact fun z => by cases z)
    rw [e0] at r
    obtain ⟨p, vs, B, e1, e2, f0, hh, w⟩ := r
    subst e1
    refine ⟨_, ev, .inl ⟨rfl, vs, .inl (.inl hh)⟩, F, ρ, A, s, ?_⟩
    dsimp only at q
    cases e3 : ts ρ with
    | bad => rw [e3] at q; exact q
    | err x ρ' => rw [e3] at q; exact q
    | ok qs ρ1 =>
      rw [e3] at q
      intro us F1 H1 A1 s1 g1 p1
      dsimp only [Res.bind] at q
      cases e4 : allD qs with
      | none => rw [e4] at q; exact q.elim
      | some ds =>
        rw [e4] at q
        dsimp only at q
        cases e5 : f (gt ρ1 i) ds with
        | none => rw [e5] at q; exact q.elim
        | some z =>
          obtain ⟨o', d⟩ := z
          rw [e5] at q
          obtain ⟨os1, e6⟩ := hl _ _ _ e5
          obtain ⟨v1, ev1, r1⟩ := (s1.sl i).own (by rw [e6]; exact fun z => by cases z)
          rw [ev] at ev1
          cases ev1
          have r1' := r1
          rw [e6] at r1'
          obtain ⟨p', vs1, B1, e7, e8, _⟩ := r1'
          cases e7
          refine mu F1 H1 (gt ρ1 i) p B1 ds us o' d Q (by rw [← e8]; exact r1) (by rw [← e8]; exact s1.nd i) s1.sub (allD_reps e4 p1) e5 fun ho v r2 r3 => ?_
          obtain ⟨s2, g2⟩ := s1.mut ev e8 r2
          exact q v F1 _ A1 [] s2 (gr1 (g1.trans g2)) ⟨rfl, r3⟩ List.nodup_nil fun b z => by cases z
  | gone => rw [e0] at q; exact q.elim
  | fz _ => rw [e0] at q; exact q.elim
  | tup _ => rw [e0] at q; exact q.elim
  | dic _ => rw [e0] at q; exact q.elim
  | dct _ => rw [e0] at q; exact q.elim
  | ins _ _ => rw [e0] at q; exact q.elim
theorem ee_append {i : Nat} {a : Expr} (he : PE X e (tVar i)) (ha : EA X cl W [a] ts)
    (hbase : attributeBase e "append" X.env (eval e X.env) = eval e X.env := by rfl) (hline : (apos.endLine == p.line) = true := by rfl) (hs : starEach [a] X.env = (false, eval a X.env) :: starEach [] X.env := by rfl) :
    EE X cl W (.Call (.Attribute e "append" apos) [a] [] p) (evMut i mAppend ts) :=
  ee_mut (fun h1 h2 => pe_bm PySem.F.plainAttrs_list PySem.F.slot_list_append PySem.F.type_list_append mt_append h1 h2 hbase (by rw [hs]; rfl) hline hs rfl) he mu_append onL_append ha
theorem ee_insert {i : Nat} {a b : Expr} (he : PE X e (tVar i)) (ha : EA X cl W [a, b] ts)
    (hbase : attributeBase e "insert" X.env (eval e X.env) = eval e X.env := by rfl) (hline : (apos.endLine == p.line) = true := by rfl) (hs : starEach [a, b] X.env = (false, eval a X.env) :: starEach [b] X.env := by rfl) (hs2 : starEach [b] X.env = (false, eval b X.env) :: starEach [] X.env := by rfl) :
    EE X cl W (.Call (.Attribute e "insert" apos) [a, b] [] p) (evMut i (mLst gInsert) ts) :=
  ee_mut (fun h1 h2 => pe_bm PySem.F.plainAttrs_list PySem.F.slot_list_insert PySem.F.type_list_insert mt_insert h1 h2 hbase (by rw [hs, hs2]; rfl) hline hs (by rw [hs2]; rfl)) he mu_insert onL_lst ha
/-- x[i] = e, x an own list in slot k -/
@[simp] def sSetIx (k : Nat) (te ti : Rho → Res Opd) : Rho → Res Fl := fun ρ => match te ρ with
  | .ok (.d d) ρ1 => (match gt ρ1 k with
    | .lst _ => (match ti ρ1 with
      | .ok (.d j) ρ2 => (match mLst gSetIx (gt ρ2 k) [j, d] with
        | some (o', _) => .ok .next (ρ2.set k o')
        | none => .bad)
      | .ok (.b _) _ => .bad
      | .err x ρ2 => .err x ρ2
      | .bad => .bad)
    | _ => .bad)
  | .ok (.b _) _ => .bad
  | .err x ρ1 => .err x ρ1
  | .bad => .bad
theorem mu_setIx {K : PySem.W.Frag} : MutOk K cl (mLst gSetIx) (fun o vs H Q => ∃ i v, vs = [i, v] ∧ rSetL o i v H fun H' => Q .non H') := mu_lst fun F H p xs us ds vs ys d Q hh w rr sb e q => by
  match ds, e with
  | [.v (.int i), d'], e =>
    unfold gSetIx at e
    dsimp only at e
    cases e1 : ixN xs.length i with
    | none => rw [e1] at e; cases e
    | some j =>
      rw [e1] at e
      cases e
      obtain ⟨x, y, rfl, rx, ry⟩ := reps2 rr
      exact ⟨x, y, rfl, p, us, i, j, rfl, rx.1, hh, by rw [reps_length w]; exact e1, q _ _ (reps_set w ry) rep_non⟩
theorem es_setIx {k : Nat} {o i v : Expr} (hg : ∀ {to ti : TE}, PE X o to → PE X i ti → PG X (.Subscript o i tpos) (gSub to ti rSetL)) (ho : PE X o (tVar k)) (hi : EP' X cl W i tb) (hv : EP' X cl W v ta) (hs : swapsWithSole [.Subscript o i tpos] v pos.line X.env = pure false := by rfl) (hw : swappedStores [.Subscript o i tpos] v X.env = pure none := by rfl)
    (h1 : (assignEach [.Subscript o i tpos] X.env).map (·.2) = [assign (.Subscript o i tpos) X.env] := by rfl) : ES X cl pn W (.Assign [.Subscript o i tpos] v pos) (sSetIx k ta tb) := by
  refine PS.imp (ps_asg hv (hg ho hi) hs hw h1) fun D σ H ⟨F, ρ, A, s, q⟩ => ⟨F, ρ, A, s, ?_⟩
  unfold sSetIx at q
  cases e1 : ta ρ with
  | bad => rw [e1] at q; exact q
  | err x ρ' => rw [e1] at q; exact fun F' H' A' c a s' g' => q σ F' H' A' c a s' g' fun _ _ => rfl
  | ok od ρ1 =>
    rw [e1] at q
    intro u F1 H1 A1 s1 g1 p1
    cases od with
    | b _ => exact q.elim
    | d d =>
      dsimp only at q
      cases e0 : gt ρ1 k with
      | lst os =>
        rw [e0] at q
        obtain ⟨v0, ev, r⟩ := (s1.sl k).own (by rw [e0]; exact fun z => by cases z)
        rw [e0] at r
        obtain ⟨p, vs, B, e2, e3, f0, hh, w⟩ := r
        subst e2
        refine ⟨_, ev, F1, ρ1, A1, s1, ?_⟩
        dsimp only at q
        cases e4 : tb ρ1 with
        | bad => rw [e4] at q; exact q
        | err x ρ' => rw [e4] at q; exact fun F' H' A' c a s' g' => q σ F' H' A' c a s' (g1.trans g') fun _ _ => rfl
        | ok oj ρ2 =>
          rw [e4] at q
          intro y F2 H2 A2 s2 g2 p2
          cases oj with
          | b _ => exact q.elim
          | d j =>
            dsimp only at q
            cases e5 : mLst gSetIx (gt ρ2 k) [j, d] with
            | none => rw [e5] at q; exact q.elim
            | some z =>
              obtain ⟨o', d'⟩ := z
              rw [e5] at q
              obtain ⟨os1, e6⟩ := onL_lst _ _ _ e5
              obtain ⟨v1, ev1, r1⟩ := (s2.sl k).own (by rw [e6]; exact fun z => by cases z)
              rw [ev] at ev1
              cases ev1
              have r1' := r1
              rw [e6] at r1'
              obtain ⟨p', vs1, B1, e7, e8, _⟩ := r1'
              cases e7
              obtain ⟨i', v', e9, h⟩ := mu_setIx F2 H2 (gt ρ2 k) p B1 [j, d] [y, u] o' d' (fun _ H' => D.nx σ H') (by rw [← e8]; exact r1) (by rw [← e8]; exact s2.nd k) s2.sub ⟨y, [u], rfl, p2, u, [], rfl, rep_mono g2.ff _ _ p1, rfl⟩ e5 fun ho v r2 r3 => by
                obtain ⟨s3, g3⟩ := s2.mut ev e8 r2
                exact q σ F2 _ A2 s3 ((g1.trans g2).trans g3) fun _ _ => rfl
              cases e9
              exact h
      | gone => rw [e0] at q; exact q.elim
      | fz _ => rw [e0] at q; exact q.elim
      | tup _ => rw [e0] at q; exact q.elim
      | dic _ => rw [e0] at q; exact q.elim
      | dct _ => rw [e0] at q; exact q.elim
      | ins _ _ => rw [e0] at q; exact q.elim
end
end DL
/-! DL12: defs and their calls. -/
namespace DL
open PySem L2

abbrev FS := Rho → Res OD
abbrev wE (E : XK) : WX := fun c a _ H => E c a H
@[simp] def FS.ov (S : FS) : Rho → Res OV := fun ρ => match S ρ with
  | .ok o ρ' => .ok (.o o) ρ'
  | .err x ρ' => .err x ρ'
  | .bad => .bad
/-- a def's promise by data -/
def spD (K : PySem.W.Frag) (cl : Nat → Addr) (S : FS) : Sp := fun vs H Q E => LE K cl (wE E) S.ov (vs.map some) H Q

/-- the arguments behind the call: what is not the callee's stays -/
@[simp] def outs : Rho → Rho → Option Rho
  | [], _ => some []
  | .fz d :: as, ρ => match outs as ρ.tail with
    | some os => some (.fz d :: os)
    | none => none
  | .gone :: _, _ => none
  | _ :: as, ρ => match ρ.head? with
    | some (.fz _) => none
    | some .gone => none
    | none => none
    | some o => match outs as ρ.tail with
      | some os => some (o :: os)
      | none => none
/-- the places of what is changed -/
@[simp] def ownIx : Nat → Rho → List Nat
  | _, [] => []
  | i, .fz _ :: as => ownIx (i + 1) as
  | i, _ :: as => i :: ownIx (i + 1) as
def fnS (pn : List Nat) (n m : Nat) (body : Rho → Res Fl) : FS := fun args =>
  if (args.length == n && (ownIx 0 args).all fun i => pn.contains i) = true then (match body (args ++ List.replicate (m - n) .gone) with
    | .ok .next ρ => (match outs args ρ with
      | some os => .ok (.fz (.v .non)) os
      | none => .bad)
    | .ok (.ret (.o o)) ρ => (match outs args ρ with
      | some os => .ok o os
      | none => .bad)
    | .ok (.ret (.b i)) ρ => (match gt ρ i with
      | .gone => .bad
      | o => (match outs args (ρ.set i .gone) with
        | some os => .ok o os
        | none => .bad))
    | .err x ρ => (match outs args ρ with
      | some os => .err x os
      | none => .bad)
    | _ => .bad) else .bad

section
variable {K : PySem.W.Frag} {cl : Nat → Addr} {F F' F1 H H' H1 : Hp} {σ σ' : L2.St} {ρ ρ' : Rho} {A A' : Nat → List Addr}
@[simp] def isFz : OD → Bool
  | .fz _ => true
  | _ => false
theorem outs_at : ∀ {as ρ os : Rho}, outs as ρ = some os → os.length = as.length ∧ ∀ i, i < as.length → (∃ d, gt as i = .fz d ∧ gt os i = .fz d) ∨ (isFz (gt as i) = false ∧ gt as i ≠ .gone ∧ gt os i = gt ρ i ∧ gt ρ i ≠ .gone ∧ isFz (gt ρ i) = false)
  | [], ρ, os, h => by cases h; exact ⟨rfl, fun i hi => by cases hi⟩
  | a :: as, ρ, os, h => by
    have tailgt : ∀ i, gt ρ.tail i = gt ρ (i + 1) := fun i => by
      cases ρ with
      | nil => rfl
      | cons r ρ => rfl
    have step : ∀ {o : OD} {os' : Rho}, outs as ρ.tail = some os' → os = o :: os' → ((∃ d, a = .fz d ∧ o = .fz d) ∨ (isFz a = false ∧ a ≠ .gone ∧ o = gt ρ 0 ∧ gt ρ 0 ≠ .gone ∧ isFz (gt ρ 0) = false)) →
        os.length = (a :: as).length ∧ ∀ i, i < (a :: as).length → (∃ d, gt (a :: as) i = .fz d ∧ gt os i = .fz d) ∨ (isFz (gt (a :: as) i) = false ∧ gt (a :: as) i ≠ .gone ∧ gt os i = gt ρ i ∧ gt ρ i ≠ .gone ∧ isFz (gt ρ i) = false) := fun {o os'} e1 e2 h0 => by
      obtain ⟨l, ih⟩ := outs_at e1
      subst e2
      refine ⟨by rw [List.length_cons, List.length_cons, l], fun i hi => ?_⟩
      cases i with
      | zero => exact h0
      | succ i =>
        have := ih i (by rw [List.length_cons] at hi; omega)
        rw [tailgt] at this
        exact this
    have ne : ∀ {o : OD}, ρ.head? = some o → gt ρ 0 = o := fun e => by
      cases ρ with
      | nil => cases e
      | cons r ρ => cases e; rfl
    cases a with
    | gone => cases h
    | fz d =>
      unfold outs at h
      cases e1 : outs as ρ.tail with
      | none => rw [e1] at h; cases h
      | some os' => rw [e1] at h; cases h; exact step e1 rfl (.inl ⟨d, rfl, rfl⟩)
    | tup d =>
      unfold outs at h
      cases e0 : ρ.head? with
      | none => rw [e0] at h; cases h
      | some o =>
        rw [e0] at h
        cases o with
        | gone => cases h
        | fz _ => cases h
        | _ =>
          dsimp only at h
          cases e1 : outs as ρ.tail with
          | none => rw [e1] at h; cases h
          | some os' => rw [e1] at h; cases h; exact step e1 rfl (.inr ⟨rfl, (fun z => by cases z), (ne e0).symm, by rw [ne e0]; exact fun z => (by cases z), by rw [ne e0]; rfl⟩)
    | lst d =>
      unfold outs at h
      cases e0 : ρ.head? with
      | none => rw [e0] at h; cases h
      | some o =>
        rw [e0] at h
        cases o with
        | gone => cases h
        | fz _ => cases h
        | _ =>
          dsimp only at h
          cases e1 : outs as ρ.tail with
          | none => rw [e1] at h; cases h
          | some os' => rw [e1] at h; cases h; exact step e1 rfl (.inr ⟨rfl, (fun z => by cases z), (ne e0).symm, by rw [ne e0]; exact fun z => (by cases z), by rw [ne e0]; rfl⟩)
    | dic d =>
      unfold outs at h
      cases e0 : ρ.head? with
      | none => rw [e0] at h; cases h
      | some o =>
        rw [e0] at h
        cases o with
        | gone => cases h
        | fz _ => cases h
        | _ =>
          dsimp only at h
          cases e1 : outs as ρ.tail with
          | none => rw [e1] at h; cases h
          | some os' => rw [e1] at h; cases h; exact step e1 rfl (.inr ⟨rfl, (fun z => by cases z), (ne e0).symm, by rw [ne e0]; exact fun z => (by cases z), by rw [ne e0]; rfl⟩)
    | dct d =>
      unfold outs at h
      cases e0 : ρ.head? with
      | none => rw [e0] at h; cases h
      | some o =>
        rw [e0] at h
        cases o with
        | gone => cases h
        | fz _ => cases h
        | _ =>
          dsimp only at h
          cases e1 : outs as ρ.tail with
          | none => rw [e1] at h; cases h
          | some os' => rw [e1] at h; cases h; exact step e1 rfl (.inr ⟨rfl, (fun z => by cases z), (ne e0).symm, by rw [ne e0]; exact fun z => (by cases z), by rw [ne e0]; rfl⟩)
    | ins c d =>
      unfold outs at h
      cases e0 : ρ.head? with
      | none => rw [e0] at h; cases h
      | some o =>
        rw [e0] at h
        cases o with
        | gone => cases h
        | fz _ => cases h
        | _ =>
          dsimp only at h
          cases e1 : outs as ρ.tail with
          | none => rw [e1] at h; cases h
          | some os' => rw [e1] at h; cases h; exact step e1 rfl (.inr ⟨rfl, (fun z => by cases z), (ne e0).symm, by rw [ne e0]; exact fun z => (by cases z), by rw [ne e0]; rfl⟩)
theorem ownIx_mem : ∀ {as : Rho} {k i : Nat}, i < as.length → isFz (gt as i) = false → (k + i) ∈ ownIx k as
  | a :: as, k, 0, _, h => by
    cases a with
    | fz _ => cases h
    | gone => exact List.mem_cons_self
    | tup _ => exact List.mem_cons_self
    | lst _ => exact List.mem_cons_self
    | dic _ => exact List.mem_cons_self
    | dct _ => exact List.mem_cons_self
    | ins _ _ => exact List.mem_cons_self
  | a :: as, k, i + 1, hi, h => by
    have ih := ownIx_mem (as := as) (k := k + 1) (i := i) (by rw [List.length_cons] at hi; omega) h
    have e : k + (i + 1) = k + 1 + i := by omega
    rw [e]
    cases a with
    | fz _ => exact ih
    | gone => exact List.mem_cons_of_mem _ ih
    | tup _ => exact List.mem_cons_of_mem _ ih
    | lst _ => exact List.mem_cons_of_mem _ ih
    | dic _ => exact List.mem_cons_of_mem _ ih
    | dct _ => exact List.mem_cons_of_mem _ ih
    | ins _ _ => exact List.mem_cons_of_mem _ ih
/-- the state at a body's start -/
theorem gt_app {as : Rho} {k i : Nat} : gt (as ++ List.replicate k .gone) i = gt as i := by
  show (as ++ List.replicate k OD.gone).getD i .gone = as.getD i .gone
  rw [List.getD_eq_getElem?_getD, List.getD_eq_getElem?_getD, List.getElem?_append]
  split
  · rfl
  · rename_i h
    rw [List.getElem?_eq_none (l := as) (by omega), List.getElem?_replicate]
    split <;> rfl
theorem sto_start {vs : List V} {as : Rho} {k : Nat} (s : Sto K cl F H (vs.map some) as A) : Sto K cl F H (vs.map some ++ List.replicate k none) (as ++ List.replicate k .gone) A := by
  refine ⟨s.sub, by simp [s.len], fun i => ?_, s.dis, s.nd⟩
  rw [gt_app]
  by_cases n : gt as i = .gone
  · rw [n]
    have := s.sl i
    rw [n] at this
    exact this
  · have hi := gt_lt n
    rw [List.getElem?_append_left (by rw [← s.len]; exact hi)]
    exact s.sl i
/-- behind the body: the arguments again -/
theorem sto_outs {vs : List V} {as os : Rho} (s : Sto K cl F H (vs.map some) as A) (s' : Sto K cl F' H' σ' ρ' A') (g : Le F F') (e : outs as ρ' = some os) (pin : ∀ i, i < as.length → isFz (gt as i) = false → σ'[i]? = (vs.map some)[i]?) :
    Sto K cl F' H' (vs.map some) os (fun i => if i < as.length ∧ isFz (gt as i) = false then A' i else []) ∧ (∀ b, ownd (fun i => if i < as.length ∧ isFz (gt as i) = false then A' i else []) b → ownd A' b) := by
  obtain ⟨l, h⟩ := outs_at e
  refine ⟨⟨s'.sub, by rw [l]; exact s.len, fun i => ?_, fun i j n b hi hj => ?_, fun i => ?_⟩, fun b ⟨i, hi⟩ => ?_⟩
  · by_cases hi : i < as.length
    · rcases h i hi with ⟨d, h1, h2⟩ | ⟨h1, h2, h3, h4, h5⟩
      · rw [h2, h1, if_neg (fun z => by cases z.2)]
        have := s.sl i
        rw [h1] at this
        obtain ⟨v, ev, _, r⟩ := this
        exact ⟨v, ev, rfl, rep_mono g _ _ r⟩
      · rw [if_pos ⟨hi, h1⟩, h3, ← pin i hi h1]
        exact s'.sl i
    · rw [if_neg (fun z => hi z.1)]
      have : gt os i = .gone := by
        show os.getD i .gone = .gone
        rw [List.getD_eq_getElem?_getD, List.getElem?_eq_none (by omega)]
        rfl
      rw [this]
      rfl
  · try dsimp only at hi hj
    split at hi
    · split at hj
      · exact s'.dis i j n b hi hj
      · cases hj
    · cases hi
  · try dsimp only
    split
    · exact s'.nd i
    · exact List.nodup_nil
  · try dsimp only at hi
    split at hi
    · exact ⟨i, hi⟩
    · cases hi
end

section
variable {P : Program} {w : World} {K : PySem.W.Frag} {mg : Str → Option Value} {base : Heap} {cl : Nat → Addr}
theorem spD_len {pn : List Nat} {n m : Nat} {body : Rho → Res Fl} (vs : List V) (H : Hp) (Q : VK) (E : XK) (h : spD K cl (fnS pn n m body) vs H Q E) : vs.length = n := by
  obtain ⟨F, ρ, A, s, q⟩ := h
  by_cases e : ρ.length = n
  · have := s.len
    rw [List.length_map] at this
    omega
  · exfalso
    unfold FS.ov fnS at q
    rw [if_neg (fun z => e (beq_iff_eq.mp (Bool.and_eq_true_iff.mp z).1))] at q
    exact q
theorem fn_ok {x qual : Str} {st : Stmt} {f : Addr} {fd : FuncData} {N ps : List Str} {k n m : Nat} {pn : List Nat} {body : Rho → Res Fl} (Fn : Fun K x qual st f fd) (S : FnScope N ps (defScope st)) (hn : ps.length = n) (hm : N.length = m)
    (hb : ∀ (cdv : Value) (A : Around) (outer : List Env) (s : Shared) (H : Hp) (E : XK), Room k (A.deeper (PyProof.Rows.envOfC qual (defScope st) s.heap.objs.size f cdv)) → ESs (cxOf (L2.CX P w) P w K mg base N qual (defScope st) f cdv A outer s H E) cl pn (wE E) (defBody st) body) :
    FnOk P w K mg base (L2.CX P w) (k + 1) f fd ps (spD K cl (fnS pn n m body)) := by
  refine Fn.okX S (fun vs H Q E h => (spD_len vs H Q E h).trans hn.symm) fun cdv Ar outer s H vs Q E hr h => ?_
  have hl := spD_len vs H Q E h
  refine ⟨_, hb cdv Ar outer s H E hr, ?_⟩
  obtain ⟨F, as, A, s0, q⟩ := h
  unfold FS.ov fnS at q
  by_cases hc : (as.length == n && (ownIx 0 as).all fun i => pn.contains i) = true
  · rw [if_pos hc] at q
    obtain ⟨hc1, hc2⟩ := Bool.and_eq_true_iff.mp hc
    have hal : as.length = n := beq_iff_eq.mp hc1
    have es : L2.start N vs = vs.map some ++ List.replicate (m - n) none := by
      unfold L2.start
      rw [hm, hl]
    rw [es]
    refine ⟨F, as ++ List.replicate (m - n) OD.gone, A, sto_start s0, ?_⟩
    have pin : ∀ {σ' : L2.St}, (∀ i ∈ pn, σ'[i]? = (vs.map some ++ List.replicate (m - n) none)[i]?) → ∀ i, i < as.length → isFz (gt as i) = false → σ'[i]? = (vs.map some)[i]? := fun {σ'} p i hi hf => by
      have : (0 + i) ∈ ownIx 0 as := ownIx_mem hi hf
      rw [Nat.zero_add] at this
      have hpn : i ∈ pn := by simpa using List.all_eq_true.mp hc2 i this
      rw [p i hpn, List.getElem?_append_left (by rw [List.length_map, hl]; omega)]
    cases e : body (as ++ List.replicate (m - n) .gone) with
    | bad => rw [e] at q; exact q
    | err x ρ' =>
      rw [e] at q
      intro σ' F' H' A' c a s' g' p' ex
      dsimp only at q
      cases e2 : outs as ρ' with
      | none => rw [e2] at q; exact q.elim
      | some os =>
        rw [e2] at q
        obtain ⟨s2, w2⟩ := sto_outs s0 s' g'.ff e2 (pin p')
        exact q F' H' _ c a s2 (g'.sub w2) ex
    | ok fl ρ' =>
      rw [e] at q
      cases fl with
      | next =>
        intro σ' F' H' A' s' g' p'
        dsimp only at q
        cases e2 : outs as ρ' with
        | none => rw [e2] at q; exact q.elim
        | some os =>
          rw [e2] at q
          obtain ⟨s2, w2⟩ := sto_outs s0 s' g'.ff e2 (pin p')
          exact q .non F' H' _ [] s2 (gr1 (g'.sub w2)) ⟨rfl, rfl, trivial⟩ List.nodup_nil fun b z => by cases z
      | brk => exact q.elim
      | cont => exact q.elim
      | ret ov =>
        intro v σ' F' H' A' B s' g' p' r nd dj
        cases ov with
        | o o =>
          dsimp only at q
          cases e2 : outs as ρ' with
          | none => rw [e2] at q; exact q.elim
          | some os =>
            rw [e2] at q
            obtain ⟨s2, w2⟩ := sto_outs s0 s' g'.ff e2 (pin p')
            exact q v F' H' _ B s2 (g'.sub fun b z => z.elim (fun z => .inl (w2 b z)) .inr) r nd fun b hb z => dj b hb (w2 b z)
        | b i =>
          obtain ⟨rfl, hv⟩ := r
          dsimp only at q
          have n1 : gt ρ' i ≠ .gone := fun z => by
            rw [z] at q
            exact q
          have q' : match outs as (ρ'.set i .gone) with
            | some os => ∀ v F' H' A' B, Sto K cl F' H' (vs.map some) os A' → Gr (ownd A) (fun b => ownd A' b ∨ b ∈ B) F H F' H' → Own K cl F' H' (gt ρ' i) v B → B.Nodup → (∀ b ∈ B, ¬ ownd A' b) → Q v H'
            | none => False := by
            cases e2 : outs as (ρ'.set i .gone) with
            | none =>
              rw [e2] at q
              cases z : gt ρ' i with
              | gone => exact n1 z
              | _ => rw [z] at q; exact q
            | some os =>
              rw [e2] at q
              cases z : gt ρ' i with
              | gone => exact absurd z n1
              | _ => rw [z] at q; exact q
          cases e2 : outs as (ρ'.set i .gone) with
          | none => rw [e2] at q'; exact q'.elim
          | some os =>
            rw [e2] at q'
            obtain ⟨v', ev, r⟩ := (s'.sl i).own n1
            rw [hv] at ev
            cases ev
            have s1 := s'.drop (i := i) (x := some v)
            rw [sigma_set_self hv] at s1
            obtain ⟨s2, w2⟩ := sto_outs s0 s1 g'.ff e2 (pin p')
            have w3 : ∀ b, ownd (fun j => if j = i then [] else A' j) b → ownd A' b := fun b ⟨j, hj⟩ => by
              dsimp only at hj
              split at hj
              · cases hj
              · exact ⟨j, hj⟩
            refine q' v F' H' _ (A' i) s2 ((gr0 g').sub fun b z => z.elim (fun z => w3 b (w2 b z)) fun z => ⟨i, z⟩) r (s'.nd i) fun b hb z => ?_
            obtain ⟨j, hj⟩ := w2 b z
            dsimp only at hj
            split at hj
            · cases hj
            · rename_i hji
              exact s'.dis j i hji b hj hb
  · rw [if_neg hc] at q
    exact q.elim
end
end DL
/-! DL13: a call of a def by its data. -/
namespace DL
open PySem L2

/-- the callee's arguments; true: a parameter that is changed -/
@[simp] def argO (ρ : Rho) : Opd → Bool → Option OD
  | .d d, false => some (.fz d)
  | .b i, false => match gt ρ i with
    | .gone => none
    | o => some (.fz o.toD)
  | .b i, true => match gt ρ i with
    | .gone => none
    | .fz _ => none
    | o => some o
  | .d _, true => none
@[simp] def argsO (ρ : Rho) : List Opd → List Bool → Option Rho
  | [], [] => some []
  | q :: qs, m :: ms => match argO ρ q m with
    | none => none
    | some o => match argsO ρ qs ms with
      | none => none
      | some os => some (o :: os)
  | _, _ => none
@[simp] def bIx : List Opd → List Nat
  | [] => []
  | .d _ :: qs => bIx qs
  | .b i :: qs => i :: bIx qs
/-- at which place slot i is handed over -/
@[simp] def atPl (i : Nat) : List Opd → List Bool → Nat → Option Nat
  | .b j :: qs, true :: ms, k => if j = i then some k else atPl i qs ms (k + 1)
  | _ :: qs, _ :: ms, k => atPl i qs ms (k + 1)
  | _, _, _ => none
@[simp] def wbk (qs : List Opd) (ms : List Bool) (os : Rho) : Nat → Rho → Rho
  | _, [] => []
  | i, o :: ρ => (match atPl i qs ms 0 with
    | some k => gt os k
    | none => o) :: wbk qs ms os (i + 1) ρ
@[simp] def noBrw : List Opd → List Bool → Bool
  | .b _ :: _, false :: _ => false
  | _ :: qs, _ :: ms => noBrw qs ms
  | _, _ => true
@[simp] def nodupB : List Nat → Bool
  | [] => true
  | i :: is => !is.contains i && nodupB is
def Exn.imm (x : Exn) : Bool := x.fs.all fun p => p.2.imm
@[simp] def callR (S : FS) (ms : List Bool) (qs : List Opd) (ρ : Rho) : Res OV :=
  if nodupB (bIx qs) = true then (match argsO ρ qs ms with
    | none => .bad
    | some as => match S as with
      | .ok o os => if (noBrw qs ms || (o.imm && oimms os)) = true then .ok (.o o) (wbk qs ms os 0 ρ) else .bad
      | .err x os => if (noBrw qs ms || (x.imm && oimms os)) = true then .err x (wbk qs ms os 0 ρ) else .bad
      | .bad => .bad) else .bad
@[simp] def evCall (S : FS) (ms : List Bool) (ts : Rho → Res (List Opd)) : Rho → Res OV := fun ρ => (ts ρ).bind fun qs ρ1 => callR S ms qs ρ1

section
variable {K : PySem.W.Frag} {cl : Nat → Addr} {F F' F1 H H' H1 : Hp} {σ σ' : L2.St} {ρ ρ' : Rho} {A A' : Nat → List Addr}
theorem nodupB_ok : ∀ {is : List Nat}, nodupB is = true → is.Nodup
  | [], _ => List.nodup_nil
  | i :: is, h => by
    obtain ⟨h1, h2⟩ := Bool.and_eq_true_iff.mp h
    refine List.nodup_cons.mpr ⟨fun z => ?_, nodupB_ok h2⟩
    simp at h1
    exact h1 z
theorem bIx_mem : ∀ {qs : List Opd} {j i : Nat}, qs[j]? = some (.b i) → i ∈ bIx qs
  | .d _ :: qs, 0, i, h => by simp at h
  | .b _ :: qs, 0, i, h => by simp at h; rw [h]; exact List.mem_cons_self
  | .d _ :: qs, j + 1, i, h => bIx_mem (qs := qs) (j := j) (by simpa using h)
  | .b _ :: qs, j + 1, i, h => List.mem_cons_of_mem _ (bIx_mem (qs := qs) (j := j) (by simpa using h))
theorem bIx_inj : ∀ {qs : List Opd} {j k i : Nat}, (bIx qs).Nodup → qs[j]? = some (.b i) → qs[k]? = some (.b i) → j = k
  | [], j, k, i, _, h, _ => by simp at h
  | q :: qs, 0, 0, i, _, _, _ => rfl
  | q :: qs, 0, k + 1, i, nd, h1, h2 => by
    simp at h1 h2
    subst h1
    exact absurd (bIx_mem h2) (List.nodup_cons.mp nd).1
  | q :: qs, j + 1, 0, i, nd, h1, h2 => by
    simp at h1 h2
    subst h2
    exact absurd (bIx_mem h1) (List.nodup_cons.mp nd).1
  | q :: qs, j + 1, k + 1, i, nd, h1, h2 => by
    have : (bIx qs).Nodup := by
      cases q with
      | d _ => exact nd
      | b _ => exact (List.nodup_cons.mp nd).2
    exact congrArg (· + 1) (bIx_inj (qs := qs) (j := j) (k := k) (i := i) this (by simpa using h1) (by simpa using h2))
theorem atPl_some : ∀ {qs : List Opd} {ms : List Bool} {i k p : Nat}, atPl i qs ms k = some p → ∃ j, p = k + j ∧ qs[j]? = some (.b i) ∧ ms[j]? = some true
  | .b j :: qs, true :: ms, i, k, p, h => by
    unfold atPl at h
    split at h
    · rename_i e
      cases h
      exact ⟨0, rfl, by rw [e]; rfl, rfl⟩
    · obtain ⟨j', e, h1, h2⟩ := atPl_some h
      exact ⟨j' + 1, by omega, by simpa using h1, by simpa using h2⟩
  | .b j :: qs, false :: ms, i, k, p, h => by
    obtain ⟨j', e, h1, h2⟩ := atPl_some (qs := qs) (ms := ms) (k := k + 1) h
    exact ⟨j' + 1, by omega, by simpa using h1, by simpa using h2⟩
  | .d j :: qs, m :: ms, i, k, p, h => by
    obtain ⟨j', e, h1, h2⟩ := atPl_some (qs := qs) (ms := ms) (i := i) (k := k + 1) (by cases m <;> exact h)
    exact ⟨j' + 1, by omega, by simpa using h1, by simpa using h2⟩
theorem atPl_none : ∀ {qs : List Opd} {ms : List Bool} {i k j : Nat}, atPl i qs ms k = none → qs[j]? = some (.b i) → ms[j]? = some true → False
  | [], _, _, _, _, _, h, _ => by simp at h
  | _ :: _, [], _, _, _, _, _, h => by simp at h
  | .b j' :: qs, true :: ms, i, k, 0, h, h1, h2 => by
    unfold atPl at h
    simp at h1
    rw [if_pos h1] at h
    cases h
  | .b j' :: qs, true :: ms, i, k, j + 1, h, h1, h2 => by
    unfold atPl at h
    split at h
    · cases h
    · exact atPl_none (j := j) h (by simpa using h1) (by simpa using h2)
  | .b j' :: qs, false :: ms, i, k, 0, h, h1, h2 => by simp at h2
  | .b j' :: qs, false :: ms, i, k, j + 1, h, h1, h2 => atPl_none (qs := qs) (ms := ms) (k := k + 1) (j := j) h (by simpa using h1) (by simpa using h2)
  | .d _ :: qs, m :: ms, i, k, 0, h, h1, h2 => by simp at h1
  | .d _ :: qs, m :: ms, i, k, j + 1, h, h1, h2 => atPl_none (qs := qs) (ms := ms) (i := i) (k := k + 1) (j := j) (by cases m <;> exact h) (by simpa using h1) (by simpa using h2)
theorem wbk_len {qs : List Opd} {ms : List Bool} {os : Rho} : ∀ {ρ : Rho} {i : Nat}, (wbk qs ms os i ρ).length = ρ.length
  | [], _ => rfl
  | _ :: ρ, i => by show (wbk qs ms os (i + 1) ρ).length + 1 = _; rw [wbk_len]; rfl
theorem wbk_gt {qs : List Opd} {ms : List Bool} {os : Rho} : ∀ {ρ : Rho} {i j : Nat}, j < ρ.length → gt (wbk qs ms os i ρ) j = match atPl (i + j) qs ms 0 with
    | some k => gt os k
    | none => gt ρ j
  | o :: ρ, i, 0, _ => rfl
  | o :: ρ, i, j + 1, h => by
    have := wbk_gt (qs := qs) (ms := ms) (os := os) (ρ := ρ) (i := i + 1) (j := j) (by rw [List.length_cons] at h; omega)
    have e : i + (j + 1) = i + 1 + j := by omega
    rw [e]
    exact this
theorem argsO_at : ∀ {qs : List Opd} {ms : List Bool} {as : Rho}, argsO ρ qs ms = some as → as.length = qs.length ∧ ms.length = qs.length ∧ ∀ (j : Nat) (q : Opd) (m : Bool), qs[j]? = some q → ms[j]? = some m → argO ρ q m = some (gt as j)
  | [], [], as, h => by cases h; exact ⟨rfl, rfl, fun j q m h => by simp at h⟩
  | [], _ :: _, as, h => by cases h
  | _ :: _, [], as, h => by cases h
  | q :: qs, m :: ms, as, h => by
    unfold argsO at h
    cases e1 : argO ρ q m with
    | none => rw [e1] at h; cases h
    | some o =>
      rw [e1] at h
      dsimp only at h
      cases e2 : argsO ρ qs ms with
      | none => rw [e2] at h; cases h
      | some os =>
        rw [e2] at h
        cases h
        obtain ⟨l1, l2, ih⟩ := argsO_at e2
        refine ⟨by rw [List.length_cons, List.length_cons, l1], by rw [List.length_cons, List.length_cons, l2], fun j q' m' h1 h2 => ?_⟩
        cases j with
        | zero =>
          simp at h1 h2
          subst h1 h2
          exact e1
        | succ j => exact ih j q' m' (by simpa using h1) (by simpa using h2)
theorem poks_at : ∀ {qs : List Opd} {vs : List V}, POks K cl F σ qs vs → vs.length = qs.length ∧ ∀ (j : Nat) (q : Opd), qs[j]? = some q → ∃ v, vs[j]? = some v ∧ POk K cl F σ q v
  | [], vs, h => by rw [show vs = [] from h]; exact ⟨rfl, fun j q h => by simp at h⟩
  | q :: qs, vs, ⟨u, us, e, p, h⟩ => by
    obtain ⟨l, ih⟩ := poks_at h
    subst e
    refine ⟨by rw [List.length_cons, List.length_cons, l], fun j q' h1 => ?_⟩
    cases j with
    | zero => simp at h1; subst h1; exact ⟨u, rfl, p⟩
    | succ j =>
      obtain ⟨v, h2, h3⟩ := ih j q' (by simpa using h1)
      exact ⟨v, by simpa using h2, h3⟩
/-- the callee's own objects, the borrowed ones -/
def calA (A : Nat → List Addr) (qs : List Opd) (ms : List Bool) : Nat → List Addr := fun j => match qs[j]?, ms[j]? with
  | some (.b i), some true => A i
  | _, _ => []
def brwL (A : Nat → List Addr) : List Opd → List Bool → List Addr
  | .b i :: qs, false :: ms => A i ++ brwL A qs ms
  | _ :: qs, _ :: ms => brwL A qs ms
  | _, _ => []
theorem brwL_mem : ∀ {qs : List Opd} {ms : List Bool} {b : Addr}, b ∈ brwL A qs ms → ∃ (j i : Nat), qs[j]? = some (Opd.b i) ∧ ms[j]? = some false ∧ b ∈ A i
  | .b i :: qs, false :: ms, b, h => by
    rcases List.mem_append.mp h with z | z
    · exact ⟨0, i, rfl, rfl, z⟩
    · obtain ⟨j, i', h1, h2, h3⟩ := brwL_mem (qs := qs) (ms := ms) z
      exact ⟨j + 1, i', by simpa using h1, by simpa using h2, h3⟩
  | .b i :: qs, true :: ms, b, h => by
    obtain ⟨j, i', h1, h2, h3⟩ := brwL_mem (qs := qs) (ms := ms) h
    exact ⟨j + 1, i', by simpa using h1, by simpa using h2, h3⟩
  | .d _ :: qs, m :: ms, b, h => by
    obtain ⟨j, i', h1, h2, h3⟩ := brwL_mem (qs := qs) (ms := ms) (by cases m <;> exact h)
    exact ⟨j + 1, i', by simpa using h1, by simpa using h2, h3⟩
theorem brwL_in : ∀ {qs : List Opd} {ms : List Bool} {j i : Nat} {b : Addr}, qs[j]? = some (.b i) → ms[j]? = some false → b ∈ A i → b ∈ brwL A qs ms
  | [], _, _, _, _, h, _, _ => by simp at h
  | _ :: _, [], _, _, _, _, h, _ => by simp at h
  | q :: qs, m :: ms, 0, i, b, h1, h2, h3 => by
    simp at h1 h2
    subst h1 h2
    exact List.mem_append_left _ h3
  | q :: qs, m :: ms, j + 1, i, b, h1, h2, h3 => by
    have ih := brwL_in (qs := qs) (ms := ms) (j := j) (i := i) (b := b) (by simpa using h1) (by simpa using h2) h3
    cases q with
    | d _ => cases m <;> exact ih
    | b _ =>
      cases m with
      | true => exact ih
      | false => exact List.mem_append_right _ ih
theorem brwL_nil : ∀ {qs : List Opd} {ms : List Bool}, noBrw qs ms = true → brwL A qs ms = []
  | [], _, _ => by cases ‹List Bool› <;> rfl
  | .d _ :: qs, [], _ => rfl
  | .b _ :: qs, [], _ => rfl
  | .d _ :: qs, m :: ms, h => brwL_nil (qs := qs) (ms := ms) (by cases m <;> exact h)
  | .b _ :: qs, true :: ms, h => brwL_nil (qs := qs) (ms := ms) h
  | .b _ :: qs, false :: ms, h => by cases h
theorem calA_own {qs : List Opd} {ms : List Bool} {b : Addr} (h : ownd (calA A qs ms) b) : ∃ (j i : Nat), qs[j]? = some (Opd.b i) ∧ ms[j]? = some true ∧ b ∈ A i := by
  obtain ⟨j, hj⟩ := h
  unfold calA at hj
  split at hj
  · rename_i i h1 h2
    exact ⟨j, i, h1, h2, hj⟩
  · cases hj
theorem calA_eq {qs : List Opd} {ms : List Bool} {j i : Nat} (h1 : qs[j]? = some (.b i)) (h2 : ms[j]? = some true) : calA A qs ms j = A i := by
  unfold calA
  rw [h1, h2]
theorem calA_nil {qs : List Opd} {ms : List Bool} {j : Nat} (h : ∀ i, qs[j]? = some (.b i) → ms[j]? = some true → False) : calA A qs ms j = [] := by
  unfold calA
  split
  · rename_i i h1 h2
    exact (h i h1 h2).elim
  · rfl

/-- the callee's state -/
theorem call_in {qs : List Opd} {ms : List Bool} {as : Rho} {vs : List V} (s : Sto K cl F H σ ρ A) (p : POks K cl F σ qs vs) (nd : (bIx qs).Nodup) (e : argsO ρ qs ms = some as) :
    Sto K cl (plus F H (brwL A qs ms)) H (vs.map some) as (calA A qs ms) := by
  obtain ⟨l1, l2, ha⟩ := argsO_at e
  obtain ⟨l3, hp⟩ := poks_at p
  have hL : ∀ a ∈ brwL A qs ms, F a = none ∧ Wr (H a) := fun a h => let ⟨j, i, _, _, h3⟩ := brwL_mem h; s.at_ ⟨i, h3⟩
  have le := plus_le (H := H) fun a h => (hL a h).1
  refine ⟨fun a x q => ?_, by rw [l1, List.length_map, l3], fun j => ?_, fun j k n b hj hk => ?_, fun j => ?_⟩
  · by_cases z : a ∈ brwL A qs ms
    · rw [plus_in z] at q
      exact ⟨.inl q, fun _ => q⟩
    · rw [plus_out z] at q; exact s.sub a x q
  · cases eq : qs[j]? with
    | none =>
      have hj : qs.length ≤ j := List.getElem?_eq_none_iff.mp eq
      have g0 : gt as j = .gone := by
        show as.getD j .gone = .gone
        rw [List.getD_eq_getElem?_getD, List.getElem?_eq_none (by omega)]
        rfl
      rw [g0, calA_nil fun i h => by rw [eq] at h; cases h]
      rfl
    | some q =>
      have hj : j < qs.length := (List.getElem?_eq_some_iff.mp eq).1
      have em : ms[j]? = some ms[j] := List.getElem?_eq_getElem (by omega)
      have hq := ha j q ms[j] eq em
      obtain ⟨v, hv, pv⟩ := hp j q eq
      have hv' : (vs.map some)[j]? = some (some v) := by rw [List.getElem?_map, hv]; rfl
      cases q with
      | d d =>
        rw [calA_nil fun i h => by rw [eq] at h; cases h]
        cases em2 : ms[j] with
        | true => rw [em2] at hq; cases hq
        | false =>
          rw [em2] at hq
          have := Option.some.inj hq
          rw [← this]
          exact ⟨v, hv', rfl, rep_mono le _ _ pv⟩
      | b i =>
        have n0 : gt ρ i ≠ .gone := fun z => by
          cases em2 : ms[j] <;> (rw [em2] at hq; unfold argO at hq; dsimp only at hq; rw [z] at hq; cases hq)
        obtain ⟨v', ev, r⟩ := (s.sl i).own n0
        rw [show σ[i]? = some (some v) from pv] at ev
        cases ev
        cases em2 : ms[j] with
        | true =>
          rw [em2] at hq em
          have eo : gt as j = gt ρ i := by
            unfold argO at hq
            dsimp only at hq
            cases z : gt ρ i with
            | gone => exact absurd z n0
            | fz _ => rw [z] at hq; cases hq
            | _ => rw [z] at hq; exact (Option.some.inj hq).symm
          rw [calA_eq eq em, eo]
          refine .mk hv' (own_mono le _ _ _ (fun a ha' => ⟨?_, fun _ h => h⟩) r)
          rw [plus_out fun z => ?_]
          · exact (own_at _ _ _ r a ha').1
          · obtain ⟨j', i', h1, h2, h3⟩ := brwL_mem z
            by_cases ei : i' = i
            · subst ei
              have := bIx_inj nd h1 eq
              subst this
              rw [em] at h2
              cases h2
            · exact s.dis i' i ei a h3 ha'
        | false =>
          rw [em2] at hq em
          have eo : gt as j = .fz (gt ρ i).toD := by
            unfold argO at hq
            dsimp only at hq
            cases z : gt ρ i with
            | gone => exact absurd z n0
            | _ => rw [z] at hq; exact (Option.some.inj hq).symm
          rw [calA_nil (fun i' _ h => (by rw [em] at h; cases h)), eo]
          exact ⟨v, hv', rfl, own_rep le _ _ _ (fun a ha' => brwL_in eq em ha') r⟩
  · unfold calA at hj hk
    split at hj
    · rename_i i h1 h2
      split at hk
      · rename_i i' h3 h4
        by_cases ei : i = i'
        · subst ei
          exact n (bIx_inj nd h1 h3)
        · exact s.dis i i' ei b hj hk
      · cases hk
    · cases hj
  · unfold calA
    split
    · exact s.nd _
    · exact List.nodup_nil
/-- behind the call: the caller's state -/
theorem call_out {qs : List Opd} {ms : List Bool} {as os : Rho} {vs : List V} {P' : Addr → Prop} (s : Sto K cl F H σ ρ A) (p : POks K cl F σ qs vs) (nd : (bIx qs).Nodup) (e : argsO ρ qs ms = some as)
    (s' : Sto K cl F' H' (vs.map some) os A') (g : Gr (ownd (calA A qs ms)) P' (plus F H (brwL A qs ms)) H F' H') (hP : ∀ b, ownd A' b → P' b) (im : (noBrw qs ms || oimms os) = true) :
    Sto K cl (less F' (brwL A qs ms)) H' σ (wbk qs ms os 0 ρ) (fun i => match atPl i qs ms 0 with
      | some k => A' k
      | none => A i) ∧ Le F (less F' (brwL A qs ms)) ∧ (∀ b, Wr (H b) → ¬ ownd A b → less F' (brwL A qs ms) b = F b) ∧ (∀ a ∈ brwL A qs ms, Wr (F' a)) := by
  obtain ⟨l1, l2, ha⟩ := argsO_at e
  obtain ⟨l3, hp⟩ := poks_at p
  have hL : ∀ a ∈ brwL A qs ms, F a = none ∧ Wr (H a) := fun a h => let ⟨j, i, _, _, h3⟩ := brwL_mem h; s.at_ ⟨i, h3⟩
  have le := plus_le (H := H) fun a h => (hL a h).1
  have calSub : ∀ b, ownd (calA A qs ms) b → ownd A b := fun b h => let ⟨j, i, _, _, h3⟩ := calA_own h; ⟨i, h3⟩
  have calBrw : ∀ b, b ∈ brwL A qs ms → ¬ ownd (calA A qs ms) b := fun b h z => by
    obtain ⟨j, i, h1, h2, h3⟩ := brwL_mem h
    obtain ⟨j', i', h4, h5, h6⟩ := calA_own z
    by_cases ei : i = i'
    · subst ei
      have := bIx_inj nd h1 h4
      subst this
      rw [h2] at h5
      cases h5
    · exact s.dis i i' ei b h3 h6
  have hWr : ∀ a ∈ brwL A qs ms, Wr (F' a) := fun a h => by
    rw [g.new a (hL a h).2 (calBrw a h), plus_in h]
    exact (hL a h).2
  have le2 : Le F (less F' (brwL A qs ms)) := fun a x q => by
    rw [less_out fun z => by rw [(hL a z).1] at q; cases q]
    exact g.ff a x (le a x q)
  -- a slot that is not handed over: its objects stay
  have stay : ∀ i, atPl i qs ms 0 = none → ∀ b ∈ A i, less F' (brwL A qs ms) b = none ∧ ∀ y, H b = some y → H' b = some y := fun i hi b hb => by
    have n1 : ¬ ownd (calA A qs ms) b := fun z => by
      obtain ⟨j, i', h1, h2, h3⟩ := calA_own z
      by_cases ei : i = i'
      · subst ei
        exact atPl_none hi h1 h2
      · exact s.dis i i' ei b hb h3
    refine ⟨?_, fun y hy => g.keep b y hy n1⟩
    by_cases z : b ∈ brwL A qs ms
    · exact less_in z
    · rw [less_out z, g.new b (s.at_ ⟨i, hb⟩).2 n1, plus_out z]
      exact (s.at_ ⟨i, hb⟩).1
  have fresh : ∀ k b, b ∈ A' k → (∃ (j i : Nat), qs[j]? = some (Opd.b i) ∧ ms[j]? = some true ∧ b ∈ A i) ∨ H b = none := fun k b hb =>
    (g.ow b (hP b ⟨k, hb⟩)).elim (fun z => .inl (calA_own z)) .inr
  refine ⟨⟨fun a x q => ?_, by rw [wbk_len]; exact s.len, fun i => ?_, fun i j n b hi hj => ?_, fun i => ?_⟩, le2, fun b w n => ?_, hWr⟩
  · by_cases z : a ∈ brwL A qs ms
    · rw [less_in z] at q; cases q
    · rw [less_out z] at q; exact s'.sub a x q
  · by_cases hi : i < ρ.length
    · rw [wbk_gt hi, Nat.zero_add]
      cases ep : atPl i qs ms 0 with
      | some k =>
        obtain ⟨j, e1, h1, h2⟩ := atPl_some ep
        rw [Nat.zero_add] at e1
        subst e1
        dsimp only
        obtain ⟨v, hv, pv⟩ := hp k _ h1
        have sk := s'.sl k
        rw [List.getElem?_map, hv] at sk
        rw [show σ[i]? = some (some v) from pv]
        by_cases ng : gt os k = .gone
        · rw [ng] at sk ⊢
          exact sk
        · obtain ⟨v', ev, r⟩ := sk.own ng
          cases ev
          refine .mk rfl ?_
          rcases Bool.or_eq_true_iff.mp im with z | z
          · rw [brwL_nil (A := A) z]
            have : less F' [] = F' := by funext b; exact less_out (by simp)
            rw [this]
            exact r
          · refine oimm_less hWr _ _ _ ?_ r
            have : ∀ (os : Rho) (k : Nat), oimms os = true → (gt os k).imm = true := by
              intro os
              induction os with
              | nil => intro k _; rfl
              | cons o os ih =>
                intro k h
                obtain ⟨h1, h2⟩ := Bool.and_eq_true_iff.mp h
                cases k with
                | zero => exact h1
                | succ k => exact ih k h2
            exact this os k z
      | none => exact (s.sl i).mono le2 (stay i ep)
    · have g0 : gt (wbk qs ms os 0 ρ) i = .gone := by
        show (wbk qs ms os 0 ρ).getD i .gone = .gone
        rw [List.getD_eq_getElem?_getD, List.getElem?_eq_none (by rw [wbk_len]; omega)]
        rfl
      rw [g0]
      cases ep : atPl i qs ms 0 with
      | some k =>
        exfalso
        obtain ⟨j, e1, h1, h2⟩ := atPl_some ep
        obtain ⟨v, hv, pv⟩ := hp j _ h1
        have := (List.getElem?_eq_some_iff.mp (show σ[i]? = some (some v) from pv)).1
        rw [← s.len] at this
        exact hi this
      | none =>
        have := s.sl i
        have g1 : gt ρ i = .gone := by
          show ρ.getD i .gone = .gone
          rw [List.getD_eq_getElem?_getD, List.getElem?_eq_none (by omega)]
          rfl
        rw [g1] at this
        exact this
  · try dsimp only at hi hj
    cases ei : atPl i qs ms 0 with
    | some k =>
      rw [ei] at hi
      cases ej : atPl j qs ms 0 with
      | some k' =>
        rw [ej] at hj
        refine s'.dis k k' (fun z => n ?_) b hi hj
        obtain ⟨j1, e1, h1, _⟩ := atPl_some ei
        obtain ⟨j2, e2, h2, _⟩ := atPl_some ej
        have : j1 = j2 := by omega
        subst this
        rw [h1] at h2
        cases h2
        rfl
      | none =>
        rw [ej] at hj
        rcases fresh k b hi with ⟨j', i', h1, h2, h3⟩ | z
        · by_cases ei' : i' = j
          · subst ei'
            exact atPl_none ej h1 h2
          · exact s.dis i' j ei' b h3 hj
        · have := (s.at_ ⟨j, hj⟩).2
          rw [z] at this
          exact this
    | none =>
      rw [ei] at hi
      cases ej : atPl j qs ms 0 with
      | some k' =>
        rw [ej] at hj
        rcases fresh k' b hj with ⟨j', i', h1, h2, h3⟩ | z
        · by_cases ei' : i' = i
          · subst ei'
            exact atPl_none ei h1 h2
          · exact s.dis i' i ei' b h3 hi
        · have := (s.at_ ⟨i, hi⟩).2
          rw [z] at this
          exact this
      | none =>
        rw [ej] at hj
        exact s.dis i j n b hi hj
  · try dsimp only
    split
    · exact s'.nd _
    · exact s.nd _
  · have n1 : b ∉ brwL A qs ms := fun z => by
      obtain ⟨j, i, _, _, h3⟩ := brwL_mem z
      exact n ⟨i, h3⟩
    rw [less_out n1, g.new b w (fun z => n (calSub b z)), plus_out n1]
end
end DL
/-! DL14: f(e, ..). -/
namespace DL
open PySem L2
section
variable {X : Cx} {cl : Nat → Addr} {E : XK} {e : Expr} {es : List Expr} {ts : Rho → Res (List Opd)} {pos p : Pos}
theorem immA_less {K : PySem.W.Frag} {F : Hp} {L : List Addr} (hL : ∀ a ∈ L, Wr (F a)) : ∀ {fs : List (Str × D)} {vs : List (Str × V)}, (fs.all fun p => p.2.imm) = true → RepA K cl F fs vs → RepA K cl (less F L) fs vs
  | [], vs, _, h => h
  | (k, d) :: fs, vs, hi, ⟨u, us, e, r, q⟩ => by
    rw [List.all_cons] at hi
    exact ⟨u, us, e, imm_less hL d u (Bool.and_eq_true_iff.mp hi).1 r, immA_less hL (Bool.and_eq_true_iff.mp hi).2 q⟩
theorem exOk_less {K : PySem.W.Frag} {F H : Hp} {L : List Addr} {x : Exn} {c : Value} {a : Option Addr} (hL : ∀ a ∈ L, Wr (F a)) (hi : x.imm = true) (h : ExOk K cl F H x c a) : ExOk K cl (less F L) H x c a := by
  refine ⟨h.1, ?_⟩
  have h2 := h.2
  unfold Exn.imm at hi
  cases e : x.fs with
  | nil => trivial
  | cons p fs =>
    rw [e] at h2 hi
    obtain ⟨d, vs, e1, e2, r⟩ := h2
    exact ⟨d, vs, e1, e2, immA_less hL hi r⟩
/-- a promise by data is kept at a call -/
theorem call_sp {S : FS} {ms : List Bool} {qs : List Opd} {K : PySem.W.Frag} {F F1 H H1 : Hp} {σ : L2.St} {ρ1 : Rho} {A A1 : Nat → List Addr} {vs : List V} {Q : VK}
    (s1 : Sto K cl F1 H1 σ ρ1 A1) (g1 : Gr (ownd A) (ownd A1) F H F1 H1) (p1 : POks K cl F1 σ qs vs)
    (q : match callR S ms qs ρ1 with
      | .ok ov ρ' => ∀ v F' H' A' B, Sto K cl F' H' σ ρ' A' → Gr (ownd A) (fun b => ownd A' b ∨ b ∈ B) F H F' H' → VOk K cl F' H' σ ov v B → B.Nodup → (∀ b ∈ B, ¬ ownd A' b) → Q v H'
      | .err x ρ' => ErrQ K cl (wE E) (ownd A) F H σ x ρ'
      | .bad => False) : spD K cl S vs H1 Q E := by
  unfold callR at q
  by_cases hn : nodupB (bIx qs) = true
  · rw [if_pos hn] at q
    have nd := nodupB_ok hn
    cases ea : argsO ρ1 qs ms with
    | none => rw [ea] at q; exact q.elim
    | some as =>
      rw [ea] at q
      dsimp only at q
      refine ⟨_, as, _, call_in s1 p1 nd ea, ?_⟩
      unfold FS.ov
      have calSub : ∀ b, ownd (calA A1 qs ms) b → ownd A1 b := fun b h => let ⟨j, i, _, _, h3⟩ := calA_own h; ⟨i, h3⟩
      -- the objects behind the call
      have owOut : ∀ {A' : Nat → List Addr} (b : Addr), ownd (fun i => match atPl i qs ms 0 with
          | some k => A' k
          | none => A1 i) b → ownd A' b ∨ ownd A1 b := fun {A'} b ⟨i, hi⟩ => by
        dsimp only at hi
        split at hi
        · exact .inl ⟨_, hi⟩
        · exact .inr ⟨i, hi⟩
      cases es : S as with
      | bad => rw [es] at q; exact q
      | err x os =>
        rw [es] at q
        dsimp only at q
        intro F' H' A' c a s' g' ex
        by_cases im : (noBrw qs ms || (x.imm && oimms os)) = true
        · rw [if_pos im] at q
          have im1 : (noBrw qs ms || oimms os) = true := by
            rcases Bool.or_eq_true_iff.mp im with z | z
            · rw [z]; rfl
            · rw [(Bool.and_eq_true_iff.mp z).2, Bool.or_true]
          obtain ⟨s2, le2, nw, hW⟩ := call_out s1 p1 nd ea s' g' (fun b h => h) im1
          have ex2 : ExOk K cl (less F' (brwL A1 qs ms)) H' x c a := by
            rcases Bool.or_eq_true_iff.mp im with z | z
            · rw [brwL_nil (A := A1) z]
              have : less F' [] = F' := by funext b; exact less_out (by simp)
              rw [this]
              exact ex
            · exact exOk_less hW (Bool.and_eq_true_iff.mp z).1 ex
          refine q _ H' _ c a s2 (g1.trans ⟨fun b o h n => g'.keep b o h fun z => n (calSub b z), le2, nw, fun b h => ?_⟩) ex2
          rcases owOut b h with z | z
          · exact (g'.ow b z).elim (fun z => .inl (calSub b z)) .inr
          · exact .inl z
        · rw [if_neg im] at q
          exact q.elim
      | ok o os =>
        rw [es] at q
        dsimp only at q
        intro v F' H' A' B s' g' r ndB dj
        by_cases im : (noBrw qs ms || (o.imm && oimms os)) = true
        · rw [if_pos im] at q
          have im1 : (noBrw qs ms || oimms os) = true := by
            rcases Bool.or_eq_true_iff.mp im with z | z
            · rw [z]; rfl
            · rw [(Bool.and_eq_true_iff.mp z).2, Bool.or_true]
          obtain ⟨s2, le2, nw, hW⟩ := call_out s1 p1 nd ea s' g' (fun b h => .inl h) im1
          have r2 : Own K cl (less F' (brwL A1 qs ms)) H' o v B := by
            rcases Bool.or_eq_true_iff.mp im with z | z
            · rw [brwL_nil (A := A1) z]
              have : less F' [] = F' := by funext b; exact less_out (by simp)
              rw [this]
              exact r
            · exact oimm_less hW o v B (Bool.and_eq_true_iff.mp z).1 r
          refine q v _ H' _ B s2 (g1.trans ⟨fun b o h n => g'.keep b o h fun z => n (calSub b z), le2, nw, fun b h => ?_⟩) r2 ndB fun b hb z => ?_
          · rcases h with z | z
            · rcases owOut b z with z | z
              · exact (g'.ow b (.inl z)).elim (fun z => .inl (calSub b z)) .inr
              · exact .inl z
            · exact (g'.ow b (.inr z)).elim (fun z => .inl (calSub b z)) .inr
          · obtain ⟨i, hi⟩ := z
            dsimp only at hi
            split at hi
            · exact dj b hb ⟨_, hi⟩
            · rename_i ep
              rcases g'.ow b (.inr hb) with z | z
              · obtain ⟨j', i', h1, h2, h3⟩ := calA_own z
                by_cases ei : i' = i
                · subst ei
                  exact atPl_none ep h1 h2
                · exact s1.dis i' i ei b h3 hi
              · have := (s1.at_ ⟨i, hi⟩).2
                rw [z] at this
                exact this
        · rw [if_neg im] at q
          exact q.elim
  · rw [if_neg hn] at q
    exact q.elim
theorem ee_call {S : FS} {ms : List Bool} {k : Nat} {f : Addr} {fd : FuncData} {ps : List Str} {x : Str} (Fn : FnOk X.prog X.w X.K X.mg X.base (L2.CX X.prog X.w) k f fd ps (spD X.K cl S)) (hr : Room k X.A) (hg : Gl X x) (hm : X.mg x = some (.ref f)) (hk : PySem.W.keepIn X.K (.ref f) = true) (hb : Binds X.K fd ps [])
    (hx : Passes (L2.CX X.prog X.w) X E) (ha : EA X cl (wE E) (e :: es) ts) (hdb : (x == ("__debug__" : Str)) = false := by decide) (he : starEach (e :: es) X.env = (false, eval e X.env) :: starEach es X.env := by rfl) (hpl : (backTo pos (starEach es X.env)).any (·.1) = false := by rfl) :
    EE X cl (wE E) (.Call (.Name x p) (e :: es) [] pos) (evCall S ms ts) := by
  refine PE.imp (pe_call Fn hr hg hm hk hb .nil hx ha hdb he hpl) fun σ H Q ⟨F, ρ, A, s, q⟩ => ⟨F, ρ, A, s, ?_⟩
  unfold evCall at q
  cases e1 : ts ρ with
  | bad => rw [e1] at q; exact q
  | err x ρ' => rw [e1] at q; exact q
  | ok qs ρ1 =>
    rw [e1] at q
    intro vs F1 H1 A1 s1 g1 p1
    rw [List.append_nil]
    exact call_sp s1 g1 p1 q
theorem ee_call0 {S : FS} {k : Nat} {f : Addr} {fd : FuncData} {ps : List Str} {x : Str} (Fn : FnOk X.prog X.w X.K X.mg X.base (L2.CX X.prog X.w) k f fd ps (spD X.K cl S)) (hr : Room k X.A) (hg : Gl X x) (hm : X.mg x = some (.ref f)) (hk : PySem.W.keepIn X.K (.ref f) = true) (hb : Binds X.K fd ps [])
    (hx : Passes (L2.CX X.prog X.w) X E) (hdb : (x == ("__debug__" : Str)) = false := by decide) : EE X cl (wE E) (.Call (.Name x p) [] [] pos) (evCall S [] evNil) := by
  refine PE.imp (pe_call0 Fn hr hg hm hk hb .nil hx hdb) fun σ H Q ⟨F, ρ, A, s, q⟩ => ?_
  unfold evCall at q
  exact call_sp (ms := []) (qs := []) (vs := []) s Gr.refl (show POks X.K cl F σ [] [] from rfl) q
end
end DL
/-! DL15: chains of comparisons, globals, a def's place, the law's end. -/
namespace DL
open PySem L2
section
variable {X : Cx} {cl : Nat → Addr} {W : WX} {E : XK} {e a b c : Expr} {ta tb tc : Rho → Res Opd} {pos p : Pos}
/-- a comparison: as a value and as a test -/
def CC (X : Cx) (cl : Nat → Addr) (W : WX) (e : Expr) (t : Rho → Res OV) : Prop := ∃ u : TE, PE X e u ∧ PT X e (tTest u) ∧ ∀ σ H Q, LE X.K cl W t σ H Q → u σ H Q
@[simp] def evChain (f g : List D → Option OD) (ta tb tc : Rho → Res Opd) : Rho → Res OV := fun ρ => (ta ρ).bind fun x ρ1 => (tb ρ1).bind fun y ρ2 => (fin f [x, y] ρ2).bind fun o ρ3 => match o.bool with
  | some true => (tc ρ3).bind fun z ρ4 => fin g [y, z] ρ4
  | some false => .ok (ovB false) ρ3
  | none => .bad
theorem fin_state {f : List D → Option OD} {qs : List Opd} {ρ ρ' : Rho} {o : OV} (h : fin f qs ρ = .ok o ρ') : ρ' = ρ := by
  unfold fin at h
  split at h
  · cases h
  · split at h
    · cases h
    · split at h
      · cases h; rfl
      · cases h
theorem cc_chain {op op' : CmpOp} {f g : List D → Option OD} (ho : ∃ r, OpR X (compareOp op) r ∧ PrimOk X.K cl f (R2L r)) (ho' : ∃ r, OpR X (compareOp op') r ∧ PrimOk X.K cl g (R2L r)) (ha : EP' X cl W a ta) (hb : EP' X cl W b tb) (hc : EP' X cl W c tc)
    (hm : lastMarks [op, op'] [b, c] = false := by with_unfolding_all rfl) : CC X cl W (.Compare a [op, op'] [b, c] pos) (evChain f g ta tb tc) := by
  obtain ⟨r, o1, pr⟩ := ho
  obtain ⟨r', o2, pr'⟩ := ho'
  refine ⟨_, pe_chain o1 o2 ha hb hc hm, pt_chain o1 o2 ha hb hc hm, fun σ H Q ⟨F, ρ, A, s, q⟩ => ⟨F, ρ, A, s, ?_⟩⟩
  unfold evChain at q
  cases e1 : ta ρ with
  | bad => rw [e1] at q; exact q
  | err x ρ' => rw [e1] at q; exact q
  | ok x ρ1 =>
    rw [e1] at q
    intro v F1 H1 A1 s1 g1 p1
    refine ⟨F1, ρ1, A1, s1, ?_⟩
    dsimp only [Res.bind] at q
    cases e2 : tb ρ1 with
    | bad => rw [e2] at q; exact q
    | err x ρ' => rw [e2] at q; exact ErrQ.pre q g1
    | ok y ρ2 =>
      rw [e2] at q
      intro u F2 H2 A2 s2 g2 p2
      dsimp only at q
      cases e3 : fin f [x, y] ρ2 with
      | bad => rw [e3] at q; exact q.elim
      | err x' ρ' =>
        exfalso
        unfold fin at e3
        split at e3
        · cases e3
        · split at e3
          · cases e3
          · split at e3 <;> cases e3
      | ok o ρ3 =>
        rw [e3] at q
        dsimp only at q
        cases e4 : o.bool with
        | none => rw [e4] at q; exact q.elim
        | some k =>
          rw [e4] at q
          cases OV.bool_some e4
          obtain ⟨x', y', ex, hr⟩ := fin_ok (vs := [v, u]) (Q := fun z H3 => ∃ k, z = .bl k ∧ (if k = true then LP X.K cl W tc σ H3 fun w' H4 => r' u w' H4 Q else Q (.bl false) H3)) pr s2 (qs := [x, y]) ⟨v, _, rfl, p1.mono g2.ff, u, _, rfl, p2, rfl⟩ e3 fun z F3 H3 A3 B s3 g3 r3 nd dj => by
            obtain ⟨rfl, rfl⟩ := own_bl (H := H3) r3
            refine ⟨k, rfl, ?_⟩
            have gg := (g1.trans g2).trans (gr0 g3)
            cases k with
            | false =>
              rw [if_neg (by decide)]
              exact q _ F3 H3 A3 [] s3 (gr1 gg) (own_mk (H := H3)) nd dj
            | true =>
              rw [if_pos rfl]
              refine ⟨F3, ρ3, A3, s3, ?_⟩
              dsimp only at q
              cases e5 : tc ρ3 with
              | bad => rw [e5] at q; exact q
              | err x' ρ' => rw [e5] at q; exact ErrQ.pre q gg
              | ok z' ρ4 =>
                rw [e5] at q
                intro w4 F4 H4 A4 s4 g4 p4
                obtain ⟨_, _, e6, h⟩ := fin_end pr' s4 (gg.trans g4) (qs := [y, z']) (vs := [u, w4]) ⟨u, _, rfl, (p2.mono (g3.ff.trans g4.ff)), w4, _, rfl, p4, rfl⟩ q
                cases e6
                exact h
          cases ex
          exact hr
/-! ### comparisons as tests -/
theorem PT.or {e : Expr} {t t' : TT} (h : PT X e t) (h' : PT X e t') : PT X e (fun σ H Q => t σ H Q ∨ t' σ H Q) := ⟨fun pins s σ H Q I q => q.elim (h.run pins s σ H Q I) (h'.run pins s σ H Q I)⟩
theorem ee_cc {t : Rho → Res OV} (h : CC X cl W e t) : EE X cl W e t := let ⟨_, h1, _, h3⟩ := h; PE.imp h1 h3
theorem et_cc {t : Rho → Res OV} (h : CC X cl W e t) : ET X cl W e (evT (evP t)) := by
  obtain ⟨u, _, h2, h3⟩ := h
  refine PT.imp h2 fun σ H Q ⟨F, ρ, A, s, q⟩ => h3 σ H _ ⟨F, ρ, A, s, ?_⟩
  unfold evT evP at q
  cases e1 : t ρ with
  | bad => rw [e1] at q; exact q
  | err x ρ' => rw [e1] at q; exact q
  | ok o ρ1 =>
    rw [e1] at q
    dsimp only [Res.bind] at q
    intro v F1 H1 A1 B s1 g1 r1 nd dj
    cases e2 : o.opd.bool with
    | none => rw [e2] at q; exact q.elim
    | some b =>
      rw [e2] at q
      cases o with
      | b i => cases e2
      | o o' =>
        have e3 := Opd.bool_some e2
        obtain ⟨s2, r2, le, out⟩ := freeze s1 r1 dj
        have e4 : o'.toD = .v (.bl b) := by
          injection e3
        rw [e4] at r2
        exact ⟨b, r2.1, q _ H1 A1 s2 (g1.frozen le)⟩
theorem rd_2 {ta tb : Rho → Res Opd} {f : List D → Option OD} {r : R2} (pr : PrimOk X.K cl f (R2L r)) : ∀ σ H Q, LE X.K cl W (ev2 f ta tb) σ H Q → tOp r (LP X.K cl W ta) (LP X.K cl W tb) σ H Q := fun σ H Q ⟨F, ρ, A, s, q⟩ => ⟨F, ρ, A, s, by
  unfold ev2 at q
  cases e1 : ta ρ with
  | bad => rw [e1] at q; exact q
  | err x ρ' => rw [e1] at q; exact q
  | ok x ρ1 =>
    rw [e1] at q
    intro v F1 H1 A1 s1 g1 p1
    refine ⟨F1, ρ1, A1, s1, ?_⟩
    dsimp only [Res.bind] at q
    cases e2 : tb ρ1 with
    | bad => rw [e2] at q; exact q
    | err x ρ' => rw [e2] at q; exact ErrQ.pre q g1
    | ok y ρ2 =>
      rw [e2] at q
      intro u F2 H2 A2 s2 g2 p2
      obtain ⟨_, _, e, h⟩ := fin_end pr s2 (g1.trans g2) (qs := [x, y]) (vs := [v, u]) ⟨v, _, rfl, p1.mono g2.ff, u, _, rfl, p2, rfl⟩ q
      cases e
      exact h⟩
theorem cc_cmp {op : CmpOp} {f : List D → Option OD} (h : ∃ r, OpR X (compareOp op) r ∧ PrimOk X.K cl f (R2L r)) (ha : EP' X cl W a ta) (hb : EP' X cl W b tb) (hm : behindInMarks op b = false := by rfl) : CC X cl W (.Compare a [op] [b] pos) (ev2 f ta tb) :=
  let ⟨_, h1, h2⟩ := h; ⟨_, pe_cmpR h1 ha hb hm, pt_cmpR h1 ha hb hm, rd_2 h2⟩
theorem cc_alt {f g : List D → Option OD} (h : CC X cl W e (ev2 f ta tb)) (h' : CC X cl W e (ev2 g ta tb)) : CC X cl W e (ev2 (alt f g) ta tb) := by
  obtain ⟨u, h1, h2, h3⟩ := h
  obtain ⟨u', h1', h2', h3'⟩ := h'
  refine ⟨fun σ H Q => u σ H Q ∨ u' σ H Q, PE.or h1 h1', PT.or h2 h2', fun σ H Q ⟨F, ρ, A, s, q⟩ => ?_⟩
  have : ev2 (alt f g) ta tb ρ = ev2 f ta tb ρ ∨ ev2 (alt f g) ta tb ρ = ev2 g ta tb ρ := by
    unfold ev2
    cases ta ρ with
    | bad => exact .inl rfl
    | err _ _ => exact .inl rfl
    | ok x ρ1 =>
      show (tb ρ1).bind _ = (tb ρ1).bind _ ∨ (tb ρ1).bind _ = (tb ρ1).bind _
      cases tb ρ1 with
      | bad => exact .inl rfl
      | err _ _ => exact .inl rfl
      | ok y ρ2 => exact fin_alt
  rcases this with z | z
  · rw [z] at q; exact .inl (h3 σ H Q ⟨F, ρ, A, s, q⟩)
  · rw [z] at q; exact .inr (h3' σ H Q ⟨F, ρ, A, s, q⟩)
theorem cc_in (hu : X.A.units + 1 < cLine) (ha : EP' X cl W a ta) (hb : EP' X cl W b tb) (hm : behindInMarks .In b = false := by rfl) : CC X cl W (.Compare a [.In] [b] pos) (ev2 (fIn false) ta tb) :=
  cc_alt (cc_cmp ⟨_, op_in_str.or op_in_seq, PrimOk.alt2 (pr_ss0 fun _ _ => trivial) pr_in⟩ ha hb hm) ⟨_, pe_cmp (pc_din hu ha hb) hm, pt_cmp (pc_din hu ha hb) hm, fun σ H Q h => rd_2 pr_din σ H Q h⟩
theorem cc_notin (hu : X.A.units + 1 < cLine) (ha : EP' X cl W a ta) (hb : EP' X cl W b tb) (hm : behindInMarks .NotIn b = false := by rfl) : CC X cl W (.Compare a [.NotIn] [b] pos) (ev2 (fIn true) ta tb) :=
  cc_alt (cc_cmp ⟨_, op_notIn_str.or op_notIn_seq, PrimOk.alt2 (pr_ss0 fun _ _ => trivial) pr_in⟩ ha hb hm) ⟨_, pe_cmp (pc_dnotin hu ha hb) hm, pt_cmp (pc_dnotin hu ha hb) hm, fun σ H Q h => rd_2 pr_din σ H Q h⟩
/-! ### globals -/
theorem pe_gint {x : Str} {i : Int} (hg : Gl X x) (h : ∃ t, X.mg x = some (.int i t)) (hd : (x == ("__debug__" : Str)) = false := by decide) : PE X (.Name x pos) (tC (.int i)) := let ⟨t, h⟩ := h; pe_glob hg h ⟨t, rfl⟩ hd
theorem pe_gstr {x : Str} {i : Str} (hg : Gl X x) (h : ∃ t, X.mg x = some (.str i t)) (hd : (x == ("__debug__" : Str)) = false := by decide) : PE X (.Name x pos) (tC (.str i)) := let ⟨t, h⟩ := h; pe_glob hg h ⟨t, rfl⟩ hd
theorem ee_gint {x : Str} {i : Int} (hg : Gl X x) (h : ∃ t, X.mg x = some (.int i t)) (hd : (x == ("__debug__" : Str)) = false := by decide) : EE X cl W (.Name x pos) (evC (.v (.int i))) := ee_c trivial (pe_gint hg h hd)
theorem ee_gstr {x : Str} {i : Str} (hg : Gl X x) (h : ∃ t, X.mg x = some (.str i t)) (hd : (x == ("__debug__" : Str)) = false := by decide) : EE X cl W (.Name x pos) (evC (.v (.str i))) := ee_c trivial (pe_gstr hg h hd)
/-- a built-in class as a value -/
theorem ee_ty {x : Str} {T : String} (hg : Gl X x) (hm : X.mg x = none) (hv : bootBuiltins x = some (.type T)) (hn : x ≠ "__name__" := by decide) (hd : (x == ("__debug__" : Str)) = false := by decide) : EE X cl W (.Name x pos) (evC (.v (.ty T))) := ee_c trivial (pe_bltn (v := .ty T) hg hm hv rfl hn hd)
end

section
variable {P : Program} {w : World} {K : PySem.W.Frag} {mg : Str → Option Value} {base : Heap} {N : List Str} {qual : Str} {sc : Scope} {f : Addr} {cdv : Value} {A : Around} {outer : List Env} {s : Shared} {H : Hp} {E : XK}
theorem tkd : Takes (cxOf (L2.CX P w) P w K mg base N qual sc f cdv A outer s H E) (wE E) := takes_of rfl rfl rfl rfl
theorem px : Passes (L2.CX P w) (cxOf (L2.CX P w) P w K mg base N qual sc f cdv A outer s H E) E := passes_call tkd fun _ _ _ _ h => h
theorem pown : PassesOwn (model P w) (cxOf (L2.CX P w) P w K mg base N qual sc f cdv A outer s H E).A (cxOf (L2.CX P w) P w K mg base N qual sc f cdv A outer s H E).env (cxOf (L2.CX P w) P w K mg base N qual sc f cdv A outer s H E).xe := passes_of rfl
/-- where a def stands -/
structure DefAt (K : PySem.W.Frag) (mg : Str → Option Value) (x : Str) (st : Stmt) (ps : List Str) (f : Addr) (fd : FuncData) : Prop where
  fn : Fun K x x st f fd
  g : mg x = some (.ref f)
  bd : Binds K fd ps []
  kp : PySem.W.keepIn K (.ref f) = true
  ba : ∀ us : List Value, us.length = ps.length → bindArgs fd ⟨us, []⟩ = pure (ps.zip us)
theorem def_mk {h : Heap} {x : Str} {st : Stmt} {ps : List Str} (X : K.In h) (G : h.Ns mainGlobals mg) {f : Addr} {od an : Option Addr} {sl : Array (Option Value)} {oc kV dc pm cd ct : Value}
    (a : PySem.W.nsIn K mainGlobals x = some (some (.ref f))) (l : K.lookup f = some ⟨oc, od, .func (PySem.W.fnOf x x (defArgs st) (defBody st) (defScope st) .none kV dc pm an cd ct), sl⟩)
    (c : PySem.W.codeIn K cd x = true) (k : PySem.W.keepIn K (.ref f) = true)
    (hb : ∀ (kV doc pm : Value) (an : Option Addr) (cdv ct : Value) (us : List Value), us.length = ps.length → bindArgs (PySem.W.fnOf x x (defArgs st) (defBody st) (defScope st) .none kV doc pm an cdv ct) ⟨us, []⟩ = pure (ps.zip us)) :
    ∃ f fd, DefAt K mg x st ps f fd :=
  have F1 := fun_mk (st := st) l c k
  ⟨f, _, F1, PySem.W.mg_of X G a, F1.binds (ps := ps) hb, k, fun us e => hb _ _ _ _ _ _ us e⟩
end
/-- the law's promise from its data -/
theorem law_sp {K : PySem.W.Frag} {cl : Nat → Addr} {S : FS} {H : Hp} {a : Addr} {ns : List Int} (hS : SqL K H a (ns.map V.int)) (h : ∃ ρ', S [.fz (.lst (ns.map fun n => .v (.int n)))] = .ok (.fz (.v (.bl true))) ρ') :
    spD K cl S [.ref a] H (fun v _ => v = .bl true) fun _ _ _ => False := by
  obtain ⟨ρ', h⟩ := h
  have rp : ∀ (F : Hp) (ns : List Int), Reps K cl F (ns.map fun n => D.v (.int n)) (ns.map V.int) := fun F ns => by
    induction ns with
    | nil => rfl
    | cons n ns ih => exact ⟨_, _, rfl, ⟨rfl, trivial⟩, ih⟩
  have hF : SqL K (fun b => if b = a then H a else none) a (ns.map V.int) := by
    rcases hS with (z | ⟨o, z⟩) | z
    · exact .inl (.inl ((if_pos rfl).trans z))
    · exact .inl (.inr ⟨o, (if_pos rfl).trans z⟩)
    · exact .inr z
  refine ⟨fun b => if b = a then H a else none, [.fz (.lst (ns.map fun n => .v (.int n)))], fun _ => [], ⟨fun b o e => ?_, rfl, fun i => ?_, fun _ _ _ b z => (by cases z), fun _ => List.nodup_nil⟩, ?_⟩
  · split at e
    · rename_i z
      rw [z]
      exact ⟨.inl e, fun _ => e⟩
    · cases e
  · cases i with
    | zero => exact ⟨.ref a, rfl, rfl, a, _, rfl, hF, rp _ ns⟩
    | succ i => rfl
  · unfold FS.ov
    rw [h]
    exact fun v F' H' A' B _ _ r _ _ => r.2.1
theorem no_cx {P : Program} {w : World} (H : Hp) (s : Shared) (e : Value) (s' : Shared) (h : L2.CX P w [] H s (fun _ _ _ => False) e s') : False := by
  obtain ⟨_, _, _, _, _, _, _, _, _, _, _, _, z⟩ := h
  exact z
end DL
/-! DL16: arguments that are new data of their own, handed to what changes them. -/
namespace DL
open PySem L2
def LX (K : PySem.W.Frag) (cl : Nat → Addr) (W : WX) (t : Rho → Res (List Opd × Rho)) : TA := fun σ H Q => ∃ F ρ A, Sto K cl F H σ ρ A ∧ match t ρ with
  | .ok z ρ' => ∀ (vs tv : List V) (F' H' : Hp) (A' : Nat → List Addr), tv.length = z.2.length → ρ'.length = σ.length → Sto K cl F' H' (σ ++ tv.map some) (ρ' ++ z.2) A' → Gr (ownd A) (ownd A') F H F' H' → POks K cl F' (σ ++ tv.map some) z.1 vs → Q vs H'
  | .err x ρ' => ErrQ K cl W (ownd A) F H σ x ρ'
  | .bad => False
def EX (X : Cx) (cl : Nat → Addr) (W : WX) (es : List Expr) (t : Rho → Res (List Opd × Rho)) : Prop := PA X es (LX X.K cl W t)
@[simp] def evXNil : Rho → Res (List Opd × Rho) := fun ρ => .ok ([], []) ρ
@[simp] def isOwn : OV → Option OD
  | .o (.fz _) => none
  | .o .gone => none
  | .o x => some x
  | .b _ => none
@[simp] def evXCons (t : Rho → Res OV) (ts : Rho → Res (List Opd × Rho)) : Rho → Res (List Opd × Rho) := fun ρ => (t ρ).bind fun ov ρ1 => match isOwn ov with
  | some x => (ts ρ1).bind fun z ρ2 => .ok (.b (ρ2.length + z.2.length) :: z.1, z.2 ++ [x]) ρ2
  | none => (ts ρ1).bind fun z ρ2 => .ok (ov.opd :: z.1, z.2) ρ2
section
variable {X : Cx} {cl : Nat → Addr} {W : WX} {E : XK} {e : Expr} {es : List Expr} {pos p : Pos}
theorem Sto.push {K : PySem.W.Frag} {F H : Hp} {σ : L2.St} {ρ : Rho} {A : Nat → List Addr} {o : OD} {v : V} {B : List Addr} (s : Sto K cl F H σ ρ A) (r : Own K cl F H o v B) (nd : B.Nodup) (dj : ∀ b ∈ B, ¬ ownd A b) :
    Sto K cl F H (σ ++ [some v]) (ρ ++ [o]) (fun i => if i = ρ.length then B else A i) := by
  have hlen := s.len
  refine ⟨s.sub, by simp [hlen], fun i => ?_, fun i j n b hi hj => ?_, fun i => ?_⟩
  · by_cases e : i = ρ.length
    · subst e
      rw [if_pos rfl]
      have e1 : gt (ρ ++ [o]) ρ.length = o := by
        show (ρ ++ [o]).getD ρ.length .gone = o
        rw [List.getD_eq_getElem?_getD]
        simp
      rw [e1]
      refine .mk (v := v) ?_ r
      rw [hlen]
      simp
    · rw [if_neg e]
      by_cases h : i < ρ.length
      · have e1 : gt (ρ ++ [o]) i = gt ρ i := by
          show (ρ ++ [o]).getD i .gone = ρ.getD i .gone
          rw [List.getD_eq_getElem?_getD, List.getD_eq_getElem?_getD, List.getElem?_append_left h]
        rw [e1, List.getElem?_append_left (by rw [← hlen]; exact h)]
        exact s.sl i
      · have e1 : gt (ρ ++ [o]) i = .gone := by
          show (ρ ++ [o]).getD i .gone = .gone
          rw [List.getD_eq_getElem?_getD, List.getElem?_eq_none (by rw [List.length_append]; simp; omega)]
          rfl
        rw [e1]
        have := s.sl i
        have e2 : gt ρ i = .gone := by
          show ρ.getD i .gone = .gone
          rw [List.getD_eq_getElem?_getD, List.getElem?_eq_none (by omega)]
          rfl
        rw [e2] at this
        exact this
  · try dsimp only at hi hj
    by_cases e : i = ρ.length
    · rw [if_pos e] at hi
      rw [if_neg (fun z => n (e.trans z.symm))] at hj
      exact dj b hi ⟨j, hj⟩
    · rw [if_neg e] at hi
      by_cases e' : j = ρ.length
      · rw [if_pos e'] at hj
        exact dj b hj ⟨i, hi⟩
      · rw [if_neg e'] at hj
        exact s.dis i j n b hi hj
  · try dsimp only
    split
    · exact nd
    · exact s.nd i
theorem Sto.cut {K : PySem.W.Frag} {F H : Hp} {σ τ : L2.St} {ρ : Rho} {A : Nat → List Addr} (s : Sto K cl F H (σ ++ τ) ρ A) : Sto K cl F H σ (ρ.take σ.length) (fun i => if i < σ.length then A i else []) := by
  have hlen := s.len
  rw [List.length_append] at hlen
  refine ⟨s.sub, by rw [List.length_take]; omega, fun i => ?_, fun i j n b hi hj => ?_, fun i => ?_⟩
  · by_cases h : i < σ.length
    · rw [if_pos h]
      have e1 : gt (ρ.take σ.length) i = gt ρ i := by
        show (ρ.take σ.length).getD i .gone = ρ.getD i .gone
        rw [List.getD_eq_getElem?_getD, List.getD_eq_getElem?_getD, List.getElem?_take, if_pos h]
      have := s.sl i
      rw [List.getElem?_append_left h] at this
      rw [e1]
      exact this
    · rw [if_neg h]
      have e1 : gt (ρ.take σ.length) i = .gone := by
        show (ρ.take σ.length).getD i .gone = .gone
        rw [List.getD_eq_getElem?_getD, List.getElem?_take, if_neg h]
        rfl
      rw [e1]
      rfl
  · try dsimp only at hi hj
    split at hi
    · split at hj
      · exact s.dis i j n b hi hj
      · cases hj
    · cases hi
  · try dsimp only
    split
    · exact s.nd i
    · exact List.nodup_nil
theorem cut_ownd {A : Nat → List Addr} {n : Nat} {b : Addr} (h : ownd (fun i => if i < n then A i else []) b) : ownd A b := by
  obtain ⟨i, hi⟩ := h
  dsimp only at hi
  split at hi
  · exact ⟨i, hi⟩
  · cases hi
theorem ex_nil : EX X cl W [] evXNil := PA.imp pa_nil fun σ H Q ⟨F, ρ, A, s, q⟩ => q [] [] F H A rfl s.len (by simpa using s) Gr.refl rfl
theorem POk.app {K : PySem.W.Frag} {F : Hp} {σ τ : L2.St} {q : Opd} {v : V} (h : POk K cl F σ q v) : POk K cl F (σ ++ τ) q v := by
  cases q with
  | d d => exact h
  | b i =>
    have h' : σ[i]? = some (some v) := h
    show (σ ++ τ)[i]? = some (some v)
    rw [List.getElem?_append_left (List.getElem?_eq_some_iff.mp h').1]
    exact h'
theorem POks.app {K : PySem.W.Frag} {F : Hp} {σ τ : L2.St} : ∀ {qs : List Opd} {vs : List V}, POks K cl F σ qs vs → POks K cl F (σ ++ τ) qs vs
  | [], _, h => h
  | q :: qs, _, ⟨u, us, e, p, h⟩ => ⟨u, us, e, p.app, POks.app h⟩
theorem isOwn_some {ov : OV} {x : OD} (h : isOwn ov = some x) : ov = .o x := by
  cases ov with
  | b i => cases h
  | o y => cases y <;> cases h <;> rfl
theorem ex_cons {t : Rho → Res OV} {ts : Rho → Res (List Opd × Rho)} (h : EE X cl W e t) (hs : EX X cl W es ts) (he : starEach (e :: es) X.env = (false, eval e X.env) :: starEach es X.env := by rfl) : EX X cl W (e :: es) (evXCons t ts) := by
  refine PA.imp (pa_cons h hs he) fun σ H Q ⟨F, ρ, A, s, q⟩ => ⟨F, ρ, A, s, ?_⟩
  unfold evXCons at q
  cases e1 : t ρ with
  | bad => rw [e1] at q; exact q
  | err x ρ' => rw [e1] at q; exact q
  | ok ov ρ1 =>
    rw [e1] at q
    dsimp only [Res.bind] at q
    intro v F1 H1 A1 B s1 g1 r1 nd dj
    cases e2 : isOwn ov with
    | some x =>
      cases isOwn_some e2
      rw [e2] at q
      dsimp only at q
      have gA : Gr (ownd A) (ownd A1) F H F1 H1 := g1.sub fun b z => .inl z
      refine ⟨F1, ρ1, A1, s1, ?_⟩
      cases e3 : ts ρ1 with
      | bad => rw [e3] at q; exact q
      | err x ρ' => rw [e3] at q; exact ErrQ.pre q gA
      | ok z ρ2 =>
        rw [e3] at q
        intro us tv F2 H2 A2 l1 l2 s2 g2 p2
        have fr : ∀ b ∈ B, F2 b = none ∧ ∀ y, H1 b = some y → H2 b = some y := fun b hb => by
          obtain ⟨f0, w0⟩ := own_at _ _ _ r1 b hb
          exact ⟨(g2.new b w0 (dj b hb)).trans f0, fun y hy => g2.keep b y hy (dj b hb)⟩
        have r2 : Own X.K cl F2 H2 x v B := own_mono g2.ff _ _ _ fr r1
        have dj2 : ∀ b ∈ B, ¬ ownd A2 b := fun b hb z => by
          rcases g2.ow b z with y | y
          · exact dj b hb y
          · have := (own_at _ _ _ r1 b hb).2
            rw [y] at this
            exact this
        have s3 := s2.push r2 nd dj2
        have el : (ρ2 ++ z.2).length = ρ2.length + z.2.length := List.length_append
        rw [el] at s3
        refine q (v :: us) (tv ++ [v]) F2 H2 (fun i => if i = ρ2.length + z.2.length then B else A2 i) (by simp [l1]) l2 (by simpa using s3) ⟨fun b o h n => g2.keep b o (g1.keep b o h n) fun y => (g1.ow b (.inl y)).elim n fun y => (by rw [h] at y; cases y), g1.ff.trans g2.ff, fun b w n => ?_, fun b ⟨i, hi⟩ => ?_⟩ ⟨v, us, rfl, ?_, ?_⟩
        · obtain ⟨o, ho⟩ := wr_some w
          have k1 := g1.keep b o ho n
          exact (g2.new b (by rw [k1, ← ho]; exact w) fun y => (g1.ow b (.inl y)).elim n fun y => (by rw [ho] at y; cases y)).trans (g1.new b w n)
        · dsimp only at hi
          split at hi
          · exact g1.ow b (.inr hi)
          · exact (gA.trans g2).ow b ⟨i, hi⟩
        · show (σ ++ List.map some (tv ++ [v]))[ρ2.length + z.2.length]? = some (some v)
          rw [List.map_append, ← List.append_assoc, List.getElem?_append_right (by simp; omega)]
          have : ρ2.length + z.2.length - (σ ++ List.map some tv).length = 0 := by simp; omega
          rw [this]
          rfl
        · have := POks.app (τ := [some v]) p2
          rw [List.append_assoc] at this
          simpa using this
    | none =>
      rw [e2] at q
      dsimp only at q
      have key : ∃ F1', Sto X.K cl F1' H1 σ ρ1 A1 ∧ Gr (ownd A) (ownd A1) F H F1' H1 ∧ POk X.K cl F1' σ ov.opd v := by
        cases ov with
        | b i => exact ⟨F1, s1, g1.sub fun b z => .inl z, r1.2⟩
        | o x =>
          obtain ⟨s2, r2, le, out⟩ := freeze s1 r1 dj
          exact ⟨_, s2, g1.frozen le, r2⟩
      obtain ⟨F1', s1', gA, pv⟩ := key
      refine ⟨F1', ρ1, A1, s1', ?_⟩
      cases e3 : ts ρ1 with
      | bad => rw [e3] at q; exact q
      | err x ρ' => rw [e3] at q; exact ErrQ.pre q gA
      | ok z ρ2 =>
        rw [e3] at q
        intro us tv F2 H2 A2 l1 l2 s2 g2 p2
        exact q (v :: us) tv F2 H2 A2 l1 l2 s2 (gA.trans g2) ⟨v, us, rfl, (pv.mono g2.ff).app, p2⟩
@[simp] def cutR (n : Nat) : Res OV → Res OV
  | .ok ov ρ => .ok ov (ρ.take n)
  | .err x ρ => .err x (ρ.take n)
  | .bad => .bad
@[simp] def evCallX (S : FS) (ms : List Bool) (ts : Rho → Res (List Opd × Rho)) : Rho → Res OV := fun ρ => (ts ρ).bind fun z ρ1 => cutR ρ1.length (callR S ms z.1 (ρ1 ++ z.2))
theorem callR_o {S : FS} {ms : List Bool} {qs : List Opd} {ρ ρ' : Rho} {ov : OV} (h : callR S ms qs ρ = .ok ov ρ') : ∃ o, ov = .o o := by
  unfold callR at h
  split at h
  · split at h
    · cases h
    · split at h
      · split at h
        · cases h; exact ⟨_, rfl⟩
        · cases h
      · split at h <;> cases h
      · cases h
  · cases h
theorem callX_sp {S : FS} {ms : List Bool} {K : PySem.W.Frag} {F F1 H H1 : Hp} {σ : L2.St} {z : List Opd × Rho} {ρ1 : Rho} {A A1 : Nat → List Addr} {vs tv : List V} {Q : VK} (l2 : ρ1.length = σ.length)
    (s1 : Sto K cl F1 H1 (σ ++ tv.map some) (ρ1 ++ z.2) A1) (g1 : Gr (ownd A) (ownd A1) F H F1 H1) (p1 : POks K cl F1 (σ ++ tv.map some) z.1 vs)
    (q : match cutR ρ1.length (callR S ms z.1 (ρ1 ++ z.2)) with
      | .ok ov ρ' => ∀ v F' H' A' B, Sto K cl F' H' σ ρ' A' → Gr (ownd A) (fun b => ownd A' b ∨ b ∈ B) F H F' H' → VOk K cl F' H' σ ov v B → B.Nodup → (∀ b ∈ B, ¬ ownd A' b) → Q v H'
      | .err x ρ' => ErrQ K cl (wE E) (ownd A) F H σ x ρ'
      | .bad => False) : spD K cl S vs H1 Q E := by
  refine call_sp (ms := ms) s1 g1 p1 ?_
  cases e : callR S ms z.1 (ρ1 ++ z.2) with
  | bad => rw [e] at q; exact q
  | err x ρ' =>
    rw [e] at q
    intro F' H' A' c a s' g' ex
    have s2 := s'.cut
    rw [l2] at q
    exact q F' H' _ c a s2 (g'.sub fun b h => cut_ownd h) ex
  | ok ov ρ' =>
    obtain ⟨o, rfl⟩ := callR_o e
    rw [e] at q
    intro v F' H' A' B s' g' r nd dj
    have s2 := s'.cut
    rw [l2] at q
    exact q v F' H' _ B s2 (g'.sub fun b h => h.elim (fun h => .inl (cut_ownd h)) .inr) r nd fun b hb h => dj b hb (cut_ownd h)
theorem ee_callX {S : FS} {ms : List Bool} {ts : Rho → Res (List Opd × Rho)} {k : Nat} {f : Addr} {fd : FuncData} {ps : List Str} {x : Str} (Fn : FnOk X.prog X.w X.K X.mg X.base (L2.CX X.prog X.w) k f fd ps (spD X.K cl S)) (hr : Room k X.A) (hg : Gl X x) (hm : X.mg x = some (.ref f)) (hk : PySem.W.keepIn X.K (.ref f) = true) (hb : Binds X.K fd ps [])
    (hx : Passes (L2.CX X.prog X.w) X E) (ha : EX X cl (wE E) (e :: es) ts) (hdb : (x == ("__debug__" : Str)) = false := by decide) (he : starEach (e :: es) X.env = (false, eval e X.env) :: starEach es X.env := by rfl) (hpl : (backTo pos (starEach es X.env)).any (·.1) = false := by rfl) :
    EE X cl (wE E) (.Call (.Name x p) (e :: es) [] pos) (evCallX S ms ts) := by
  refine PE.imp (pe_call Fn hr hg hm hk hb .nil hx ha hdb he hpl) fun σ H Q ⟨F, ρ, A, s, q⟩ => ⟨F, ρ, A, s, ?_⟩
  unfold evCallX at q
  cases e1 : ts ρ with
  | bad => rw [e1] at q; exact q
  | err x ρ' => rw [e1] at q; exact q
  | ok z ρ1 =>
    rw [e1] at q
    intro vs tv F1 H1 A1 l1 l2 s1 g1 p1
    rw [List.append_nil]
    exact callX_sp l2 s1 g1 p1 q
end
end DL
/-! MA: mathematics for all laws: loops, pots, texts. -/
namespace WK
open PySem L2 DL
abbrev I (n : Int) : OD := .fz (.v (.int n))
abbrev B (b : Bool) : OD := .fz (.v (.bl b))
/-- the text of some signs -/
def tx (l : List Nat) : Str := ⟨l.toArray⟩
abbrev T (l : List Nat) : D := .v (.str (tx l))

/-! ### loops -/
theorem forN_all {g : GR} {b : Rho → Res Fl} (Iv : Nat → Rho → Prop) : ∀ (ds : List D) (k : Nat) (ρ : Rho), Iv k ρ →
    (∀ (j : Nat) (d : D) (ρ : Rho), ds[j]? = some d → Iv (k + j) ρ → ∃ ρ1 ρ2, g d ρ = some ρ1 ∧ b ρ1 = .ok .next ρ2 ∧ Iv (k + j + 1) ρ2) → ∃ ρ', forN g b ds ρ = .ok .next ρ' ∧ Iv (k + ds.length) ρ'
  | [], k, ρ, h, _ => ⟨ρ, rfl, h⟩
  | d :: ds, k, ρ, h, hs => by
    obtain ⟨ρ1, ρ2, e1, e2, h2⟩ := hs 0 d ρ rfl h
    obtain ⟨ρ', e3, h3⟩ := forN_all Iv ds (k + 1) ρ2 h2 fun j d' ρ hj hi => by
      have e : k + 1 + j = k + (j + 1) := by omega
      rw [e] at hi ⊢
      exact hs (j + 1) d' ρ (by simpa using hj) hi
    refine ⟨ρ', ?_, ?_⟩
    · show (match g d ρ with
        | none => Res.bad
        | some ρ1 => match b ρ1 with
          | .ok .next ρ2 => forN g b ds ρ2
          | .ok .cont ρ2 => forN g b ds ρ2
          | .ok .brk ρ2 => .ok .next ρ2
          | r => r) = _
      rw [e1]
      dsimp only
      rw [e2]
      exact e3
    · rw [List.length_cons]
      have e : k + (ds.length + 1) = k + 1 + ds.length := by omega
      rw [e]
      exact h3
theorem forN_cons {g : GR} {b : Rho → Res Fl} {d : D} {ds : List D} {ρ : Rho} : forN g b (d :: ds) ρ = (match g d ρ with
    | none => .bad
    | some ρ1 => match b ρ1 with
      | .ok .next ρ2 => forN g b ds ρ2
      | .ok .cont ρ2 => forN g b ds ρ2
      | .ok .brk ρ2 => .ok .next ρ2
      | r => r) := rfl
theorem forN_nil {g : GR} {b : Rho → Res Fl} {ρ : Rho} : forN g b [] ρ = .ok .next ρ := rfl

/-! ### pots: a row of draws -/
structure Pot where
  a : Int
  b : Int
  h0 : 0 ≤ b
  h1 : b < 2147483647
abbrev potO (p : Pot) : OD := .lst [I p.a, I p.b]
def takeB (b : Int) : Int := (b * 69621 + 12345) % 2147483647
def takeR (p : Pot) (m : Int) : Int := if 0 < p.a then p.a % m else takeB p.b * takeB p.b % 2147483629 / 64 % m
def takeP (p : Pot) (m : Int) : Pot := if 0 < p.a then ⟨p.a / m, p.b, p.h0, p.h1⟩ else ⟨p.a, takeB p.b, Int.emod_nonneg _ (by decide), Int.emod_lt_of_pos _ (by decide)⟩
theorem takeR_nonneg {p : Pot} {m : Int} (h : 0 < m) : 0 ≤ takeR p m := by
  unfold takeR
  split <;> exact Int.emod_nonneg _ (by omega)
theorem takeR_lt {p : Pot} {m : Int} (h : 0 < m) : takeR p m < m := by
  unfold takeR
  split <;> exact Int.emod_lt_of_pos _ h
theorem fitB_small {a : Int} (h : a.natAbs < 18446744073709551616) : fitB a = true := fitB_of (n := 64) h (by decide)
theorem fit_take {b : Int} (h0 : 0 ≤ b) (h1 : b < 2147483647) : fitB b = true := fitB_small (by omega)

/-! ### texts -/
theorem tx_len (l : List Nat) : (tx l).length = l.length := by
  show l.toArray.size = l.length
  simp
theorem tx_app (l m : List Nat) : tx l ++ tx m = tx (l ++ m) := by
  show (⟨l.toArray ++ m.toArray⟩ : Str) = ⟨(l ++ m).toArray⟩
  simp
theorem tx_inj {l m : List Nat} (h : tx l = tx m) : l = m := by
  have := congrArg (fun s : Str => s.cps.toList) h
  simpa [tx] using this
theorem tx_list (l : List Nat) : (tx l).cps.toList = l := by simp [tx]
theorem tx_sign (c : Nat) : (⟨#[c]⟩ : Str) = tx [c] := rfl
theorem inS_one (c : Nat) (z : Str) : inS (tx [c]) z = decide (c ∈ z.cps.toList) := PySem.StrLaws.found_one z c
theorem cut_tx (t : List Nat) (lo hi : Option Int) : ∃ u, cutS (tx t) lo hi = tx u ∧ u.length ≤ t.length := by
  refine ⟨(t.drop (HT.sIx (tx t).length 0 lo)).take (HT.sIx (tx t).length (tx t).length hi - HT.sIx (tx t).length 0 lo), ?_, ?_⟩
  · unfold cutS
    rw [tx_list]
    rfl
  · rw [List.length_take, List.length_drop]
    omega
theorem kit_bool : kitB "bool" "bool" = some true := by decide +kernel
theorem rng_at {lo : Int} {n j : Nat} {d : D} (h : (rngD lo n)[j]? = some d) : j < n ∧ d = .v (.int (lo + j)) := by
  unfold rngD at h
  rw [List.getElem?_map] at h
  cases e : (List.range n)[j]? with
  | none => rw [e] at h; cases h
  | some c =>
    rw [e] at h
    cases h
    obtain ⟨h1, h2⟩ := List.getElem?_eq_some_iff.mp e
    rw [List.getElem_range] at h2
    rw [List.length_range] at h1
    exact ⟨h1, by rw [h2]⟩
theorem rng_len {lo : Int} {n : Nat} : (rngD lo n).length = n := by simp [rngD]
end WK
namespace WK
open PySem L2 DL
abbrev FUEL : Nat := 1000000000000
-- def _law_take(pot, many); slots: pot 0, many 1, found 2
def b__law_take : Rho → Res Fl :=
    (sSeq (sIf (evT (evP (ev2 fGt (evP (ev2 fIx (evP (evName 0)) (evP (evC (.v (.int 0)))))) (evP (evC (.v (.int 0)))))))
    (sSeq (sSet 2 (ev2 fMod (evP (ev2 fIx (evP (evName 0)) (evP (evC (.v (.int 0)))))) (evP (evName 1))))
    (sSeq (sSetIx 0 (evS (ev2 fDiv (evP (ev2 fIx (evP (evName 0)) (evP (evC (.v (.int 0)))))) (evP (evName 1)))) (evP (evC (.v (.int 0)))))
    (sRet (evName 2)))) sNext)
    (sSeq (sSetIx 0 (evS (ev2 fMod (evP (ev2 fAdd (evP (ev2 fMul (evP (ev2 fIx (evP (evName 0)) (evP (evC (.v (.int 1)))))) (evP (evC (.v (.int 69621)))))) (evP (evC (.v (.int 12345)))))) (evP (evC (.v (.int 2147483647)))))) (evP (evC (.v (.int 1)))))
    (sRet (ev2 fMod (evP (ev2 fDiv (evP (ev2 fMod (evP (ev2 fMul (evP (ev2 fIx (evP (evName 0)) (evP (evC (.v (.int 1)))))) (evP (ev2 fIx (evP (evName 0)) (evP (evC (.v (.int 1)))))))) (evP (evC (.v (.int 2147483629)))))) (evP (evC (.v (.int 64)))))) (evP (evName 1))))))
def d__law_take : FS := fnS [0] 2 3 b__law_take

-- def _law_text(pot); slots: pot 0, signs 1, way 2, size 3, text 4, k 5, at 6
def L1__law_text : Rho → Res Fl :=
    (sIf (evT (evP (ev2 fEq (evP (evName 2)) (evP (evC (.v (.int 0)))))))
    (sSet 4 (ev2 fAdd (evP (evName 4)) (evP (ev2 fIx (evP (evName 1)) (evP (evCallX d__law_take [true, false] (evXCons (evName 0) (evXCons (evC (.v (.int 94))) evXNil)))))))) (sSet 4 (ev2 fAdd (evP (evName 4)) (evP (ev2 fIx (evP (evC (.v (.str "abcdefghijklmnopqrstuvwxyz")))) (evP (evCallX d__law_take [true, false] (evXCons (evName 0) (evXCons (evC (.v (.int 26))) evXNil)))))))))
def b__law_text : Rho → Res Fl :=
    (sSeq (sSet 1 (evC (.v (.str " !\"#$&'()*+,-./0123456789:;<=>?@ABCDEFGHIJKLMNOPQRSTUVWXYZ[\\]^_`abcdefghijklmnopqrstuvwxyz{|}~"))))
    (sSeq (sSet 2 (evCallX d__law_take [true, false] (evXCons (evName 0) (evXCons (evC (.v (.int 3))) evXNil))))
    (sSeq (sSet 3 (evCallX d__law_take [true, false] (evXCons (evName 0) (evXCons (evC (.v (.int 13))) evXNil))))
    (sSeq (sSet 4 (evC (.v (.str ""))))
    (sSeq (sFor (evRng1 (evCons (evP (evName 3)) evNil)) (gSet 5) L1__law_text)
    (sSeq (sIf (evAnd (evT (evP (ev2 fEq (evP (evName 2)) (evP (evC (.v (.int 2))))))) (evT (evP (ev2 fGt (evP (evName 3)) (evP (evC (.v (.int 0))))))))
    (sSeq (sSet 6 (evCallX d__law_take [true, false] (evXCons (evName 0) (evXCons (evName 3) evXNil))))
    (sSet 4 (ev2 fAdd (evP (ev2 fAdd (evP (evSl fSl (evP (evName 4)) (evPart none) (evPart (some (evP (evName 6)))))) (evP (ev2 fIx (evP (evName 1)) (evP (evCallX d__law_take [true, false] (evXCons (evName 0) (evXCons (evC (.v (.int 94))) evXNil)))))))) (evP (evSl fSl (evP (evName 4)) (evPart (some (evP (ev2 fAdd (evP (evName 6)) (evP (evC (.v (.int 1)))))))) (evPart none)))))) sNext)
    (sRet (evName 4))))))))
def d__law_text : FS := fnS [0] 1 7 b__law_text

-- def is_word(text); slots: text 0, sign 1
def L1_is_word : Rho → Res Fl :=
    (sIf (evT (evP (ev2 (fIn true) (evP (evName 1)) (evP (evC (.v (.str "abcdefghijklmnopqrstuvwxyz")))))))
    (sRet (evC (.v (.bl false)))) sNext)
def b_is_word : Rho → Res Fl :=
    (sSeq (sIf (evOr (evT (evP (ev2 fEq (evP (evName 0)) (evP (evC (.v (.str ""))))))) (evT (evP (ev2 fGt (evP (evN pLen (evCons (evP (evName 0)) evNil))) (evP (evC (.v (.int 8))))))))
    (sRet (evC (.v (.bl false)))) sNext)
    (sSeq (sFor (evIt iterD (evS (evName 0))) (gSet 1) L1_is_word)
    (sRet (evC (.v (.bl true))))))
def d_is_word : FS := fnS [] 1 2 b_is_word

-- def _law_pot(script, k); slots: script 0, k 1, cell 2, rest 3
def b__law_pot : Rho → Res Fl :=
    (sSeq (sSet 2 (evC (.v (.int 0))))
    (sSeq (sIf (evT (evP (ev2 fLt (evP (evName 1)) (evP (evN pLen (evCons (evP (evName 0)) evNil))))))
    (sSet 2 (ev2 fMod (evP (ev2 fIx (evP (evName 0)) (evP (evName 1)))) (evP (ev2 fMul (evP (ev2 fMul (evP (ev2 fMul (evP (ev2 fPow (evP (evC (.v (.int 10)))) (evP (evC (.v (.int 64)))))) (evP (ev2 fPow (evP (evC (.v (.int 10)))) (evP (evC (.v (.int 64)))))))) (evP (ev2 fPow (evP (evC (.v (.int 10)))) (evP (evC (.v (.int 64)))))))) (evP (ev2 fPow (evP (evC (.v (.int 10)))) (evP (evC (.v (.int 64)))))))))) sNext)
    (sSeq (sSet 3 (evC (.v (.int 0))))
    (sSeq (sIf (evT (evP (ev2 fGe (evP (evName 2)) (evP (ev2 fPow (evP (evC (.v (.int 10)))) (evP (evC (.v (.int 18)))))))))
    (sSet 3 (evName 2)) sNext)
    (sRet (evN evLst (evCons (evS (evName 3)) (evCons (evS (ev2 fMod (evP (ev2 fMul (evP (ev2 fAdd (evP (ev2 fAdd (evP (ev2 fMod (evP (evName 2)) (evP (evC (.v (.int 2147483629)))))) (evP (ev2 fMul (evP (evC (.v (.int 7919)))) (evP (evName 1)))))) (evP (evC (.v (.int 1)))))) (evP (evC (.v (.int 48271)))))) (evP (evC (.v (.int 2147483647)))))) evNil))))))))
def d__law_pot : FS := fnS [] 2 4 b__law_pot

-- def _law_due(text); slots: text 0, few 1, sign 2
def L1__law_due : Rho → Res Fl :=
    (sIf (evT (evP (evChain fLe fLe (evP (evC (.v (.str "a")))) (evP (evName 2)) (evP (evC (.v (.str "z")))))))
    (sSet 1 (ev2 fAdd (evP (evName 1)) (evP (evC (.v (.int 1)))))) sNext)
def b__law_due : Rho → Res Fl :=
    (sSeq (sSet 1 (evC (.v (.int 0))))
    (sSeq (sFor (evIt iterD (evS (evName 0))) (gSet 2) L1__law_due)
    (sRet (evAndV (ev2 fEq (evP (evName 1)) (evP (evN pLen (evCons (evP (evName 0)) evNil)))) (evChain fLe fLe (evP (evC (.v (.int 1)))) (evP (evName 1)) (evP (evC (.v (.int 8)))))))))
def d__law_due : FS := fnS [] 1 3 b__law_due

-- def law(script); slots: script 0, k 1, text 2, found 3
def L1_law : Rho → Res Fl :=
    (sSeq (sSet 2 (evCallX d__law_text [true] (evXCons (evCallX d__law_pot [false, false] (evXCons (evName 0) (evXCons (evName 1) evXNil))) evXNil)))
    (sSeq (sSet 3 (evCallX d_is_word [false] (evXCons (evName 2) evXNil)))
    (sIf (evOr (evNot (evT (evP (evN pIsi (evCons (evP (evName 3)) (evCons (evP (evC (.v (.ty "bool")))) evNil)))))) (evT (evP (ev2 fNe (evP (evName 3)) (evP (evCallX d__law_due [false] (evXCons (evName 2) evXNil)))))))
    (sRet (evC (.v (.bl false)))) sNext)))
def b_law : Rho → Res Fl :=
    (sSeq (sFor (evRng1 (evCons (evP (evN pMax (evCons (evP (evC (.v (.int 1)))) (evCons (evP (evN pLen (evCons (evP (evSl fSl (evP (evName 0)) (evPart none) (evPart (some (evP (evC (.v (.int 63)))))))) evNil))) evNil)))) evNil)) (gSet 1) L1_law)
    (sRet (ev2 (pIsN false) (evP (evCallX d_is_word [false] (evXCons (evC (.v (.str ""))) evXNil))) (evP (evC (.v (.bl false)))))))
def d_law : FS := fnS [] 1 4 b_law
end WK
namespace WK
open PySem L2 DL
/-! chunk take: _law_take -/
theorem take_eq (p : Pot) {m : Int} (hm : 0 < m) (hf : fitB m = true) : d__law_take [potO p, I m] = .ok (I (takeR p m)) [potO (takeP p m), I m] := by
  have hb : fitB p.b = true := fit_take p.h0 p.h1
  have hc0 : 0 ≤ takeB p.b := Int.emod_nonneg _ (by decide)
  have hc1 : takeB p.b < 2147483647 := Int.emod_lt_of_pos _ (by decide)
  have hc : fitB (takeB p.b) = true := fit_take hc0 hc1
  have f1 : fitB 69621 = true := fitB_small (by decide)
  have f2 : fitB 64 = true := fitB_small (by decide)
  unfold takeB at hc
  by_cases ha : 0 < p.a
  · simp [d__law_take, b__law_take, fnS, potO, takeR, takeP, atI, ixN, gt, ha, hm, hf]
  · simp [d__law_take, b__law_take, fnS, potO, takeR, takeP, takeB, atI, ixN, gt, ha, hm, hf, hb, hc, f1, f2]

/-! chunk pot: _law_pot -/
def scr (ns : List Int) : D := .lst (ns.map fun n => .v (.int n))
def cellN (ns : List Int) (k : Nat) : Int := if k < ns.length then ns.getD k 0 % 10000000000000000000000000000000000000000000000000000000000000000000000000000000000000000000000000000000000000000000000000000000000000000000000000000000000000000000000000000000000000000000000000000000000000000000000000000000000000000000000000000000000000000 else 0
def potOf (ns : List Int) (k : Nat) : Pot := ⟨if 1000000000000000000 ≤ cellN ns k then cellN ns k else 0, (cellN ns k % 2147483629 + 7919 * (k : Int) + 1) * 48271 % 2147483647, Int.emod_nonneg _ (by decide), Int.emod_lt_of_pos _ (by decide)⟩
theorem scr_at {ns : List Int} {k : Nat} (h : k < ns.length) : atI (ns.map fun n => D.v (.int n)) (k : Int) = some (.v (.int (ns.getD k 0))) := by
  apply atI_nat
  rw [List.getElem?_map, List.getElem?_eq_getElem h]
  simp [List.getD_eq_getElem?_getD, h]
theorem pot_eq (ns : List Int) (k : Nat) (hk : k < 1000000) : d__law_pot [.fz (scr ns), I k] = .ok (potO (potOf ns k)) [.fz (scr ns), I k] := by
  have f1 : fitB 10000000000000000000000000000000000000000000000000000000000000000 = true := fitB_of (n := 256) (by decide +kernel) (by decide)
  have f2 : fitB 100000000000000000000000000000000000000000000000000000000000000000000000000000000000000000000000000000000000000000000000000000000 = true := fitB_of (n := 512) (by decide +kernel) (by decide)
  have f3 : fitB 1000000000000000000000000000000000000000000000000000000000000000000000000000000000000000000000000000000000000000000000000000000000000000000000000000000000000000000000000000000000000000000000000 = true := fitB_of (n := 800) (by decide +kernel) (by decide)
  have f4 : fitB 7919 = true := fitB_small (by decide)
  have f5 : fitB 48271 = true := fitB_small (by decide)
  have f6 : fitB (k : Int) = true := fitB_small (by omega)
  have f7 : ∀ c : Int, fitB (c % 2147483629 + 7919 * (k : Int) + 1) = true := fun c => fitB_small (by
    have := Int.emod_nonneg c (show (2147483629 : Int) ≠ 0 by decide)
    have := Int.emod_lt_of_pos c (show (0 : Int) < 2147483629 by decide)
    omega)
  have f8 : fitB (7919 * (k : Int) + 1) = true := fitB_small (by omega)
  by_cases h : k < ns.length
  · by_cases h2 : 1000000000000000000 ≤ cellN ns k
    · have h3 := h2
      unfold cellN at h3
      rw [if_pos h] at h3
      simp [List.getD_eq_getElem?_getD, h] at h3
      simp [d__law_pot, b__law_pot, fnS, gt, scr, h, scr_at h, f1, f2, f3, f4, f5, f6, f7, potO, potOf, cellN, h3]
    · have h3 := h2
      unfold cellN at h3
      rw [if_pos h] at h3
      simp [List.getD_eq_getElem?_getD, h] at h3
      have h4 := Int.not_le.mpr h3
      simp [d__law_pot, b__law_pot, fnS, gt, scr, h, scr_at h, f1, f2, f3, f4, f5, f6, f7, potO, potOf, cellN, h4]
  · simp [d__law_pot, b__law_pot, fnS, gt, scr, h, f4, f5, f6, f8, potO, potOf, cellN]

/-! chunk isword: is_word -/
def isL (c : Nat) : Bool := decide (97 ≤ c) && decide (c ≤ 122)
theorem isL_mem (c : Nat) : decide (c ∈ ("abcdefghijklmnopqrstuvwxyz" : Str).cps.toList) = isL c := by
  have e : ("abcdefghijklmnopqrstuvwxyz" : Str).cps.toList = (List.range 26).map (· + 97) := by decide +kernel
  rw [e, Bool.eq_iff_iff]
  simp only [decide_eq_true_eq, List.mem_map, List.mem_range, isL, Bool.and_eq_true]
  constructor
  · rintro ⟨k, h, rfl⟩
    omega
  · intro h
    exact ⟨c - 97, by omega, by omega⟩
theorem inS_letters (c : Nat) : inS (tx [c]) "abcdefghijklmnopqrstuvwxyz" = isL c := (inS_one c _).trans (isL_mem c)
def isWord (l : List Nat) : Bool := decide (1 ≤ l.length) && decide (l.length ≤ 8) && l.all isL
theorem isword_step (l : List Nat) (c : Nat) : L1_is_word [.fz (T l), .fz (T [c])] = if isL c = true then .ok .next [.fz (T l), .fz (T [c])] else .ok (.ret (ovB false)) [.fz (T l), .fz (T [c])] := by
  cases h : isL c <;> simp [L1_is_word, gt, inS_letters, h]
theorem isword_loop (l : List Nat) : ∀ (m : List Nat) (o : OD), ∃ o', forN (gSet 1) L1_is_word (m.map sgn) [.fz (T l), o] = if m.all isL = true then .ok .next [.fz (T l), o'] else .ok (.ret (ovB false)) [.fz (T l), o']
  | [], o => ⟨o, rfl⟩
  | c :: m, o => by
    have s := isword_step l c
    cases h : isL c with
    | true =>
      obtain ⟨o', ih⟩ := isword_loop l m (.fz (T [c]))
      refine ⟨o', ?_⟩
      rw [h] at s
      rw [List.map_cons, forN_cons]
      simp [tx_sign, s, ih, h]
    | false =>
      refine ⟨.fz (T [c]), ?_⟩
      rw [h] at s
      rw [List.map_cons, forN_cons]
      simp [tx_sign, s, h]
theorem tx_empty : ("" : Str) = tx [] := by decide +kernel
theorem is_word_eq (l : List Nat) (hl : l.length ≤ 1000000) : d_is_word [.fz (T l)] = .ok (B (isWord l)) [.fz (T l)] := by
  obtain ⟨o', e⟩ := isword_loop l l .gone
  have h1 : l.length ≤ 16777216 := by omega
  by_cases h3 : l = []
  · subst h3
    simp [d_is_word, b_is_word, fnS, gt, isWord, scal, tx_empty]
  · have h4 : ¬ tx l = tx [] := fun z => h3 (tx_inj z)
    have h5 : 1 ≤ l.length := by
      have : ¬ l.length = 0 := fun z => h3 (List.length_eq_zero_iff.mp z)
      omega
    by_cases h6 : l.length ≤ 8
    · have h8 : ¬ ((8 : Int) < (l.length : Nat)) := by omega
      cases h7 : l.all isL with
      | true =>
        rw [h7] at e
        simp [d_is_word, b_is_word, fnS, gt, isWord, h4, scal, tx_len, h1, h5, h6, h7, h8, tx_list, tx_empty, e]
      | false =>
        rw [h7] at e
        simp [d_is_word, b_is_word, fnS, gt, isWord, h4, scal, tx_len, h1, h5, h6, h7, h8, tx_list, tx_empty, e]
    · have h8 : ((8 : Int) < (l.length : Nat)) := by omega
      simp [d_is_word, b_is_word, fnS, gt, isWord, h4, scal, tx_len, h1, h5, h6, h8, tx_list, tx_empty, e]

/-! chunk law01 -/
theorem lt_a (c : Nat) : ltS (tx [c]) "a" = decide (c < 97) := by
  have e : ("a" : Str).cps.toList = [97] := by decide +kernel
  unfold ltS
  rw [e, tx_list, decide_eq_decide]
  simp [List.cons_lt_cons_iff]
theorem gt_z (c : Nat) : ltS "z" (tx [c]) = decide (122 < c) := by
  have e : ("z" : Str).cps.toList = [122] := by decide +kernel
  unfold ltS
  rw [e, tx_list, decide_eq_decide]
  simp [List.cons_lt_cons_iff]
theorem due_step (l : List Nat) (c : Nat) (f : Int) : L1__law_due [.fz (T l), I f, .fz (T [c])] = .ok .next [.fz (T l), I (f + if isL c = true then 1 else 0), .fz (T [c])] := by
  by_cases h1 : c < 97
  · have h2 : isL c = false := by simp [isL]; omega
    simp [L1__law_due, gt, lt_a, gt_z, h1, h2]
  · by_cases h3 : 122 < c
    · have h2 : isL c = false := by simp [isL]; omega
      simp [L1__law_due, gt, lt_a, gt_z, h1, h2, h3]
    · have h2 : isL c = true := by simp [isL]; omega
      simp [L1__law_due, gt, lt_a, gt_z, h1, h2, h3]
theorem due_loop (l : List Nat) : ∀ (m : List Nat) (f : Int) (o : OD), ∃ o', forN (gSet 2) L1__law_due (m.map sgn) [.fz (T l), I f, o] = .ok .next [.fz (T l), I (f + (m.countP isL : Nat)), o']
  | [], f, o => ⟨o, by simp [forN_nil]⟩
  | c :: m, f, o => by
    obtain ⟨o', ih⟩ := due_loop l m (f + if isL c = true then 1 else 0) (.fz (T [c]))
    refine ⟨o', ?_⟩
    rw [List.map_cons, forN_cons]
    have s := due_step l c f
    have e : f + (if isL c = true then (1 : Int) else 0) + ((m.countP isL : Nat) : Int) = f + ((List.countP isL (c :: m) : Nat) : Int) := by
      rw [List.countP_cons]
      cases isL c <;> simp <;> omega
    rw [e] at ih
    rw [show gSet 2 (sgn c) [.fz (T l), I f, o] = some [.fz (T l), I f, .fz (T [c])] from rfl]
    dsimp only
    rw [s]
    exact ih
def due (l : List Nat) : Bool := decide (l.countP isL = l.length) && (decide (1 ≤ l.countP isL) && decide (l.countP isL ≤ 8))
theorem due_eq (l : List Nat) (hl : l.length ≤ 1000000) : d__law_due [.fz (T l)] = .ok (B (due l)) [.fz (T l)] := by
  obtain ⟨o', e⟩ := due_loop l l 0 .gone
  have h1 : l.length ≤ 16777216 := by omega
  simp only [Int.zero_add] at e
  by_cases h2 : l.countP isL = l.length
  · have h2' : ((l.countP isL : Nat) : Int) = (l.length : Nat) := by omega
    by_cases h3 : 1 ≤ l.length
    · have h3' : (1 : Int) ≤ (l.length : Nat) := by omega
      have e4 : decide (((l.length : Nat) : Int) ≤ 8) = decide (l.length ≤ 8) := by rw [decide_eq_decide]; omega
      simp [d__law_due, b__law_due, fnS, gt, due, tx_len, tx_list, h1, e, scal, h2', h2, h3', h3, e4]
    · have h3' : ¬ (1 : Int) ≤ (l.length : Nat) := by omega
      simp [d__law_due, b__law_due, fnS, gt, due, tx_len, tx_list, h1, e, scal, h2', h2, h3', h3]
  · have h2' : ¬ ((l.countP isL : Nat) : Int) = (l.length : Nat) := by omega
    simp [d__law_due, b__law_due, fnS, gt, due, tx_len, tx_list, h1, e, scal, h2', h2]
theorem due_isWord (l : List Nat) : due l = isWord l := by
  unfold due isWord
  rw [Bool.eq_iff_iff]
  simp only [Bool.and_eq_true, decide_eq_true_eq]
  constructor
  · rintro ⟨h1, h2, h3⟩
    rw [h1] at h2 h3
    exact ⟨⟨h2, h3⟩, List.all_eq_true.mpr (List.countP_eq_length.mp h1)⟩
  · rintro ⟨⟨h1, h2⟩, h3⟩
    have := List.countP_eq_length.mpr (List.all_eq_true.mp h3)
    rw [this]
    exact ⟨rfl, h1, h2⟩

theorem str_at (z : Str) {i : Int} (h0 : 0 ≤ i) (h1 : i < z.length) : ∃ c, atI z.cps.toList i = some c := by
  have e : z.length = z.cps.toList.length := by simp [Str.length]
  unfold atI ixN
  rw [if_pos h0, if_pos (by omega)]
  have : i.toNat < z.cps.toList.length := by omega
  exact ⟨_, List.getElem?_eq_getElem this⟩
theorem signs_len : (" !\"#$&'()*+,-./0123456789:;<=>?@ABCDEFGHIJKLMNOPQRSTUVWXYZ[\\]^_`abcdefghijklmnopqrstuvwxyz{|}~" : Str).length = 94 := by decide +kernel
theorem abc_len : ("abcdefghijklmnopqrstuvwxyz" : Str).length = 26 := by decide +kernel
abbrev SG : D := .v (.str " !\"#$&'()*+,-./0123456789:;<=>?@ABCDEFGHIJKLMNOPQRSTUVWXYZ[\\]^_`abcdefghijklmnopqrstuvwxyz{|}~")
theorem text_step (p : Pot) (way size k : Int) (t : List Nat) (ht : t.length ≤ 100) (o : OD) : ∃ c, L1__law_text [potO p, .fz SG, I way, I size, .fz (T t), I k, o] = .ok .next [potO (takeP p (if way = 0 then 94 else 26)), .fz SG, I way, I size, .fz (T (t ++ [c])), I k, o] := by
  have f1 : fitB 94 = true := fitB_small (by decide)
  have f2 : fitB 26 = true := fitB_small (by decide)
  by_cases hw : way = 0
  · have e1 := take_eq p (m := 94) (by decide) f1
    obtain ⟨c, hc⟩ := str_at " !\"#$&'()*+,-./0123456789:;<=>?@ABCDEFGHIJKLMNOPQRSTUVWXYZ[\\]^_`abcdefghijklmnopqrstuvwxyz{|}~" (takeR_nonneg (p := p) (m := 94) (by decide)) (by rw [signs_len]; exact takeR_lt (by decide))
    refine ⟨c, ?_⟩
    have h3 : t.length + 1 ≤ 16777216 := by omega
    simp [L1__law_text, gt, hw, scal, e1, signs_len, hc, tx_len, tx_sign, tx_app, h3]
  · have e1 := take_eq p (m := 26) (by decide) f2
    obtain ⟨c, hc⟩ := str_at "abcdefghijklmnopqrstuvwxyz" (takeR_nonneg (p := p) (m := 26) (by decide)) (by rw [abc_len]; exact takeR_lt (by decide))
    refine ⟨c, ?_⟩
    have h3 : t.length + 1 ≤ 16777216 := by omega
    simp [L1__law_text, gt, hw, scal, e1, abc_len, hc, tx_len, tx_sign, tx_app, h3]

/-! chunk law01b -/
theorem text_eq (p : Pot) : ∃ l p', d__law_text [potO p] = .ok (.fz (T l)) [potO p'] ∧ l.length ≤ 100 := by
  have f3 : fitB 3 = true := fitB_small (by decide)
  have f13 : fitB 13 = true := fitB_small (by decide)
  have f94 : fitB 94 = true := fitB_small (by decide)
  have e1 := take_eq p (m := 3) (by decide) f3
  have e2 := take_eq (takeP p 3) (m := 13) (by decide) f13
  have g0 := takeR_nonneg (p := takeP p 3) (m := 13) (by decide)
  have g1 := takeR_lt (p := takeP p 3) (m := 13) (by decide)
  generalize hway : takeR p 3 = way at e1
  generalize hp2 : takeP (takeP p 3) 13 = p2 at e2
  generalize hsize : takeR (takeP p 3) 13 = size at e2 g0 g1
  obtain ⟨ρ', e3, k, p3, t, o, rfl, ht⟩ := forN_all (g := gSet 5) (b := L1__law_text) (fun j ρ => ∃ (k : OD) (p : Pot) (t : List Nat) (o : OD), ρ = [potO p, .fz SG, I way, I size, .fz (T t), k, o] ∧ t.length ≤ j)
    (rngD 0 size.toNat) 0 [potO p2, .fz SG, I way, I size, .fz (T []), .gone, .gone] ⟨_, _, _, _, rfl, Nat.le_refl _⟩ fun j d ρ hj ⟨k, p, t, o, hρ, ht⟩ => by
      obtain ⟨hj1, rfl⟩ := rng_at hj
      subst hρ
      obtain ⟨c, hc⟩ := text_step p way size (0 + j) t (by omega) o
      exact ⟨_, _, rfl, hc, _, _, _, _, rfl, by simp; omega⟩
  rw [rng_len] at ht
  have b1 : -4611686018427387904 ≤ size ∧ size < 4611686018427387904 := by omega
  by_cases hw : way = 2
  · subst hw
    by_cases hs : 0 < size
    · have e4 := take_eq p3 (m := size) hs (fitB_small (by omega))
      have e5 := take_eq (takeP p3 size) (m := 94) (by decide) f94
      obtain ⟨c, hc⟩ := str_at " !\"#$&'()*+,-./0123456789:;<=>?@ABCDEFGHIJKLMNOPQRSTUVWXYZ[\\]^_`abcdefghijklmnopqrstuvwxyz{|}~" (takeR_nonneg (p := takeP p3 size) (m := 94) (by decide)) (by rw [signs_len]; exact takeR_lt (by decide))
      obtain ⟨u1, c1, l1⟩ := cut_tx t none (some (takeR p3 size))
      obtain ⟨u2, c2, l2⟩ := cut_tx t (some (takeR p3 size + 1)) none
      have h0 : t.length ≤ 16777216 := by omega
      have h1 : u1.length + 1 ≤ 16777216 := by omega
      have h2 : u1.length + 1 + u2.length ≤ 16777216 := by omega
      refine ⟨u1 ++ [c] ++ u2, takeP (takeP p3 size) 94, ?_, by simp; omega⟩
      simp [d__law_text, b__law_text, fnS, gt, e1, e2, e3, tx_empty, scal, hs, e4, e5, hc, b1, signs_len, tx_len, h0, c1, c2, tx_sign, tx_app, h1, h2]
    · refine ⟨t, p3, ?_, by omega⟩
      simp [d__law_text, b__law_text, fnS, gt, e1, e2, e3, tx_empty, scal, hs, b1]
  · refine ⟨t, p3, ?_, by omega⟩
    simp [d__law_text, b__law_text, fnS, gt, e1, e2, e3, tx_empty, scal, hw, b1]

/-! chunk law01c -/
theorem law_step (ns : List Int) (k : Nat) (hk : k < 1000) (o2 o3 : OD) : ∃ o2' o3', L1_law [.fz (scr ns), I k, o2, o3] = .ok .next [.fz (scr ns), I k, o2', o3'] := by
  have e1 := pot_eq ns k (by omega)
  obtain ⟨l, p', e2, hl⟩ := text_eq (potOf ns k)
  have e3 := is_word_eq l (by omega)
  have e4 := due_eq l (by omega)
  rw [due_isWord] at e4
  refine ⟨.fz (T l), B (isWord l), ?_⟩
  cases hw : isWord l <;> rw [hw] at e3 e4 <;> simp [L1_law, gt, e1, e2, e3, e4, kit_bool, scal, hw]
theorem LAWTRUE (ns : List Int) (h : ns.length ≤ 63) : ∃ ρ', d_law [.fz (scr ns)] = .ok (.fz (.v (.bl true))) ρ' := by
  have e0 := is_word_eq [] (by simp)
  have es : HT.sIx ns.length ns.length (some 63) = ns.length := by
    have := HT.sIx_nat ns.length ns.length 63
    rw [Nat.min_eq_right h] at this
    exact this
  obtain ⟨ρ', e1, o1, o2, o3, rfl⟩ := forN_all (g := gSet 1) (b := L1_law) (fun j ρ => ∃ o1 o2 o3, ρ = [.fz (scr ns), o1, o2, o3]) (rngD 0 (if (1 : Int) < (ns.length : Nat) then ((ns.length : Nat) : Int) else 1).toNat) 0 [.fz (scr ns), .gone, .gone, .gone] ⟨_, _, _, rfl⟩ fun j d ρ hj ⟨o1, o2, o3, hρ⟩ => by
    obtain ⟨hj1, rfl⟩ := rng_at hj
    subst hρ
    have hj2 : j < 1000 := by split at hj1 <;> omega
    obtain ⟨a, b, hc⟩ := law_step ns j hj2 o2 o3
    have e : (0 : Int) + (j : Nat) = (j : Nat) := by omega
    rw [e]
    exact ⟨_, _, rfl, hc, _, _, _, rfl⟩
  have iw : isWord [] = false := by decide
  rw [iw] at e0
  by_cases h1 : (1 : Int) < (ns.length : Nat)
  · rw [if_pos h1, Int.toNat_natCast] at e1
    have h2 : -4611686018427387904 ≤ ((ns.length : Nat) : Int) ∧ ((ns.length : Nat) : Int) < 4611686018427387904 := by omega
    refine ⟨[.fz (scr ns)], ?_⟩
    simp only [scr] at e1 ⊢
    simp [d_law, b_law, fnS, gt, HT.sIx_none, es, h1, h2, e1, tx_empty, e0]
  · rw [if_neg h1, show Int.toNat 1 = 1 from rfl] at e1
    refine ⟨[.fz (scr ns)], ?_⟩
    simp only [scr] at e1 ⊢
    simp [d_law, b_law, fnS, gt, HT.sIx_none, es, h1, e1, tx_empty, e0]

end WK
namespace WK
open PySem L2 DL
def top (i : Nat) : Stmt := PySem.Challenge.pw_manydeeds_k01_words.main.body.getD i (.Pass ⟨0, 0, 0, 0⟩)
structure Gs (mg : Str → Option Value) : Prop where
  b_bool : mg "bool" = none
  b_isinstance : mg "isinstance" = none
  b_len : mg "len" = none
  b_max : mg "max" = none
  b_range : mg "range" = none
  c_LETTERS : ∃ t, mg "LETTERS" = some (.str "abcdefghijklmnopqrstuvwxyz" t)
  c_LONGEST : ∃ t, mg "LONGEST" = some (.int 8 t)
section
variable {P : Program} {w : World} {K : PySem.W.Frag} {mg : Str → Option Value} {base : Heap} {cl : Nat → Addr}
abbrev s__law_take : Stmt := top 6
theorem sc__law_take : FnScope ["pot", "many", "found"] ["pot", "many"] (defScope s__law_take) := ⟨rfl, rfl, rfl, by decide +kernel, rfl, by decide +kernel, by decide +kernel⟩
theorem ok__law_take (T : Gs mg) {f : Addr} {fd : FuncData} (D : DefAt K mg "_law_take" s__law_take ["pot", "many"] f fd) : FnOk P w K mg base (L2.CX P w) 1 f fd ["pot", "many"] (spD K cl d__law_take) :=
  fn_ok D.fn sc__law_take rfl rfl fun cdv A outer s H E hr =>
    (ss_cons (es_if (et_cc (cc_cmp op_Gt (ee_p (ee_item (hu_of hr) (ee_p (ee_name 0 (pv 0))) (ee_p ee_int))) (ee_p ee_int)))
    (ss_cons (es_set (i := 2) (by decide) sc__law_take.nd rfl (by first | exact Or.inl rfl | exact Or.inr rfl) (ee_op' op_Mod (ee_p (ee_item (hu_of hr) (ee_p (ee_name 0 (pv 0))) (ee_p ee_int))) (ee_p (ee_name 1 (pv 1)))))
    (ss_cons (es_setIx (fun h1 h2 => pg_sub h1 h2 set_list) (pv 0) (ee_p ee_int) (ee_s (ee_op' op_Div (ee_p (ee_item (hu_of hr) (ee_p (ee_name 0 (pv 0))) (ee_p ee_int))) (ee_p (ee_name 1 (pv 1))))))
    (ss_one (es_ret (ee_name 2 (pv 2)))))) ss_nil)
    (ss_cons (es_setIx (fun h1 h2 => pg_sub h1 h2 set_list) (pv 0) (ee_p ee_int) (ee_s (ee_op' op_Mod (ee_p (ee_op' op_Add (ee_p (ee_op' op_Mul (ee_p (ee_item (hu_of hr) (ee_p (ee_name 0 (pv 0))) (ee_p ee_int))) (ee_p ee_int))) (ee_p ee_int))) (ee_p ee_int))))
    (ss_one (es_ret (ee_op' op_Mod (ee_p (ee_op' op_Div (ee_p (ee_op' op_Mod (ee_p (ee_op' op_Mul (ee_p (ee_item (hu_of hr) (ee_p (ee_name 0 (pv 0))) (ee_p ee_int))) (ee_p (ee_item (hu_of hr) (ee_p (ee_name 0 (pv 0))) (ee_p ee_int))))) (ee_p ee_int))) (ee_p ee_int))) (ee_p (ee_name 1 (pv 1))))))))

abbrev s__law_text : Stmt := top 7
theorem sc__law_text : FnScope ["pot", "signs", "way", "size", "text", "k", "at"] ["pot"] (defScope s__law_text) := ⟨rfl, rfl, rfl, by decide +kernel, rfl, by decide +kernel, by decide +kernel⟩
theorem ok__law_text (T : Gs mg) {f : Addr} {fd : FuncData} (D : DefAt K mg "_law_text" s__law_text ["pot"] f fd) {f__law_take : Addr} {fd__law_take : FuncData} (D__law_take : DefAt K mg "_law_take" s__law_take ["pot", "many"] f__law_take fd__law_take) (G__law_take : FnOk P w K mg base (L2.CX P w) 1 f__law_take fd__law_take ["pot", "many"] (spD K cl d__law_take)) : FnOk P w K mg base (L2.CX P w) 2 f fd ["pot"] (spD K cl d__law_text) :=
  fn_ok D.fn sc__law_text rfl rfl fun cdv A outer s H E hr =>
    (ss_cons (es_set (i := 1) (by decide) sc__law_text.nd rfl (by first | exact Or.inl rfl | exact Or.inr rfl) ee_str)
    (ss_cons (es_set (i := 2) (by decide) sc__law_text.nd rfl (by first | exact Or.inl rfl | exact Or.inr rfl) (ee_callX G__law_take (hr.mono (by decide)) rfl D__law_take.g D__law_take.kp D__law_take.bd px (ex_cons (ee_name 0 (pv 0)) (ex_cons ee_int ex_nil))))
    (ss_cons (es_set (i := 3) (by decide) sc__law_text.nd rfl (by first | exact Or.inl rfl | exact Or.inr rfl) (ee_callX G__law_take (hr.mono (by decide)) rfl D__law_take.g D__law_take.kp D__law_take.bd px (ex_cons (ee_name 0 (pv 0)) (ex_cons ee_int ex_nil))))
    (ss_cons (es_set (i := 4) (by decide) sc__law_text.nd rfl (by first | exact Or.inl rfl | exact Or.inr rfl) ee_str)
    (ss_cons (es_for pown rfl (ei_rng1 rfl T.b_range (ea_cons (ee_p (ee_name 3 (pv 3))) ea_nil)) (eg_name (i := 5) (by decide) sc__law_text.nd rfl (by first | exact Or.inl rfl | exact Or.inr rfl))
    (ss_one (es_if (et_cc (cc_cmp (op_Eq hr.units) (ee_p (ee_name 2 (pv 2))) (ee_p ee_int)))
    (ss_one (es_set (i := 4) (by decide) sc__law_text.nd rfl (by first | exact Or.inl rfl | exact Or.inr rfl) (ee_op' op_Add (ee_p (ee_name 4 (pv 4))) (ee_p (ee_item (hu_of hr) (ee_p (ee_name 1 (pv 1))) (ee_p (ee_callX G__law_take (hr.mono (by decide)) rfl D__law_take.g D__law_take.kp D__law_take.bd px (ex_cons (ee_name 0 (pv 0)) (ex_cons ee_int ex_nil))))))))) (ss_one (es_set (i := 4) (by decide) sc__law_text.nd rfl (by first | exact Or.inl rfl | exact Or.inr rfl) (ee_op' op_Add (ee_p (ee_name 4 (pv 4))) (ee_p (ee_item (hu_of hr) (ee_p ee_str) (ee_p (ee_callX G__law_take (hr.mono (by decide)) rfl D__law_take.g D__law_take.kp D__law_take.bd px (ex_cons (ee_name 0 (pv 0)) (ex_cons ee_int ex_nil))))))))))))
    (ss_cons (es_if (et_w (ew_and (et_cc (cc_cmp (op_Eq hr.units) (ee_p (ee_name 2 (pv 2))) (ee_p ee_int))) (ew_and1 (et_cc (cc_cmp op_Gt (ee_p (ee_name 3 (pv 3))) (ee_p ee_int))))))
    (ss_cons (es_set (i := 6) (by decide) sc__law_text.nd rfl (by first | exact Or.inl rfl | exact Or.inr rfl) (ee_callX G__law_take (hr.mono (by decide)) rfl D__law_take.g D__law_take.kp D__law_take.bd px (ex_cons (ee_name 0 (pv 0)) (ex_cons (ee_name 3 (pv 3)) ex_nil))))
    (ss_one (es_set (i := 4) (by decide) sc__law_text.nd rfl (by first | exact Or.inl rfl | exact Or.inr rfl) (ee_op' op_Add (ee_p (ee_op' op_Add (ee_p (ee_slice (ee_p (ee_name 4 (pv 4))) eo_none (eo_some (ee_p (ee_name 6 (pv 6)))))) (ee_p (ee_item (hu_of hr) (ee_p (ee_name 1 (pv 1))) (ee_p (ee_callX G__law_take (hr.mono (by decide)) rfl D__law_take.g D__law_take.kp D__law_take.bd px (ex_cons (ee_name 0 (pv 0)) (ex_cons ee_int ex_nil)))))))) (ee_p (ee_slice (ee_p (ee_name 4 (pv 4))) (eo_some (ee_p (ee_op' op_Add (ee_p (ee_name 6 (pv 6))) (ee_p ee_int)))) eo_none)))))) ss_nil)
    (ss_one (es_ret (ee_name 4 (pv 4))))))))))

abbrev s_is_word : Stmt := top 3
theorem sc_is_word : FnScope ["text", "sign"] ["text"] (defScope s_is_word) := ⟨rfl, rfl, rfl, by decide +kernel, rfl, by decide +kernel, by decide +kernel⟩
theorem ok_is_word (T : Gs mg) {f : Addr} {fd : FuncData} (D : DefAt K mg "is_word" s_is_word ["text"] f fd) : FnOk P w K mg base (L2.CX P w) 1 f fd ["text"] (spD K cl d_is_word) :=
  fn_ok D.fn sc_is_word rfl rfl fun cdv A outer s H E hr =>
    (ss_cons (es_if (et_w (ew_or (et_cc (cc_cmp (op_Eq hr.units) (ee_p (ee_name 0 (pv 0))) (ee_p ee_str))) (ew_or1 (et_cc (cc_cmp op_Gt (ee_p (ee_len rfl T.b_len (ea_cons (ee_p (ee_name 0 (pv 0))) ea_nil))) (ee_p (ee_gint rfl T.c_LONGEST)))))))
    (ss_one (es_ret ee_bl)) ss_nil)
    (ss_cons (es_for pown rfl (ei_seq (ee_s (ee_name 0 (pv 0)))) (eg_name (i := 1) (by decide) sc_is_word.nd rfl (by first | exact Or.inl rfl | exact Or.inr rfl))
    (ss_one (es_if (et_cc (cc_notin (hu_of hr) (ee_p (ee_name 1 (pv 1))) (ee_p (ee_gstr rfl T.c_LETTERS))))
    (ss_one (es_ret ee_bl)) ss_nil)))
    (ss_one (es_ret ee_bl))))

abbrev s__law_pot : Stmt := top 5
theorem sc__law_pot : FnScope ["script", "k", "cell", "rest"] ["script", "k"] (defScope s__law_pot) := ⟨rfl, rfl, rfl, by decide +kernel, rfl, by decide +kernel, by decide +kernel⟩
theorem ok__law_pot (T : Gs mg) {f : Addr} {fd : FuncData} (D : DefAt K mg "_law_pot" s__law_pot ["script", "k"] f fd) : FnOk P w K mg base (L2.CX P w) 1 f fd ["script", "k"] (spD K cl d__law_pot) :=
  fn_ok D.fn sc__law_pot rfl rfl fun cdv A outer s H E hr =>
    (ss_cons (es_set (i := 2) (by decide) sc__law_pot.nd rfl (by first | exact Or.inl rfl | exact Or.inr rfl) ee_int)
    (ss_cons (es_if (et_cc (cc_cmp op_Lt (ee_p (ee_name 1 (pv 1))) (ee_p (ee_len rfl T.b_len (ea_cons (ee_p (ee_name 0 (pv 0))) ea_nil)))))
    (ss_one (es_set (i := 2) (by decide) sc__law_pot.nd rfl (by first | exact Or.inl rfl | exact Or.inr rfl) (ee_op' op_Mod (ee_p (ee_item (hu_of hr) (ee_p (ee_name 0 (pv 0))) (ee_p (ee_name 1 (pv 1))))) (ee_p (ee_op' op_Mul (ee_p (ee_op' op_Mul (ee_p (ee_op' op_Mul (ee_p (ee_op' op_Pow (ee_p ee_int) (ee_p ee_int))) (ee_p (ee_op' op_Pow (ee_p ee_int) (ee_p ee_int))))) (ee_p (ee_op' op_Pow (ee_p ee_int) (ee_p ee_int))))) (ee_p (ee_op' op_Pow (ee_p ee_int) (ee_p ee_int)))))))) ss_nil)
    (ss_cons (es_set (i := 3) (by decide) sc__law_pot.nd rfl (by first | exact Or.inl rfl | exact Or.inr rfl) ee_int)
    (ss_cons (es_if (et_cc (cc_cmp op_Ge (ee_p (ee_name 2 (pv 2))) (ee_p (ee_op' op_Pow (ee_p ee_int) (ee_p ee_int)))))
    (ss_one (es_set (i := 3) (by decide) sc__law_pot.nd rfl (by first | exact Or.inl rfl | exact Or.inr rfl) (ee_name 2 (pv 2)))) ss_nil)
    (ss_one (es_ret (ee_lst (ea_cons (ee_s (ee_name 3 (pv 3))) (ea_cons (ee_s (ee_op' op_Mod (ee_p (ee_op' op_Mul (ee_p (ee_op' op_Add (ee_p (ee_op' op_Add (ee_p (ee_op' op_Mod (ee_p (ee_name 2 (pv 2))) (ee_p ee_int))) (ee_p (ee_op' op_Mul (ee_p ee_int) (ee_p (ee_name 1 (pv 1))))))) (ee_p ee_int))) (ee_p ee_int))) (ee_p ee_int))) ea_nil)))))))))

abbrev s__law_due : Stmt := top 8
theorem sc__law_due : FnScope ["text", "few", "sign"] ["text"] (defScope s__law_due) := ⟨rfl, rfl, rfl, by decide +kernel, rfl, by decide +kernel, by decide +kernel⟩
theorem ok__law_due (T : Gs mg) {f : Addr} {fd : FuncData} (D : DefAt K mg "_law_due" s__law_due ["text"] f fd) : FnOk P w K mg base (L2.CX P w) 1 f fd ["text"] (spD K cl d__law_due) :=
  fn_ok D.fn sc__law_due rfl rfl fun cdv A outer s H E hr =>
    (ss_cons (es_set (i := 1) (by decide) sc__law_due.nd rfl (by first | exact Or.inl rfl | exact Or.inr rfl) ee_int)
    (ss_cons (es_for pown rfl (ei_seq (ee_s (ee_name 0 (pv 0)))) (eg_name (i := 2) (by decide) sc__law_due.nd rfl (by first | exact Or.inl rfl | exact Or.inr rfl))
    (ss_one (es_if (et_cc (cc_chain op_Le op_Le (ee_p ee_str) (ee_p (ee_name 2 (pv 2))) (ee_p ee_str)))
    (ss_one (es_set (i := 1) (by decide) sc__law_due.nd rfl (by first | exact Or.inl rfl | exact Or.inr rfl) (ee_op' op_Add (ee_p (ee_name 1 (pv 1))) (ee_p ee_int)))) ss_nil)))
    (ss_one (es_ret (ee_and (ee_cc (cc_cmp (op_Eq hr.units) (ee_p (ee_name 1 (pv 1))) (ee_p (ee_len rfl T.b_len (ea_cons (ee_p (ee_name 0 (pv 0))) ea_nil))))) (ee_one (ee_cc (cc_chain op_Le op_Le (ee_p ee_int) (ee_p (ee_name 1 (pv 1))) (ee_p ee_int)))))))))

abbrev s_law : Stmt := top 9
theorem sc_law : FnScope ["script", "k", "text", "found"] ["script"] (defScope s_law) := ⟨rfl, rfl, rfl, by decide +kernel, rfl, by decide +kernel, by decide +kernel⟩
theorem ok_law (T : Gs mg) {f : Addr} {fd : FuncData} (D : DefAt K mg "law" s_law ["script"] f fd) {f__law_text : Addr} {fd__law_text : FuncData} (D__law_text : DefAt K mg "_law_text" s__law_text ["pot"] f__law_text fd__law_text) (G__law_text : FnOk P w K mg base (L2.CX P w) 2 f__law_text fd__law_text ["pot"] (spD K cl d__law_text)) {f_is_word : Addr} {fd_is_word : FuncData} (D_is_word : DefAt K mg "is_word" s_is_word ["text"] f_is_word fd_is_word) (G_is_word : FnOk P w K mg base (L2.CX P w) 1 f_is_word fd_is_word ["text"] (spD K cl d_is_word)) {f__law_pot : Addr} {fd__law_pot : FuncData} (D__law_pot : DefAt K mg "_law_pot" s__law_pot ["script", "k"] f__law_pot fd__law_pot) (G__law_pot : FnOk P w K mg base (L2.CX P w) 1 f__law_pot fd__law_pot ["script", "k"] (spD K cl d__law_pot)) {f__law_due : Addr} {fd__law_due : FuncData} (D__law_due : DefAt K mg "_law_due" s__law_due ["text"] f__law_due fd__law_due) (G__law_due : FnOk P w K mg base (L2.CX P w) 1 f__law_due fd__law_due ["text"] (spD K cl d__law_due)) : FnOk P w K mg base (L2.CX P w) 3 f fd ["script"] (spD K cl d_law) :=
  fn_ok D.fn sc_law rfl rfl fun cdv A outer s H E hr =>
    (ss_cons (es_for pown rfl (ei_rng1 rfl T.b_range (ea_cons (ee_p (ee_max rfl rfl T.b_max (ea_cons (ee_p ee_int) (ea_cons (ee_p (ee_len rfl T.b_len (ea_cons (ee_p (ee_slice (ee_p (ee_name 0 (pv 0))) eo_none (eo_some (ee_p ee_int)))) ea_nil))) ea_nil)))) ea_nil)) (eg_name (i := 1) (by decide) sc_law.nd rfl (by first | exact Or.inl rfl | exact Or.inr rfl))
    (ss_cons (es_set (i := 2) (by decide) sc_law.nd rfl (by first | exact Or.inl rfl | exact Or.inr rfl) (ee_callX G__law_text (hr.mono (by decide)) rfl D__law_text.g D__law_text.kp D__law_text.bd px (ex_cons (ee_callX G__law_pot (hr.mono (by decide)) rfl D__law_pot.g D__law_pot.kp D__law_pot.bd px (ex_cons (ee_name 0 (pv 0)) (ex_cons (ee_name 1 (pv 1)) ex_nil))) ex_nil)))
    (ss_cons (es_set (i := 3) (by decide) sc_law.nd rfl (by first | exact Or.inl rfl | exact Or.inr rfl) (ee_callX G_is_word (hr.mono (by decide)) rfl D_is_word.g D_is_word.kp D_is_word.bd px (ex_cons (ee_name 2 (pv 2)) ex_nil)))
    (ss_one (es_if (et_w (ew_or (et_not (et_val (ee_p (ee_isi rfl T.b_isinstance (ea_cons (ee_p (ee_name 3 (pv 3))) (ea_cons (ee_p (ee_ty rfl T.b_bool (by decide +kernel))) ea_nil)))))) (ew_or1 (et_cc (cc_cmp (op_Ne hr.units) (ee_p (ee_name 3 (pv 3))) (ee_p (ee_callX G__law_due (hr.mono (by decide)) rfl D__law_due.g D__law_due.kp D__law_due.bd px (ex_cons (ee_name 2 (pv 2)) ex_nil))))))))
    (ss_one (es_ret ee_bl)) ss_nil)))))
    (ss_one (es_ret (ee_cc (cc_cmp op_Is (ee_p (ee_callX G_is_word (hr.mono (by decide)) rfl D_is_word.g D_is_word.kp D_is_word.bd px (ex_cons ee_str ex_nil))) (ee_p ee_bl))))))
end
theorem gs_mk {K : PySem.W.Frag} {h : Heap} {mg : Str → Option Value} (X : K.In h) (G : h.Ns mainGlobals mg)
    (b_bool : PySem.W.nsIn K mainGlobals "bool" = some none)
    (b_isinstance : PySem.W.nsIn K mainGlobals "isinstance" = some none)
    (b_len : PySem.W.nsIn K mainGlobals "len" = some none)
    (b_max : PySem.W.nsIn K mainGlobals "max" = some none)
    (b_range : PySem.W.nsIn K mainGlobals "range" = some none)
    {t_LETTERS : Tok} (c_LETTERS : PySem.W.nsIn K mainGlobals "LETTERS" = some (some (.str "abcdefghijklmnopqrstuvwxyz" t_LETTERS)))
    {t_LONGEST : Tok} (c_LONGEST : PySem.W.nsIn K mainGlobals "LONGEST" = some (some (.int 8 t_LONGEST)))
    : Gs mg := ⟨PySem.W.mg_none_of X G b_bool, PySem.W.mg_none_of X G b_isinstance, PySem.W.mg_none_of X G b_len, PySem.W.mg_none_of X G b_max, PySem.W.mg_none_of X G b_range, ⟨_, PySem.W.mg_of X G c_LETTERS⟩, ⟨_, PySem.W.mg_of X G c_LONGEST⟩⟩

theorem walk {l : PySem.W.OpenLaw} {q : Program} {loose : List Str} {XP : (Str → Option Value) → Heap → Prop} {YP : World → Heap → Prop} {d : DefRec} {K : Params → PySem.W.Frag} (hn : l.most = some 63) (hdf : d.params.defaults = [])
    (hY : ∀ (w : World) (h : Heap), YP w h → (K w.params).In h)
    (F : ∀ (w : World) (mg : Str → Option Value) (fa : Addr) (h : Heap), (K w.params).In h → h.Ns mainGlobals mg → mg d.name = some (.ref fa) →
      ∃ fd : FuncData, (∀ (s : Shared) (u : Value), BindsTo s fd ⟨[u], []⟩ [("script", u)]) ∧ ∀ base : Heap, (K w.params).In base → base.Ns mainGlobals mg → FnOk l.prog w (K w.params) mg base (L2.CX l.prog w) 3 fa fd ["script"] (spD (K w.params) (fun _ => 0) d_law)) :
    PySem.W.WalkO q loose XP YP l.row.toRowW d [] (fun f vs => PySem.call f vs) :=
  L2.walk_of (n := 63) (k := 3) (x := "script") (CX := fun w => L2.CX l.prog w) (sp := fun w => spD (K w.params) (fun _ => 0) d_law) hn (by decide) hdf ⟨rfl, by decide, by decide⟩ hY F (fun _ _ a ns hl _ hS => law_sp hS (LAWTRUE ns hl)) fun _ H s e s' z => no_cx H s e s' z
end WK
open PySem PySem.W PyProof.Rows
set_option maxRecDepth 100000 in
set_option maxHeartbeats 0 in
theorem PySem.Challenge.cw_manydeeds_k01_words_holds : PySem.Challenge.rw_manydeeds_k01_words.Holds := by
  w_on; o_law; k_head; (case hw => w_witness2)
  k_fill
  refine WK.walk (l := PySem.Challenge.rw_manydeeds_k01_words) rfl rfl (fun w h Y => PySem.W.kIn_of Y) ?F
  case F =>
    intro w mg fa h KX G hmg
    have T : WK.Gs mg := by
      refine' WK.gs_mk KX G ?b_bool ?b_isinstance ?b_len ?b_max ?b_range ?c_LETTERS ?c_LONGEST
      (case b_bool => k_is); (case b_isinstance => k_is); (case b_len => k_is); (case b_max => k_is); (case b_range => k_is); (case c_LETTERS => k_is); (case c_LONGEST => k_is)
    obtain ⟨f__law_take, fd__law_take, D__law_take⟩ : ∃ f fd, DL.DefAt _ mg "_law_take" WK.s__law_take ["pot", "many"] f fd := by
      refine' DL.def_mk KX G ?a ?l ?c ?k (fun _ _ _ _ _ _ us hl => match us, hl with | [_, _], _ => rfl)
      (case a => k_is); (case l => k_is); (case c => k_is); (case k => k_is)
    obtain ⟨f__law_text, fd__law_text, D__law_text⟩ : ∃ f fd, DL.DefAt _ mg "_law_text" WK.s__law_text ["pot"] f fd := by
      refine' DL.def_mk KX G ?a ?l ?c ?k (fun _ _ _ _ _ _ us hl => match us, hl with | [_], _ => rfl)
      (case a => k_is); (case l => k_is); (case c => k_is); (case k => k_is)
    obtain ⟨f_is_word, fd_is_word, D_is_word⟩ : ∃ f fd, DL.DefAt _ mg "is_word" WK.s_is_word ["text"] f fd := by
      refine' DL.def_mk KX G ?a ?l ?c ?k (fun _ _ _ _ _ _ us hl => match us, hl with | [_], _ => rfl)
      (case a => k_is); (case l => k_is); (case c => k_is); (case k => k_is)
    obtain ⟨f__law_pot, fd__law_pot, D__law_pot⟩ : ∃ f fd, DL.DefAt _ mg "_law_pot" WK.s__law_pot ["script", "k"] f fd := by
      refine' DL.def_mk KX G ?a ?l ?c ?k (fun _ _ _ _ _ _ us hl => match us, hl with | [_, _], _ => rfl)
      (case a => k_is); (case l => k_is); (case c => k_is); (case k => k_is)
    obtain ⟨f__law_due, fd__law_due, D__law_due⟩ : ∃ f fd, DL.DefAt _ mg "_law_due" WK.s__law_due ["text"] f fd := by
      refine' DL.def_mk KX G ?a ?l ?c ?k (fun _ _ _ _ _ _ us hl => match us, hl with | [_], _ => rfl)
      (case a => k_is); (case l => k_is); (case c => k_is); (case k => k_is)
    obtain ⟨f_law, fd_law, D_law⟩ : ∃ f fd, DL.DefAt _ mg "law" WK.s_law ["script"] f fd := by
      refine' DL.def_mk KX G ?a ?l ?c ?k (fun _ _ _ _ _ _ us hl => match us, hl with | [_], _ => rfl)
      (case a => k_is); (case l => k_is); (case c => k_is); (case k => k_is)
    have e := hmg.symm.trans D_law.g
    cases e
    refine ⟨fd_law, fun s v => .of_eq (D_law.ba [v] rfl), fun base _ _ => ?_⟩
    have G__law_take := WK.ok__law_take (P := PySem.Challenge.rw_manydeeds_k01_words.prog) (w := w) (base := base) (cl := fun _ => 0) T D__law_take 
    have G__law_text := WK.ok__law_text (P := PySem.Challenge.rw_manydeeds_k01_words.prog) (w := w) (base := base) (cl := fun _ => 0) T D__law_text D__law_take G__law_take
    have G_is_word := WK.ok_is_word (P := PySem.Challenge.rw_manydeeds_k01_words.prog) (w := w) (base := base) (cl := fun _ => 0) T D_is_word 
    have G__law_pot := WK.ok__law_pot (P := PySem.Challenge.rw_manydeeds_k01_words.prog) (w := w) (base := base) (cl := fun _ => 0) T D__law_pot 
    have G__law_due := WK.ok__law_due (P := PySem.Challenge.rw_manydeeds_k01_words.prog) (w := w) (base := base) (cl := fun _ => 0) T D__law_due 
    exact WK.ok_law T D_law D__law_text G__law_text D_is_word G_is_word D__law_pot G__law_pot D__law_due G__law_due
#print axioms PySem.Challenge.cw_manydeeds_k01_words_holds
