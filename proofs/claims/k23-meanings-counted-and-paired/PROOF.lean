import PyProof.Rows.All
import Wide.All
import OpenK.AllK
import Wide.FinOn
import HandS.ForMost
import HandS.Flow
import HandS.Conv
import HandS.IsInst
import HandS.TupAny
import HandS.Zip
import HandS.Wide
import HandS.Style
import HandS.StrMore
import HandS.SetKeys
import HandS.ListItems
import HandS.DictComp
import HandS.SortKw
import KE.KEqNest
import HandS.DeepEq
import PyProof.NeKinds
import HandS.Small
import HandS.RevTup
import HandS.Rev
import HandS.SetFor
import KE.SortData
import KE.DataMinMax
import KE.DataEq
import KE.KIndexOf
import KE.GoesEnum
import KE.KDictItemsList
import HandS.ExcValue
import KE.DataFind
import PySem.Challenge.RW_speechloom_k23_meanings_counted_and_pair
set_option Elab.async false
set_option linter.all false
set_option maxRecDepth 100000
namespace Vl
open PySem PySem.Spec PyProof.Rows L2

/-! ### data -/
inductive D where
  | non | bl (b : Bool) | int (i : Int) | str (x : Str)
  | lst (ds : List D) | tup (ds : List D) | dct (ks : List (Key × D))
  | tupN (ds : List D) | opq

/-- pure data, or a list, a dict of one's own (of pure things; of such) -/
inductive O where
  | pu (d : D) | ls (p : Addr) (ds : List D) | dc (p : Addr) (ks : List (Key × D))
  | lsO (p : Addr) (xs : List O) | dcO (p : Addr) (ks : List (Key × O))
  | ob (p dx C : Addr) (fs : List (Str × O))

mutual
def O.toD : O → D
  | .pu d => d
  | .ls _ ds => .lst ds
  | .dc _ ks => .dct ks
  | .lsO _ xs => .lst (O.toDs xs)
  | .dcO _ ks => .dct (O.toDk ks)
  | .ob _ _ _ _ => .opq
def O.toDs : List O → List D
  | [] => []
  | x :: r => x.toD :: O.toDs r
def O.toDk : List (Key × O) → List (Key × D)
  | [] => []
  | (k, x) :: r => (k, x.toD) :: O.toDk r
end
mutual
def O.fp : O → List Addr
  | .pu _ => []
  | .ls p _ => [p]
  | .dc p _ => [p]
  | .lsO p xs => p :: O.fps xs
  | .dcO p ks => p :: O.fpk ks
  | .ob p dx _ fs => p :: dx :: O.fpf fs
def O.fpf : List (Str × O) → List Addr
  | [] => []
  | (_, x) :: r => x.fp ++ O.fpf r
def O.fps : List O → List Addr
  | [] => []
  | x :: r => x.fp ++ O.fps r
def O.fpk : List (Key × O) → List Addr
  | [] => []
  | (_, x) :: r => x.fp ++ O.fpk r
end

section
variable (K : PySem.W.Frag) (G : Hp)
mutual
def Rp : D → V → Prop
  | .non, v => v = .non
  | .bl b, v => v = .bl b
  | .int i, v => v = .int i
  | .str x, v => v = .str x
  | .lst ds, v => ∃ a vs, v = .ref a ∧ SqL K G a vs ∧ Rps ds vs
  | .tup ds, v => ∃ a vs, v = .ref a ∧ SqT K G a vs ∧ Rps ds vs
  | .dct ks, v => ∃ a vs, v = .ref a ∧ Rd G a (.dK vs) ∧ Rpk ks vs
  | .tupN ds, v => ∃ a o vs, v = .ref a ∧ Rd G a (.tup vs) ∧ Rd G a (.frz o (.tup vs)) ∧ o.dict = .none ∧ Rps ds vs
  | .opq, v => ∃ a, v = .ref a
def Rps : List D → List V → Prop
  | [], vs => vs = []
  | d :: ds, vs => ∃ v r, vs = v :: r ∧ Rp d v ∧ Rps ds r
def Rpk : List (Key × D) → List (Key × V) → Prop
  | [], vs => vs = []
  | (k, d) :: ds, vs => ∃ v r, vs = (k, v) :: r ∧ Rp d v ∧ Rpk ds r
end
variable (H : Hp)
mutual
def OAt : O → V → Prop
  | .pu d, v => Rp K G d v
  | .ls p ds, v => v = .ref p ∧ G p = none ∧ ∃ vs, H p = some (.lst vs) ∧ Rps K G ds vs
  | .dc p ks, v => v = .ref p ∧ G p = none ∧ ∃ vs, H p = some (.dK vs) ∧ Rpk K G ks vs
  | .lsO p xs, v => v = .ref p ∧ G p = none ∧ ∃ vs, H p = some (.lst vs) ∧ OAts xs vs
  | .dcO p ks, v => v = .ref p ∧ G p = none ∧ ∃ vs, H p = some (.dK vs) ∧ OAtk ks vs
  | .ob p dx C fs, v => v = .ref p ∧ G p = none ∧ G dx = none ∧ ∃ vs, H p = some (.ins C dx vs) ∧ H dx = some (.own p) ∧ OAtf fs vs
def OAtf : List (Str × O) → List (Str × V) → Prop
  | [], vs => vs = []
  | (k, x) :: xs, vs => ∃ v r, vs = (k, v) :: r ∧ OAt x v ∧ OAtf xs r
def OAts : List O → List V → Prop
  | [], vs => vs = []
  | x :: xs, vs => ∃ v r, vs = v :: r ∧ OAt x v ∧ OAts xs r
def OAtk : List (Key × O) → List (Key × V) → Prop
  | [], vs => vs = []
  | (k, x) :: xs, vs => ∃ v r, vs = (k, v) :: r ∧ OAt x v ∧ OAtk xs r
end
end

/-- all that may be read in G may be read in H -/
def Sub (G H : Hp) : Prop := ∀ a u, Rd G a u → Rd H a u
theorem Sub.refl (G : Hp) : Sub G G := fun _ _ h => h
theorem Sub.trans {A B C : Hp} (h : Sub A B) (k : Sub B C) : Sub A C := fun a u q => k a u (h a u q)
theorem Sub.sqL {K : PySem.W.Frag} {G H : Hp} {a : Addr} {xs : List V} (s : Sub G H) (h : SqL K G a xs) : SqL K H a xs := by
  rcases h with h | h
  · exact .inl (s a _ h)
  · exact .inr h
theorem Sub.sqT {K : PySem.W.Frag} {G H : Hp} {a : Addr} {xs : List V} (s : Sub G H) (h : SqT K G a xs) : SqT K H a xs := by
  rcases h with h | h
  · exact .inl (s a _ h)
  · exact .inr h
theorem Sub.some {G H : Hp} {a : Addr} {o : HO} (s : Sub G H) (h : G a = some o) : ∃ o', H a = some o' := by
  rcases s a o (.inl h) with h | ⟨o', h⟩
  · exact ⟨_, h⟩
  · exact ⟨_, h⟩
theorem Sub.none {G H : Hp} {a : Addr} (s : Sub G H) (h : H a = none) : G a = none := by
  cases e : G a with
  | none => rfl
  | some o =>
    obtain ⟨o', q⟩ := s.some e
    rw [h] at q
    cases q
section
variable {K : PySem.W.Frag}
mutual
theorem Rp.mono {G H : Hp} (s : Sub G H) : ∀ (d : D) (v : V), Rp K G d v → Rp K H d v
  | .non, v, h => by unfold Rp at h ⊢; exact h
  | .bl _, v, h => by unfold Rp at h ⊢; exact h
  | .int _, v, h => by unfold Rp at h ⊢; exact h
  | .str _, v, h => by unfold Rp at h ⊢; exact h
  | .lst ds, v, h => by
    unfold Rp at h ⊢
    obtain ⟨a, vs, e, q, r⟩ := h
    exact ⟨a, vs, e, s.sqL q, Rps.mono s ds vs r⟩
  | .tup ds, v, h => by
    unfold Rp at h ⊢
    obtain ⟨a, vs, e, q, r⟩ := h
    exact ⟨a, vs, e, s.sqT q, Rps.mono s ds vs r⟩
  | .dct ks, v, h => by
    unfold Rp at h ⊢
    obtain ⟨a, vs, e, q, r⟩ := h
    exact ⟨a, vs, e, s a _ q, Rpk.mono s ks vs r⟩
  | .tupN ds, v, h => by
    unfold Rp at h ⊢
    obtain ⟨a, o, vs, e, q, q2, n, r⟩ := h
    exact ⟨a, o, vs, e, s a _ q, s a _ q2, n, Rps.mono s ds vs r⟩
  | .opq, v, h => by unfold Rp at h ⊢; exact h
theorem Rps.mono {G H : Hp} (s : Sub G H) : ∀ (ds : List D) (vs : List V), Rps K G ds vs → Rps K H ds vs
  | [], _, h => by unfold Rps at h ⊢; exact h
  | d :: ds, _, h => by
    unfold Rps at h ⊢
    obtain ⟨v, r, e, a, b⟩ := h
    exact ⟨v, r, e, Rp.mono s d v a, Rps.mono s ds r b⟩
theorem Rpk.mono {G H : Hp} (s : Sub G H) : ∀ (ds : List (Key × D)) (vs : List (Key × V)), Rpk K G ds vs → Rpk K H ds vs
  | [], _, h => by unfold Rpk at h ⊢; exact h
  | (k, d) :: ds, _, h => by
    unfold Rpk at h ⊢
    obtain ⟨v, r, e, a, b⟩ := h
    exact ⟨v, r, e, Rp.mono s d v a, Rpk.mono s ds r b⟩
end

mutual
/-- what is owned may be read -/
theorem OAt.rp {G H : Hp} (s : Sub G H) : ∀ (o : O) (v : V), OAt K G H o v → Rp K H o.toD v
  | .pu d, v, h => by unfold OAt at h; exact Rp.mono s _ _ h
  | .ls p ds, v, h => by
    unfold OAt at h
    obtain ⟨e, _, vs, q, r⟩ := h
    unfold O.toD Rp
    exact ⟨p, vs, e, SqL.of q, Rps.mono s ds vs r⟩
  | .dc p ks, v, h => by
    unfold OAt at h
    obtain ⟨e, _, vs, q, r⟩ := h
    unfold O.toD Rp
    exact ⟨p, vs, e, .inl q, Rpk.mono s ks vs r⟩
  | .lsO p xs, v, h => by
    unfold OAt at h
    obtain ⟨e, _, vs, q, r⟩ := h
    unfold O.toD Rp
    exact ⟨p, vs, e, SqL.of q, OAts.rp s xs vs r⟩
  | .dcO p ks, v, h => by
    unfold OAt at h
    obtain ⟨e, _, vs, q, r⟩ := h
    unfold O.toD Rp
    exact ⟨p, vs, e, .inl q, OAtk.rp s ks vs r⟩
  | .ob p dx C fs, v, h => by unfold OAt at h; unfold O.toD Rp; exact ⟨p, h.1⟩
theorem OAts.rp {G H : Hp} (s : Sub G H) : ∀ (xs : List O) (vs : List V), OAts K G H xs vs → Rps K H (O.toDs xs) vs
  | [], _, h => by unfold OAts at h; unfold O.toDs Rps; exact h
  | x :: xs, _, h => by
    unfold OAts at h
    obtain ⟨v, r, e, a, b⟩ := h
    unfold O.toDs Rps
    exact ⟨v, r, e, OAt.rp s x v a, OAts.rp s xs r b⟩
theorem OAtk.rp {G H : Hp} (s : Sub G H) : ∀ (xs : List (Key × O)) (vs : List (Key × V)), OAtk K G H xs vs → Rpk K H (O.toDk xs) vs
  | [], _, h => by unfold OAtk at h; unfold O.toDk Rpk; exact h
  | (k, x) :: xs, _, h => by
    unfold OAtk at h
    obtain ⟨v, r, e, a, b⟩ := h
    unfold O.toDk Rpk
    exact ⟨v, r, e, OAt.rp s x v a, OAtk.rp s xs r b⟩
end
mutual
/-- what is owned stands where its cells stand -/
theorem OAt.mono {G H G' H' : Hp} (s : Sub G G') : ∀ (o : O) (v : V), (∀ p ∈ o.fp, H' p = H p ∧ G' p = G p) → OAt K G H o v → OAt K G' H' o v
  | .pu d, v, _, h => by unfold OAt at h ⊢; exact Rp.mono s _ _ h
  | .ls p ds, v, f, h => by
    unfold OAt at h ⊢
    unfold O.fp at f
    obtain ⟨e, n, vs, q, r⟩ := h
    have fp := f p List.mem_cons_self
    exact ⟨e, fp.2.trans n, vs, fp.1.trans q, Rps.mono s ds vs r⟩
  | .dc p ds, v, f, h => by
    unfold OAt at h ⊢
    unfold O.fp at f
    obtain ⟨e, n, vs, q, r⟩ := h
    have fp := f p List.mem_cons_self
    exact ⟨e, fp.2.trans n, vs, fp.1.trans q, Rpk.mono s ds vs r⟩
  | .lsO p xs, v, f, h => by
    unfold OAt at h ⊢
    unfold O.fp at f
    obtain ⟨e, n, vs, q, r⟩ := h
    have fp := f p List.mem_cons_self
    exact ⟨e, fp.2.trans n, vs, fp.1.trans q, OAts.mono s xs vs (fun p hp => f p (List.mem_cons_of_mem _ hp)) r⟩
  | .dcO p ks, v, f, h => by
    unfold OAt at h ⊢
    unfold O.fp at f
    obtain ⟨e, n, vs, q, r⟩ := h
    have fp := f p List.mem_cons_self
    exact ⟨e, fp.2.trans n, vs, fp.1.trans q, OAtk.mono s ks vs (fun p hp => f p (List.mem_cons_of_mem _ hp)) r⟩
  | .ob p dx C fs, v, f, h => by
    unfold OAt at h ⊢
    unfold O.fp at f
    obtain ⟨e, n, n2, vs, q, q2, r⟩ := h
    have fp := f p List.mem_cons_self
    have fd := f dx (List.mem_cons_of_mem _ List.mem_cons_self)
    exact ⟨e, fp.2.trans n, fd.2.trans n2, vs, fp.1.trans q, fd.1.trans q2, OAtf.mono s fs vs (fun p hp => f p (List.mem_cons_of_mem _ (List.mem_cons_of_mem _ hp))) r⟩
theorem OAtf.mono {G H G' H' : Hp} (s : Sub G G') : ∀ (xs : List (Str × O)) (vs : List (Str × V)), (∀ p ∈ O.fpf xs, H' p = H p ∧ G' p = G p) → OAtf K G H xs vs → OAtf K G' H' xs vs
  | [], _, _, h => by unfold OAtf at h ⊢; exact h
  | (k, x) :: xs, _, f, h => by
    unfold OAtf at h ⊢
    unfold O.fpf at f
    obtain ⟨v, r, e, a, b⟩ := h
    exact ⟨v, r, e, OAt.mono s x v (fun p hp => f p (List.mem_append_left _ hp)) a, OAtf.mono s xs r (fun p hp => f p (List.mem_append_right _ hp)) b⟩
theorem OAts.mono {G H G' H' : Hp} (s : Sub G G') : ∀ (xs : List O) (vs : List V), (∀ p ∈ O.fps xs, H' p = H p ∧ G' p = G p) → OAts K G H xs vs → OAts K G' H' xs vs
  | [], _, _, h => by unfold OAts at h ⊢; exact h
  | x :: xs, _, f, h => by
    unfold OAts at h ⊢
    unfold O.fps at f
    obtain ⟨v, r, e, a, b⟩ := h
    exact ⟨v, r, e, OAt.mono s x v (fun p hp => f p (List.mem_append_left _ hp)) a, OAts.mono s xs r (fun p hp => f p (List.mem_append_right _ hp)) b⟩
theorem OAtk.mono {G H G' H' : Hp} (s : Sub G G') : ∀ (xs : List (Key × O)) (vs : List (Key × V)), (∀ p ∈ O.fpk xs, H' p = H p ∧ G' p = G p) → OAtk K G H xs vs → OAtk K G' H' xs vs
  | [], _, _, h => by unfold OAtk at h ⊢; exact h
  | (k, x) :: xs, _, f, h => by
    unfold OAtk at h ⊢
    unfold O.fpk at f
    obtain ⟨v, r, e, a, b⟩ := h
    exact ⟨v, r, e, OAt.mono s x v (fun p hp => f p (List.mem_append_left _ hp)) a, OAtk.mono s xs r (fun p hp => f p (List.mem_append_right _ hp)) b⟩
end
mutual
/-- cells stand in H, not in G -/
theorem OAt.cell {G H : Hp} : ∀ (o : O) (v : V), OAt K G H o v → ∀ p ∈ o.fp, G p = none ∧ ∃ u, H p = some u ∧ (∀ o w, u ≠ .frz o w)
  | .pu d, v, h, p, hp => by unfold O.fp at hp; cases hp
  | .ls q xs, v, h, p, hp => by
    unfold O.fp at hp
    unfold OAt at h
    obtain ⟨e, n, vs, k, r⟩ := h
    rcases List.mem_cons.mp hp with z | z
    · rw [z]; exact ⟨n, _, k, fun _ _ z => nomatch z⟩
    · cases z
  | .dc q xs, v, h, p, hp => by
    unfold O.fp at hp
    unfold OAt at h
    obtain ⟨e, n, vs, k, r⟩ := h
    rcases List.mem_cons.mp hp with z | z
    · rw [z]; exact ⟨n, _, k, fun _ _ z => nomatch z⟩
    · cases z
  | .lsO q xs, v, h, p, hp => by
    unfold O.fp at hp
    unfold OAt at h
    obtain ⟨e, n, vs, k, r⟩ := h
    rcases List.mem_cons.mp hp with z | z
    · rw [z]; exact ⟨n, _, k, fun _ _ z => nomatch z⟩
    · exact OAts.cell xs vs r p z
  | .dcO q xs, v, h, p, hp => by
    unfold O.fp at hp
    unfold OAt at h
    obtain ⟨e, n, vs, k, r⟩ := h
    rcases List.mem_cons.mp hp with z | z
    · rw [z]; exact ⟨n, _, k, fun _ _ z => nomatch z⟩
    · exact OAtk.cell xs vs r p z
  | .ob q dx C xs, v, h, p, hp => by
    unfold O.fp at hp
    unfold OAt at h
    obtain ⟨e, n, n2, vs, k, k2, r⟩ := h
    rcases List.mem_cons.mp hp with z | z
    · rw [z]; exact ⟨n, _, k, fun _ _ z => nomatch z⟩
    · rcases List.mem_cons.mp z with z | z
      · rw [z]; exact ⟨n2, _, k2, fun _ _ z => nomatch z⟩
      · exact OAtf.cell xs vs r p z
theorem OAtf.cell {G H : Hp} : ∀ (xs : List (Str × O)) (vs : List (Str × V)), OAtf K G H xs vs → ∀ p ∈ O.fpf xs, G p = none ∧ ∃ u, H p = some u ∧ (∀ o w, u ≠ .frz o w)
  | [], _, _, p, hp => by unfold O.fpf at hp; cases hp
  | (k, x) :: xs, _, h, p, hp => by
    unfold O.fpf at hp
    unfold OAtf at h
    obtain ⟨v, r, e, a, b⟩ := h
    rcases List.mem_append.mp hp with z | z
    · exact OAt.cell x v a p z
    · exact OAtf.cell xs r b p z
theorem OAts.cell {G H : Hp} : ∀ (xs : List O) (vs : List V), OAts K G H xs vs → ∀ p ∈ O.fps xs, G p = none ∧ ∃ u, H p = some u ∧ (∀ o w, u ≠ .frz o w)
  | [], _, _, p, hp => by unfold O.fps at hp; cases hp
  | x :: xs, _, h, p, hp => by
    unfold O.fps at hp
    unfold OAts at h
    obtain ⟨v, r, e, a, b⟩ := h
    rcases List.mem_append.mp hp with z | z
    · exact OAt.cell x v a p z
    · exact OAts.cell xs r b p z
theorem OAtk.cell {G H : Hp} : ∀ (xs : List (Key × O)) (vs : List (Key × V)), OAtk K G H xs vs → ∀ p ∈ O.fpk xs, G p = none ∧ ∃ u, H p = some u ∧ (∀ o w, u ≠ .frz o w)
  | [], _, _, p, hp => by unfold O.fpk at hp; cases hp
  | (k, x) :: xs, _, h, p, hp => by
    unfold O.fpk at hp
    unfold OAtk at h
    obtain ⟨v, r, e, a, b⟩ := h
    rcases List.mem_append.mp hp with z | z
    · exact OAt.cell x v a p z
    · exact OAtk.cell xs r b p z
end
/-- cells laid over what may be read: what is owned is frozen -/
def frze (G H : Hp) (l : List Addr) : Hp := fun b => if b ∈ l then H b else G b
theorem frze_in {G H : Hp} {l : List Addr} {b : Addr} (h : b ∈ l) : frze G H l b = H b := by unfold frze; rw [if_pos h]
theorem frze_out {G H : Hp} {l : List Addr} {b : Addr} (h : b ∉ l) : frze G H l b = G b := by unfold frze; rw [if_neg h]
theorem frze_up {G H : Hp} {l : List Addr} (h : ∀ b ∈ l, G b = none) : Sub G (frze G H l) := fun a u q => by
  have ha : a ∉ l := fun z => by
    rcases q with q | ⟨o, q⟩ <;> (rw [h a z] at q; cases q)
  unfold Rd
  rw [frze_out ha]
  exact q
theorem frze_sub {G H : Hp} {l : List Addr} (s : Sub G H) : Sub (frze G H l) H := fun a u q => by
  by_cases ha : a ∈ l
  · unfold Rd at q
    rw [frze_in ha] at q
    exact q
  · unfold Rd at q
    rw [frze_out ha] at q
    exact s a u q
mutual
theorem OAt.freeze {G H : Hp} {l : List Addr} (s : Sub G (frze G H l)) : ∀ (o : O) (v : V), (∀ p ∈ o.fp, p ∈ l) → OAt K G H o v → Rp K (frze G H l) o.toD v
  | .pu d, v, _, h => by unfold OAt at h; unfold O.toD; exact Rp.mono s _ _ h
  | .ls p xs, v, f, h => by
    unfold O.fp at f
    unfold OAt at h
    obtain ⟨e, _, vs, q, r⟩ := h
    unfold O.toD Rp
    exact ⟨p, vs, e, SqL.of ((frze_in (f p List.mem_cons_self)).trans q), Rps.mono s xs vs r⟩
  | .dc p xs, v, f, h => by
    unfold O.fp at f
    unfold OAt at h
    obtain ⟨e, _, vs, q, r⟩ := h
    unfold O.toD Rp
    exact ⟨p, vs, e, .inl ((frze_in (f p List.mem_cons_self)).trans q), Rpk.mono s xs vs r⟩
  | .lsO p xs, v, f, h => by
    unfold O.fp at f
    unfold OAt at h
    obtain ⟨e, _, vs, q, r⟩ := h
    unfold O.toD Rp
    exact ⟨p, vs, e, SqL.of ((frze_in (f p List.mem_cons_self)).trans q), OAts.freeze s xs vs (fun p hp => f p (List.mem_cons_of_mem _ hp)) r⟩
  | .dcO p xs, v, f, h => by
    unfold O.fp at f
    unfold OAt at h
    obtain ⟨e, _, vs, q, r⟩ := h
    unfold O.toD Rp
    exact ⟨p, vs, e, .inl ((frze_in (f p List.mem_cons_self)).trans q), OAtk.freeze s xs vs (fun p hp => f p (List.mem_cons_of_mem _ hp)) r⟩
  | .ob p dx C xs, v, f, h => by unfold OAt at h; unfold O.toD Rp; exact ⟨p, h.1⟩
theorem OAts.freeze {G H : Hp} {l : List Addr} (s : Sub G (frze G H l)) : ∀ (xs : List O) (vs : List V), (∀ p ∈ O.fps xs, p ∈ l) → OAts K G H xs vs → Rps K (frze G H l) (O.toDs xs) vs
  | [], _, _, h => by unfold OAts at h; unfold O.toDs Rps; exact h
  | x :: xs, _, f, h => by
    unfold O.fps at f
    unfold OAts at h
    obtain ⟨v, r, e, a, b⟩ := h
    unfold O.toDs Rps
    exact ⟨v, r, e, OAt.freeze s x v (fun p hp => f p (List.mem_append_left _ hp)) a, OAts.freeze s xs r (fun p hp => f p (List.mem_append_right _ hp)) b⟩
theorem OAtk.freeze {G H : Hp} {l : List Addr} (s : Sub G (frze G H l)) : ∀ (xs : List (Key × O)) (vs : List (Key × V)), (∀ p ∈ O.fpk xs, p ∈ l) → OAtk K G H xs vs → Rpk K (frze G H l) (O.toDk xs) vs
  | [], _, _, h => by unfold OAtk at h; unfold O.toDk Rpk; exact h
  | (k, x) :: xs, _, f, h => by
    unfold O.fpk at f
    unfold OAtk at h
    obtain ⟨v, r, e, a, b⟩ := h
    unfold O.toDk Rpk
    exact ⟨v, r, e, OAt.freeze s x v (fun p hp => f p (List.mem_append_left _ hp)) a, OAtk.freeze s xs r (fun p hp => f p (List.mem_append_right _ hp)) b⟩
end
end

/-! ### slots -/
abbrev Env := List (Option O)
def fpe : Env → List Addr
  | [] => []
  | none :: e => fpe e
  | some o :: e => o.fp ++ fpe e
theorem fpe_app : ∀ (a b : Env), fpe (a ++ b) = fpe a ++ fpe b
  | [], b => rfl
  | none :: a, b => by show fpe (a ++ b) = fpe a ++ fpe b; exact fpe_app a b
  | some o :: a, b => by show o.fp ++ fpe (a ++ b) = (o.fp ++ fpe a) ++ fpe b; rw [fpe_app a b, List.append_assoc]
section
variable (K : PySem.W.Frag) (G H : Hp)
def Slots : Env → L2.St → Prop
  | [], σ => σ = []
  | none :: e, σ => ∃ s r, σ = s :: r ∧ Slots e r
  | some o :: e, σ => ∃ v r, σ = some v :: r ∧ OAt K G H o v ∧ Slots e r
end
section
variable {K : PySem.W.Frag}
theorem Slots.mono {G H G' H' : Hp} (s : Sub G G') : ∀ (e : Env) (σ : L2.St), (∀ p ∈ fpe e, H' p = H p ∧ G' p = G p) → Slots K G H e σ → Slots K G' H' e σ
  | [], _, _, h => h
  | none :: e, _, f, h => by
    obtain ⟨x, r, q, b⟩ := h
    exact ⟨x, r, q, Slots.mono s e r f b⟩
  | some o :: e, _, f, h => by
    obtain ⟨v, r, q, a, b⟩ := h
    exact ⟨v, r, q, OAt.mono s o v (fun p hp => f p (List.mem_append_left _ hp)) a, Slots.mono s e r (fun p hp => f p (List.mem_append_right _ hp)) b⟩
theorem Slots.cell {G H : Hp} : ∀ (e : Env) (σ : L2.St), Slots K G H e σ → ∀ p ∈ fpe e, G p = none ∧ ∃ u, H p = some u ∧ (∀ o w, u ≠ .frz o w)
  | [], _, _, p, hp => nomatch hp
  | none :: e, _, h, p, hp => by
    obtain ⟨x, r, q, b⟩ := h
    exact Slots.cell e r b p hp
  | some o :: e, _, h, p, hp => by
    obtain ⟨v, r, q, a, b⟩ := h
    rcases List.mem_append.mp hp with z | z
    · exact OAt.cell o v a p z
    · exact Slots.cell e r b p z
theorem Slots.app {G H : Hp} : ∀ (a b : Env) (σ : L2.St), Slots K G H (a ++ b) σ → ∃ σ1 σ2, σ = σ1 ++ σ2 ∧ σ1.length = a.length ∧ Slots K G H a σ1 ∧ Slots K G H b σ2
  | [], b, σ, h => ⟨[], σ, rfl, rfl, rfl, h⟩
  | none :: a, b, _, h => by
    obtain ⟨x, r, q, k⟩ := h
    obtain ⟨σ1, σ2, e1, e2, k1, k2⟩ := Slots.app a b r k
    exact ⟨x :: σ1, σ2, by rw [q, e1]; rfl, by simp [e2], ⟨x, σ1, rfl, k1⟩, k2⟩
  | some o :: a, b, _, h => by
    obtain ⟨v, r, q, z, k⟩ := h
    obtain ⟨σ1, σ2, e1, e2, k1, k2⟩ := Slots.app a b r k
    exact ⟨some v :: σ1, σ2, by rw [q, e1]; rfl, by simp [e2], ⟨v, σ1, rfl, z, k1⟩, k2⟩
theorem Slots.join {G H : Hp} : ∀ (a b : Env) (σ1 σ2 : L2.St), Slots K G H a σ1 → Slots K G H b σ2 → Slots K G H (a ++ b) (σ1 ++ σ2)
  | [], b, σ1, σ2, h, k => by have e : σ1 = [] := h; subst e; exact k
  | none :: a, b, _, σ2, h, k => by
    obtain ⟨x, r, q, z⟩ := h
    subst q
    exact ⟨x, r ++ σ2, rfl, Slots.join a b r σ2 z k⟩
  | some o :: a, b, _, σ2, h, k => by
    obtain ⟨v, r, q, y, z⟩ := h
    subst q
    exact ⟨v, r ++ σ2, rfl, y, Slots.join a b r σ2 z k⟩
theorem Slots.len {G H : Hp} : ∀ (e : Env) (σ : L2.St), Slots K G H e σ → σ.length = e.length
  | [], _, h => by have e : _ = [] := h; subst e; rfl
  | none :: e, _, h => by
    obtain ⟨x, r, q, b⟩ := h
    subst q
    simp [Slots.len e r b]
  | some o :: e, _, h => by
    obtain ⟨v, r, q, a, b⟩ := h
    subst q
    simp [Slots.len e r b]
theorem Slots.get {G H : Hp} : ∀ (e : Env) (σ : L2.St) (i : Nat) (o : O), Slots K G H e σ → e[i]? = some (some o) → ∃ v, σ[i]? = some (some v) ∧ OAt K G H o v
  | none :: e, _, i, o, h, q => by
    obtain ⟨x, r, z, b⟩ := h
    subst z
    cases i with
    | zero => cases q
    | succ i => exact Slots.get e r i o b q
  | some o' :: e, _, i, o, h, q => by
    obtain ⟨v, r, z, a, b⟩ := h
    subst z
    cases i with
    | zero => cases q; exact ⟨v, rfl, a⟩
    | succ i => exact Slots.get e r i o b q
theorem Slots.put {G H : Hp} : ∀ (e : Env) (σ : L2.St) (i : Nat) (o : O) (v : V), Slots K G H e σ → OAt K G H o v → Slots K G H (e.set i (some o)) (σ.set i (some v))
  | [], _, i, o, v, h, q => by have e : _ = [] := h; subst e; exact rfl
  | none :: e, _, i, o, v, h, q => by
    obtain ⟨x, r, z, b⟩ := h
    subst z
    cases i with
    | zero => exact ⟨v, r, rfl, q, b⟩
    | succ i => exact ⟨x, r.set i (some v), rfl, Slots.put e r i o v b q⟩
  | some o' :: e, _, i, o, v, h, q => by
    obtain ⟨w, r, z, a, b⟩ := h
    subst z
    cases i with
    | zero => exact ⟨v, r, rfl, q, b⟩
    | succ i => exact ⟨w, r.set i (some v), rfl, a, Slots.put e r i o v b q⟩
/-- a slot forgotten -/
theorem Slots.drop {G H : Hp} : ∀ (e : Env) (σ : L2.St) (i : Nat), Slots K G H e σ → Slots K G H (e.set i none) σ
  | [], _, i, h => h
  | none :: e, _, i, h => by
    obtain ⟨x, r, z, b⟩ := h
    cases i with
    | zero => exact ⟨x, r, z, b⟩
    | succ i => exact ⟨x, r, z, Slots.drop e r i b⟩
  | some o' :: e, _, i, h => by
    obtain ⟨w, r, z, a, b⟩ := h
    cases i with
    | zero => exact ⟨some w, r, z, b⟩
    | succ i => exact ⟨w, r, z, a, Slots.drop e r i b⟩
/-- .. put back with the same value -/
theorem Slots.back {G H : Hp} : ∀ (e : Env) (σ : L2.St) (i : Nat) (o : O) (v : V), Slots K G H e σ → OAt K G H o v → σ[i]? = some (some v) → Slots K G H (e.set i (some o)) σ
  | [], _, i, o, v, h, q, z => h
  | none :: e, _, i, o, v, h, q, z => by
    obtain ⟨x, r, y, b⟩ := h
    subst y
    cases i with
    | zero => cases z; exact ⟨v, r, rfl, q, b⟩
    | succ i => exact ⟨x, r, rfl, Slots.back e r i o v b q z⟩
  | some o' :: e, _, i, o, v, h, q, z => by
    obtain ⟨w, r, y, a, b⟩ := h
    subst y
    cases i with
    | zero => cases z; exact ⟨v, r, rfl, q, b⟩
    | succ i => exact ⟨w, r, rfl, a, Slots.back e r i o v b q z⟩
end
end Vl

namespace Vl
open PySem PySem.Spec PyProof.Rows L2

/-- an exception that leaves: its class, its one field -/
structure Exn where
  cls : Addr
  fld : Str
  val : D
/-- a code's frame: what stood at its entry, what of that may change, what is wished of an exception -/
structure Fx where
  G : Hp
  H : Hp
  B : List Addr
  E : Value → Option Addr → L2.St → Hp → Prop

structure Frm (φ : Fx) (G H : Hp) : Prop where
  up : Sub φ.G G
  sub : Sub G H
  keep : ∀ b o, φ.H b = some o → b ∉ φ.B → H b = some o
  gk : ∀ b o, φ.H b = some o → b ∉ φ.B → G b = φ.G b
  live : ∀ b o, φ.H b = some o → ∃ o', H b = some o'
structure Rel (K : PySem.W.Frag) (φ : Fx) (e : Env) (σ : L2.St) (G H : Hp) : Prop where
  frm : Frm φ G H
  slots : Slots K G H e σ
  nd : (fpe e).Nodup
  own : ∀ p ∈ fpe e, p ∈ φ.B ∨ φ.H p = none
def rb (φ : Fx) (e : Env) (G H : Hp) : Fx := ⟨G, H, fpe e, φ.E⟩
def ExcAt (K : PySem.W.Frag) (G H : Hp) (x : Exn) (cls : Value) (d : Option Addr) : Prop :=
  cls = .ref x.cls ∧ ∃ a v, d = some a ∧ H a = some (.xd [(x.fld, v)]) ∧ Rp K G x.val v
abbrev XP := Exn → Env → Prop
def ExOk (K : PySem.W.Frag) (φ : Fx) (x : XP) : Prop := ∀ e env σ G H cls d, x e env → Rel K φ env σ G H → ExcAt K G H e cls d → φ.E cls d σ H

theorem nodup_app {α : Type} {a b : List α} (h : (a ++ b).Nodup) : a.Nodup ∧ b.Nodup ∧ ∀ x ∈ a, x ∉ b := by
  rw [List.nodup_append] at h
  exact ⟨h.1, h.2.1, fun x hx hy => h.2.2 x hx x hy rfl⟩
theorem app_nodup {α : Type} {a b : List α} (h : a.Nodup) (k : b.Nodup) (d : ∀ x ∈ a, x ∉ b) : (a ++ b).Nodup := by
  rw [List.nodup_append]
  exact ⟨h, k, fun x hx y hy e => d x hx (e ▸ hy)⟩

section
variable {K : PySem.W.Frag} {φ : Fx} {e : Env} {σ : L2.St} {G H G' H' : Hp}
theorem Frm.trans {l : List Addr} {E : Value → Option Addr → L2.St → Hp → Prop} (a : Frm φ G H) (own : ∀ p ∈ l, p ∈ φ.B ∨ φ.H p = none) (b : Frm ⟨G, H, l, E⟩ G' H') : Frm φ G' H' where
  up := a.up.trans b.up
  sub := b.sub
  keep := fun c o h n => b.keep c o (a.keep c o h n) fun z => by
    rcases own c z with q | q
    · exact n q
    · rw [q] at h; cases h
  gk := fun c o h n => (b.gk c o (a.keep c o h n) fun z => by
    rcases own c z with q | q
    · exact n q
    · rw [q] at h; cases h).trans (a.gk c o h n)
  live := fun c o h => by
    obtain ⟨o', h'⟩ := a.live c o h
    exact b.live c o' h'
theorem Frm.self {E : Value → Option Addr → L2.St → Hp → Prop} {l : List Addr} (s : Sub G H) : Frm ⟨G, H, l, E⟩ G H := ⟨Sub.refl G, s, fun _ _ h _ => h, fun _ _ _ _ => rfl, fun _ o h => ⟨o, h⟩⟩
theorem Rel.sub (R : Rel K φ e σ G H) : Sub G H := R.frm.sub
/-- the entry anew -/
theorem Rel.re (R : Rel K φ e σ G H) : Rel K (rb φ e G H) e σ G H := ⟨.self R.frm.sub, R.slots, R.nd, fun p hp => .inl hp⟩
theorem Rel.none_of (R : Rel K φ e σ G H) {p : Addr} (h : H p = none) : φ.H p = none := by
  cases q : φ.H p with
  | none => rfl
  | some o =>
    obtain ⟨o', z⟩ := R.frm.live p o q
    rw [h] at z; cases z
/-- what is held aside stays while something runs -/
theorem Rel.frame {ts : Env} {vs : L2.St} (R : Rel K φ (ts ++ e) (vs ++ σ) G H) (hl : vs.length = ts.length) :
    Rel K (rb φ e G H) e σ G H ∧ ∀ (e' : Env) (σ' : L2.St) (G' H' : Hp), Rel K (rb φ e G H) e' σ' G' H' → Rel K φ (ts ++ e') (vs ++ σ') G' H' := by
  obtain ⟨σ1, σ2, q1, q2, k1, k2⟩ := Slots.app ts e _ R.slots
  obtain ⟨e1, e2⟩ := List.append_inj q1 (hl.trans q2.symm)
  subst e1 e2
  obtain ⟨n1, n2, n3⟩ := nodup_app (by rw [← fpe_app]; exact R.nd)
  have own1 : ∀ p ∈ fpe ts, p ∈ φ.B ∨ φ.H p = none := fun p hp => R.own p (by rw [fpe_app]; exact List.mem_append_left _ hp)
  have own2 : ∀ p ∈ fpe e, p ∈ φ.B ∨ φ.H p = none := fun p hp => R.own p (by rw [fpe_app]; exact List.mem_append_right _ hp)
  refine ⟨⟨.self R.frm.sub, k2, n2, fun p hp => .inl hp⟩, fun e' σ' G' H' S => ?_⟩
  have F := R.frm.trans own2 S.frm
  have c1 := Slots.cell ts _ k1
  have st : ∀ p ∈ fpe ts, H' p = H p ∧ G' p = G p := fun p hp => by
    obtain ⟨gn, u, hu, _⟩ := c1 p hp
    exact ⟨(S.frm.keep p u hu (n3 p hp)).trans hu.symm, S.frm.gk p u hu (n3 p hp)⟩
  refine ⟨F, Slots.join ts e' _ _ (Slots.mono S.frm.up ts _ st k1) S.slots, ?_, fun p hp => ?_⟩
  · rw [fpe_app]
    refine app_nodup n1 S.nd fun p hp hq => ?_
    rcases S.own p hq with z | z
    · exact n3 p hp z
    · obtain ⟨_, u, hu, _⟩ := c1 p hp
      have z' : H p = none := z
      rw [hu] at z'; cases z'
  · rw [fpe_app] at hp
    rcases List.mem_append.mp hp with z | z
    · exact own1 p z
    · rcases S.own p z with y | y
      · exact own2 p y
      · exact .inr (R.none_of y)
theorem Rel.unhead {ts : Env} {vs : L2.St} (R : Rel K φ (ts ++ e) (vs ++ σ) G H) (hl : vs.length = ts.length) : Rel K φ e σ G H := by
  obtain ⟨σ1, σ2, q1, q2, k1, k2⟩ := Slots.app ts e _ R.slots
  obtain ⟨e1, e2⟩ := List.append_inj q1 (hl.trans q2.symm)
  subst e1 e2
  obtain ⟨n1, n2, n3⟩ := nodup_app (by rw [← fpe_app]; exact R.nd)
  exact ⟨R.frm, k2, n2, fun p hp => R.own p (by rw [fpe_app]; exact List.mem_append_right _ hp)⟩
theorem ExOk.frame {x : XP} {ts : Env} {vs : L2.St} (X : ExOk K φ x) (R : Rel K φ (ts ++ e) (vs ++ σ) G H) (hl : vs.length = ts.length) : ExOk K (rb φ e G H) x := fun y env σ' G' H' cls d hx S hE =>
  X y env σ' G' H' cls d hx (((R.frame hl).2 env σ' G' H' S).unhead hl) hE
/-- behind a code that ran from the entry anew -/
theorem Rel.back (R : Rel K φ e σ G H) {e' : Env} {σ' : L2.St} (S : Rel K (rb φ e G H) e' σ' G' H') : Rel K φ e' σ' G' H' := (Rel.frame (ts := []) (vs := []) R rfl).2 e' σ' G' H' S
theorem ExOk.re {x : XP} (X : ExOk K φ x) (R : Rel K φ e σ G H) : ExOk K (rb φ e G H) x := ExOk.frame (ts := []) (vs := []) X R rfl

/-! ### single slots -/
theorem Rel.tail {o : Option O} {v : Option V} (R : Rel K φ (o :: e) (v :: σ) G H) : Rel K φ e σ G H := Rel.unhead (ts := [o]) (vs := [v]) R rfl
theorem Rel.headOAt {o : O} {v : V} (R : Rel K φ (some o :: e) (some v :: σ) G H) : OAt K G H o v := by
  obtain ⟨w, r, q, a, _⟩ := R.slots
  cases q
  exact a
theorem Rel.get (R : Rel K φ e σ G H) {i : Nat} {o : O} (h : e[i]? = some (some o)) : ∃ v, σ[i]? = some (some v) ∧ OAt K G H o v := Slots.get e σ i o R.slots h
theorem Rel.len (R : Rel K φ e σ G H) : σ.length = e.length := Slots.len e σ R.slots
theorem Rel.consNone {v : Option V} (R : Rel K φ e σ G H) : Rel K φ (none :: e) (v :: σ) G H := ⟨R.frm, ⟨v, σ, rfl, R.slots⟩, R.nd, R.own⟩
theorem Rel.consPu {d : D} {v : V} (R : Rel K φ e σ G H) (h : Rp K G d v) : Rel K φ (some (.pu d) :: e) (some v :: σ) G H :=
  ⟨R.frm, ⟨v, σ, rfl, by unfold OAt; exact h, R.slots⟩, by show (O.fp (.pu d) ++ fpe e).Nodup; unfold O.fp; exact R.nd, fun p hp => R.own p (by
    have hp' : p ∈ O.fp (.pu d) ++ fpe e := hp
    unfold O.fp at hp'
    exact hp')⟩
theorem Rel.headRp {d : D} {v : V} (R : Rel K φ (some (.pu d) :: e) (some v :: σ) G H) : Rp K G d v := by
  have h := R.headOAt
  unfold OAt at h
  exact h
theorem fpe_drop : ∀ (e : Env) (i : Nat), (fpe (e.set i none)).Sublist (fpe e)
  | [], i => List.Sublist.refl _
  | none :: e, 0 => List.Sublist.refl _
  | some o :: e, 0 => List.sublist_append_right _ _
  | none :: e, i + 1 => fpe_drop e i
  | some o :: e, i + 1 => List.Sublist.append (List.Sublist.refl _) (fpe_drop e i)
theorem fpe_out : ∀ (e : Env) (i : Nat) (o : O), e[i]? = some (some o) → (fpe e).Perm (o.fp ++ fpe (e.set i none))
  | none :: e, 0, o, h => by cases h
  | some o' :: e, 0, o, h => by cases h; exact List.Perm.refl _
  | none :: e, i + 1, o, h => fpe_out e i o h
  | some o' :: e, i + 1, o, h => by
    have k := fpe_out e i o h
    show (o'.fp ++ fpe e).Perm (o.fp ++ (o'.fp ++ fpe (e.set i none)))
    refine (List.Perm.append_left o'.fp k).trans ?_
    rw [← List.append_assoc, ← List.append_assoc]
    exact List.Perm.append_right _ List.perm_append_comm
theorem fpe_in : ∀ (e : Env) (i : Nat) (o : O), e[i]? = some none → (fpe (e.set i (some o))).Perm (o.fp ++ fpe e)
  | none :: e, 0, o, h => List.Perm.refl _
  | some o' :: e, 0, o, h => by cases h
  | none :: e, i + 1, o, h => fpe_in e i o h
  | some o' :: e, i + 1, o, h => by
    have k := fpe_in e i o h
    show (o'.fp ++ fpe (e.set i (some o))).Perm (o.fp ++ (o'.fp ++ fpe e))
    refine (List.Perm.append_left o'.fp k).trans ?_
    rw [← List.append_assoc, ← List.append_assoc]
    exact List.Perm.append_right _ List.perm_append_comm
theorem set_none_get {e : Env} {i : Nat} (h : i < e.length) : (e.set i none)[i]? = some none := by
  rw [List.getElem?_set_self h]
/-- a slot forgotten -/
theorem Rel.drop (R : Rel K φ e σ G H) (i : Nat) : Rel K φ (e.set i none) σ G H :=
  ⟨R.frm, Slots.drop e σ i R.slots, R.nd.sublist (fpe_drop e i), fun p hp => R.own p ((fpe_drop e i).subset hp)⟩
/-- a slot's content taken out -/
theorem Rel.mvout (R : Rel K φ e σ G H) {i : Nat} {o : O} {v : V} (h : e[i]? = some (some o)) (hv : σ[i]? = some (some v)) : Rel K φ (some o :: e.set i none) (some v :: σ) G H := by
  have k := fpe_out e i o h
  obtain ⟨v', h1, h2⟩ := R.get h
  rw [hv] at h1
  cases h1
  exact ⟨R.frm, ⟨v, σ, rfl, h2, Slots.drop e σ i R.slots⟩, k.nodup R.nd, fun p hp => R.own p (k.mem_iff.mpr hp)⟩
/-- .. and put into a slot, v its new value -/
theorem Rel.putin {o : O} {v : V} (R : Rel K φ (some o :: e) (some v :: σ) G H) (i : Nat) : Rel K φ (e.set i (some o)) (σ.set i (some v)) G H := by
  by_cases hi : i < e.length
  · have R1 := R.tail.drop i
    have hs := set_none_get (e := e) hi
    have k := fpe_in (e.set i none) i o hs
    rw [List.set_set] at k
    have q : (fpe (some o :: e.set i none)).Nodup := R.nd.sublist (List.Sublist.append (List.Sublist.refl _) (fpe_drop e i))
    have s := Slots.put (e.set i none) σ i o v R1.slots R.headOAt
    rw [List.set_set] at s
    refine ⟨R.frm, s, k.symm.nodup q, fun p hp => ?_⟩
    have hp' := k.mem_iff.mp hp
    rcases List.mem_append.mp hp' with z | z
    · exact R.own p (List.mem_append_left _ z)
    · exact R1.own p z
  · have e1 : e.set i (some o) = e := List.set_eq_of_length_le (by omega)
    have e2 : σ.set i (some v) = σ := List.set_eq_of_length_le (by rw [R.tail.len]; omega)
    rw [e1, e2]
    exact R.tail
/-- .. put back: the slot still has this value -/
theorem Rel.putback {o : O} {v : V} (R : Rel K φ (some o :: e) (some v :: σ) G H) {i : Nat} (h : σ[i]? = some (some v)) : Rel K φ (e.set i (some o)) σ G H := by
  have k := R.putin i
  have e1 : σ.set i (some v) = σ := by
    apply List.ext_getElem?
    intro j
    by_cases hj : i = j
    · subst hj
      by_cases hl : i < σ.length
      · rw [List.getElem?_set_self hl, h]
      · rw [List.getElem?_eq_none (by omega)] at h
        cases h
    · rw [List.getElem?_set_ne hj]
  rw [e1] at k
  exact k

/-! ### heaps that grow, cells that change -/
theorem sub_upd {u : HO} {p : Addr} (s : Sub G H) (h : G p = none) : Sub G (upd H p u) := fun a w q => by
  have ha : a ≠ p := fun z => by
    subst z
    rcases q with q | ⟨o, q⟩ <;> (rw [h] at q; cases q)
  have k := s a w q
  unfold Rd at k ⊢
  rw [upd_ne ha]
  exact k
theorem sub_upd2 {u : HO} {p : Addr} (s : Sub G H) : Sub (upd G p u) (upd H p u) := fun a w q => by
  by_cases ha : a = p
  · subst ha
    unfold Rd at q ⊢
    rw [upd_same] at q ⊢
    exact q
  · unfold Rd at q
    rw [upd_ne ha] at q
    have k := s a w q
    unfold Rd at k ⊢
    rw [upd_ne ha]
    exact k
theorem sub_updG {u : HO} {p : Addr} (h : G p = none) : Sub G (upd G p u) := sub_upd (Sub.refl G) h
/-- a new cell -/
theorem Rel.new (R : Rel K φ e σ G H) {p : Addr} {u : HO} {o : O} (hp : H p = none) (hf : o.fp = [p]) (ho : OAt K G (upd H p u) o (.ref p)) : Rel K φ (some o :: e) (some (.ref p) :: σ) G (upd H p u) := by
  have gp : G p = none := R.frm.sub.none hp
  have c := Slots.cell e σ R.slots
  have ne : ∀ q ∈ fpe e, q ≠ p := fun q hq z => by
    subst z
    obtain ⟨_, u, hu, _⟩ := c q hq
    rw [hp] at hu; cases hu
  refine ⟨⟨R.frm.up, sub_upd R.frm.sub gp, fun b o h n => ?_, R.frm.gk, fun b o h => ?_⟩, ⟨_, _, rfl, ho, Slots.mono (Sub.refl G) e σ (fun q hq => ⟨upd_ne (ne q hq), rfl⟩) R.slots⟩, ?_, fun q hq => ?_⟩
  · have k := R.frm.keep b o h n
    rw [upd_ne (ne_of_none k hp)]
    exact k
  · obtain ⟨o', k⟩ := R.frm.live b o h
    exact ⟨o', by rw [upd_ne (ne_of_none k hp)]; exact k⟩
  · show (o.fp ++ fpe e).Nodup
    rw [hf]
    exact List.nodup_cons.mpr ⟨fun z => ne p z rfl, R.nd⟩
  · have hq' : q ∈ o.fp ++ fpe e := hq
    rw [hf] at hq'
    rcases List.mem_cons.mp hq' with z | z
    · rw [z]; exact .inr (R.none_of hp)
    · exact R.own q z
/-- a new thing that may be read from now on -/
theorem Rel.newG (R : Rel K φ e σ G H) {p : Addr} {u : HO} (hp : H p = none) : Rel K φ e σ (upd G p u) (upd H p u) ∧ Sub G (upd G p u) := by
  have gp : G p = none := R.frm.sub.none hp
  have c := Slots.cell e σ R.slots
  have ne : ∀ q ∈ fpe e, q ≠ p := fun q hq z => by
    subst z
    obtain ⟨_, u, hu, _⟩ := c q hq
    rw [hp] at hu; cases hu
  have up : Sub G (upd G p u) := sub_updG gp
  refine ⟨⟨⟨R.frm.up.trans up, sub_upd2 R.frm.sub, fun b o h n => ?_, fun b o h n => ?_, fun b o h => ?_⟩, Slots.mono up e σ (fun q hq => ⟨upd_ne (ne q hq), upd_ne (ne q hq)⟩) R.slots, R.nd, R.own⟩, up⟩
  · have k := R.frm.keep b o h n
    rw [upd_ne (ne_of_none k hp)]
    exact k
  · have k := R.frm.keep b o h n
    rw [upd_ne (ne_of_none k hp)]
    exact R.frm.gk b o h n
  · obtain ⟨o', k⟩ := R.frm.live b o h
    exact ⟨o', by rw [upd_ne (ne_of_none k hp)]; exact k⟩
/-- a cell changed -/
theorem Rel.mut {o o' : O} {p : Addr} {u : HO} {v : V} (R : Rel K φ (some o :: e) (some v :: σ) G H) (hp : p ∈ o.fp) (hs : o'.fp.Sublist o.fp) (ho : OAt K G (upd H p u) o' v) : Rel K φ (some o' :: e) (some v :: σ) G (upd H p u) := by
  obtain ⟨n1, n2, n3⟩ := nodup_app (show (o.fp ++ fpe e).Nodup from R.nd)
  have gp : G p = none := (OAt.cell o v R.headOAt p hp).1
  have own : p ∈ φ.B ∨ φ.H p = none := R.own p (List.mem_append_left _ hp)
  have nb : ∀ b w, φ.H b = some w → b ∉ φ.B → b ≠ p := fun b w h n z => by
    subst z
    rcases own with q | q
    · exact n q
    · rw [q] at h; cases h
  have ne : ∀ q ∈ fpe e, q ≠ p := fun q hq z => by subst z; exact n3 q hp hq
  refine ⟨⟨R.frm.up, sub_upd R.frm.sub gp, fun b o h n => ?_, R.frm.gk, fun b o h => ?_⟩, ⟨_, _, rfl, ho, Slots.mono (Sub.refl G) e σ (fun q hq => ⟨upd_ne (ne q hq), rfl⟩) R.tail.slots⟩, ?_, fun q hq => ?_⟩
  · rw [upd_ne (nb b o h n)]
    exact R.frm.keep b o h n
  · by_cases hb : b = p
    · subst hb; exact ⟨u, upd_same⟩
    · obtain ⟨o', k⟩ := R.frm.live b o h
      exact ⟨o', by rw [upd_ne hb]; exact k⟩
  · exact R.nd.sublist (List.Sublist.append hs (List.Sublist.refl _))
  · exact R.own q ((List.Sublist.append hs (List.Sublist.refl _)).subset hq)
/-- what is owned is frozen -/
theorem Rel.freeze {o : O} {v : V} (R : Rel K φ (some o :: e) (some v :: σ) G H) : ∃ G', Rel K φ (some (.pu o.toD) :: e) (some v :: σ) G' H ∧ Sub G G' := by
  obtain ⟨n1, n2, n3⟩ := nodup_app (show (o.fp ++ fpe e).Nodup from R.nd)
  have c := OAt.cell o v R.headOAt
  have up : Sub G (frze G H o.fp) := frze_up fun b hb => (c b hb).1
  have R1 := R.tail
  have nb : ∀ b w, φ.H b = some w → b ∉ φ.B → b ∉ o.fp := fun b w h n z => by
    rcases R.own b (List.mem_append_left _ z) with q | q
    · exact n q
    · rw [q] at h; cases h
  have R2 : Rel K φ e σ (frze G H o.fp) H := by
    refine ⟨⟨R.frm.up.trans up, frze_sub R.frm.sub, R.frm.keep, fun b w h n => ?_, R.frm.live⟩, Slots.mono up e σ (fun q hq => ⟨rfl, ?_⟩) R1.slots, R1.nd, R1.own⟩
    · rw [frze_out (nb b w h n)]
      exact R.frm.gk b w h n
    · exact frze_out fun z => n3 q z hq
  exact ⟨_, R2.consPu (OAt.freeze up o v (fun p hp => hp) R.headOAt), up⟩
theorem toD_pu (d : D) : O.toD (.pu d) = d := by unfold O.toD; rfl
end
end Vl

namespace Vl
open PySem PySem.Spec PyProof.Rows L2

/-! ### what an expression comes to -/
inductive Opnd where | val (o : O) | pl (i : Nat)
def Opnd.slot : Opnd → Option O
  | .val o => some o
  | .pl _ => none
def Opnd.ok (σ : L2.St) (v : V) : Opnd → Prop
  | .val _ => True
  | .pl i => σ[i]? = some (some v)
def eget (e : Env) (i : Nat) : Option O := match e[i]? with
  | some (some o) => some o
  | _ => none
def Opnd.get (e : Env) : Opnd → Option O
  | .val o => some o
  | .pl i => eget e i
def onO (q : Opnd) (e : Env) (k : O → Prop) : Prop := match q.get e with
  | some o => k o
  | none => False
theorem onO_iff {q : Opnd} {e : Env} {k : O → Prop} : onO q e k ↔ ∃ o, q.get e = some o ∧ k o := by
  unfold onO
  cases q.get e with
  | none => exact ⟨fun h => h.elim, fun ⟨o, z, _⟩ => nomatch z⟩
  | some o => exact ⟨fun h => ⟨o, rfl, h⟩, fun ⟨o', z, h⟩ => by cases z; exact h⟩
theorem eget_some {e : Env} {i : Nat} {o : O} : eget e i = some o ↔ e[i]? = some (some o) := by
  unfold eget
  cases h : e[i]? with
  | none => exact ⟨fun z => (nomatch z), fun z => (nomatch z)⟩
  | some a =>
    cases a with
    | none => exact ⟨fun z => (nomatch z), fun z => (nomatch z)⟩
    | some o' => exact ⟨fun z => by cases z; rfl, fun z => by cases z; rfl⟩
abbrev WE := XP → Env → (O → Env → Prop) → Prop
abbrev WQ := XP → Env → (Opnd → Env → Prop) → Prop
abbrev WT := XP → Env → (Bool → Env → Prop) → Prop
abbrev WA := XP → Env → (List Opnd → Env → Prop) → Prop
section
variable (K : PySem.W.Frag)
def SndE (te : TE) (t : WE) : Prop := ∀ φ e σ G H x (post : O → Env → Prop) (Q : VK), Rel K φ e σ G H → ExOk K φ x → t x e post →
  (∀ o e' v G' H', post o e' → Rel K φ (some o :: e') (some v :: σ) G' H' → Q v H') → te σ H Q
def SndQ (te : TE) (t : WQ) : Prop := ∀ φ e σ G H x (post : Opnd → Env → Prop) (Q : VK), Rel K φ e σ G H → ExOk K φ x → t x e post →
  (∀ q e' v G' H', post q e' → Rel K φ (q.slot :: e') (some v :: σ) G' H' → q.ok σ v → Q v H') → te σ H Q
def SndT (tt : TT) (t : WT) : Prop := ∀ φ e σ G H x (post : Bool → Env → Prop) (Q : Bool → Hp → Prop), Rel K φ e σ G H → ExOk K φ x → t x e post →
  (∀ b e' G' H', post b e' → Rel K φ e' σ G' H' → Q b H') → tt σ H Q
def SndA (ta : TA) (t : WA) : Prop := ∀ φ e σ G H x (post : List Opnd → Env → Prop) (Q : List V → Hp → Prop), Rel K φ e σ G H → ExOk K φ x → t x e post →
  (∀ qs e' vs G' H', post qs e' → Rel K φ (qs.map Opnd.slot ++ e') (vs.map some ++ σ) G' H' → Paired (fun q v => Opnd.ok σ v q) qs vs → Q vs H') → ta σ H Q
end
structure VE (X : Cx) (e : Expr) (te : TE) (t : WE) : Prop where
  pe : PE X e te
  snd : SndE X.K te t
structure VQ (X : Cx) (e : Expr) (te : TE) (t : WQ) : Prop where
  pe : PE X e te
  snd : SndQ X.K te t
structure VT (X : Cx) (e : Expr) (tt : TT) (t : WT) : Prop where
  pt : PT X e tt
  snd : SndT X.K tt t
structure VA (X : Cx) (es : List Expr) (ta : TA) (t : WA) : Prop where
  pa : PA X es ta
  snd : SndA X.K ta t

section
variable {K : PySem.W.Frag} {φ : Fx} {e : Env} {σ : L2.St} {G H G' H' : Hp} {q q1 q2 q3 : Opnd} {o : O} {v v1 v2 v3 : V}
theorem Rel.opnd (R : Rel K φ (q.slot :: e) (some v :: σ) G H) (h : q.ok σ v) (g : q.get e = some o) : OAt K G H o v := by
  cases q with
  | val o' => cases g; exact R.headOAt
  | pl i =>
    obtain ⟨w, h1, h2⟩ := R.tail.get (eget_some.mp g)
    have h' : σ[i]? = some (some v) := h
    rw [h'] at h1
    cases h1
    exact h2
/-- an operand as a pure thing, from now on -/
theorem Rel.swap {a b : Option O} {x y : Option V} (R : Rel K φ (a :: b :: e) (x :: y :: σ) G H) : Rel K φ (b :: a :: e) (y :: x :: σ) G H := by
  have f1 : ∀ (a b : Option O), fpe (a :: b :: e) = fpe [a] ++ (fpe [b] ++ fpe e) := fun a b => by
    rw [show a :: b :: e = [a] ++ ([b] ++ e) from rfl, fpe_app, fpe_app]
  have p : (fpe (b :: a :: e)).Perm (fpe (a :: b :: e)) := by
    rw [f1, f1, ← List.append_assoc, ← List.append_assoc]
    exact List.Perm.append_right _ List.perm_append_comm
  obtain ⟨s1, s2, z1, z2, k1, k2⟩ := Slots.app [a] (b :: e) _ R.slots
  obtain ⟨s3, s4, z3, z4, k3, k4⟩ := Slots.app [b] e _ k2
  match s1, z2 with
  | [w1], _ =>
    match s3, z4 with
    | [w2], _ =>
      subst z3
      have z1' : x :: y :: σ = w1 :: w2 :: s4 := z1
      cases z1'
      exact ⟨R.frm, Slots.join [b] (a :: e) [y] (x :: σ) k3 (Slots.join [a] e [x] σ k1 k4), p.symm.nodup R.nd, fun p' hp => R.own p' (p.mem_iff.mp hp)⟩
end

section
variable {K : PySem.W.Frag} {ta tb te : TE} {qa qb : WQ} {a b : WE}
theorem SndE.q (h : SndE K te a) : SndQ K te (fun x e post => a x e fun o e' => post (.val o) e') := fun φ e σ G H x post Q R X t q =>
  h φ e σ G H x _ Q R X t fun o e' v G' H' p R' => q (.val o) e' v G' H' p R' trivial
/-- a result as a pure thing -/
def vPu (a : WE) : WE := fun x e post => a x e fun o e' => post (.pu o.toD) e'
theorem SndE.pu (h : SndE K te a) : SndE K te (vPu a) := fun φ e σ G H x post Q R X t q =>
  h φ e σ G H x _ Q R X t fun o e' v G' H' p R' => by
    obtain ⟨G2, R2, _⟩ := R'.freeze
    exact q _ e' v G2 H' p R2
theorem snd2 (ha : SndQ K ta qa) (hb : SndQ K tb qb) {φ : Fx} {e : Env} {σ : L2.St} {G H : Hp} {x : XP} {post : Opnd → Opnd → Env → Prop} {Q : V → V → Hp → Prop} (R : Rel K φ e σ G H) (X : ExOk K φ x)
    (t : qa x e fun q1 e1 => qb x e1 fun q2 e2 => post q1 q2 e2)
    (k : ∀ q1 q2 e' v1 v2 G' H', post q1 q2 e' → Rel K φ (q1.slot :: q2.slot :: e') (some v1 :: some v2 :: σ) G' H' → q1.ok σ v1 → q2.ok σ v2 → Q v1 v2 H') :
    ta σ H fun v1 H1 => tb σ H1 fun v2 H2 => Q v1 v2 H2 := by
  refine ha φ e σ G H x _ _ R X t fun q1 e1 v1 G1 H1 p1 R1 k1 => ?_
  have F := Rel.frame (ts := [q1.slot]) (vs := [some v1]) R1 rfl
  refine hb _ e1 σ G1 H1 x _ _ F.1 (ExOk.frame (ts := [q1.slot]) (vs := [some v1]) X R1 rfl) p1 fun q2 e2 v2 G2 H2 p2 R2 k2 => ?_
  exact k q1 q2 e2 v1 v2 G2 H2 p2 (F.2 _ _ _ _ R2) k1 k2
end

/-! ### names, constants -/
def vVar (i : Nat) : WE := fun _ e post => match eget e i with
  | some (.pu d) => post (.pu d) e
  | some o => post (.pu o.toD) (e.set i (some (.pu o.toD)))
  | none => False
def vMv (i : Nat) : WE := fun _ e post => match eget e i with
  | some o => post o (e.set i none)
  | none => False
def vPl (i : Nat) : WQ := fun _ e post => post (.pl i) e
def vC (d : D) : WE := fun _ e post => post (.pu d) e
theorem snd_mv {K : PySem.W.Frag} {i : Nat} : SndE K (tVar i) (vMv i) := fun φ e σ G H x post Q R X t q => by
  unfold vMv at t
  split at t
  · rename_i o h
    obtain ⟨v, h1, h2⟩ := R.get (eget_some.mp h)
    exact ⟨v, h1, q _ _ v G H t (R.mvout (eget_some.mp h) h1)⟩
  · exact t.elim
theorem snd_var {K : PySem.W.Frag} {i : Nat} : SndE K (tVar i) (vVar i) := fun φ e σ G H x post Q R X t q => by
  unfold vVar at t
  split at t
  · rename_i d h
    obtain ⟨v, h1, h2⟩ := R.get (eget_some.mp h)
    refine ⟨v, h1, q _ _ v G H t (R.consPu ?_)⟩
    unfold OAt at h2
    exact h2
  · rename_i o h hn
    obtain ⟨v, h1, h2⟩ := R.get (eget_some.mp hn)
    obtain ⟨G', R2, _⟩ := (R.mvout (eget_some.mp hn) h1).freeze
    have R3 := R2.putback h1
    rw [List.set_set] at R3
    exact ⟨v, h1, q _ _ v G' H t (R3.consPu R2.headRp)⟩
  · exact t.elim
section
variable {X : Cx}
theorem ve_var (i : Nat) {x : Str} {pos : Pos} (hN : X.N[i]? = some x := by rfl) (hv : Vis X.env.scope x := by first | exact Or.inl rfl | exact Or.inr (Or.inl rfl) | exact Or.inr (Or.inr rfl)) (hd : (x == ("__debug__" : Str)) = false := by decide)
    (hcd : (x == ("__classdict__" : Str)) = false := by decide) : VE X (.Name x pos) (tVar i) (vVar i) := ⟨pe_var hN hv hd hcd, snd_var⟩
theorem ve_mv (i : Nat) {x : Str} {pos : Pos} (hN : X.N[i]? = some x := by rfl) (hv : Vis X.env.scope x := by first | exact Or.inl rfl | exact Or.inr (Or.inl rfl) | exact Or.inr (Or.inr rfl)) (hd : (x == ("__debug__" : Str)) = false := by decide)
    (hcd : (x == ("__classdict__" : Str)) = false := by decide) : VE X (.Name x pos) (tVar i) (vMv i) := ⟨pe_var hN hv hd hcd, snd_mv⟩
theorem vq_pl (i : Nat) {x : Str} {pos : Pos} (hN : X.N[i]? = some x := by rfl) (hv : Vis X.env.scope x := by first | exact Or.inl rfl | exact Or.inr (Or.inl rfl) | exact Or.inr (Or.inr rfl)) (hd : (x == ("__debug__" : Str)) = false := by decide)
    (hcd : (x == ("__classdict__" : Str)) = false := by decide) (hi : True := trivial) : VQ X (.Name x pos) (tVar i) (fun x e post => ∃ o, eget e i = some o ∧ vPl i x e post) := ⟨pe_var hN hv hd hcd, fun φ e σ G H x post Q R X t q => by
  obtain ⟨o, h, t⟩ := t
  obtain ⟨v, h1, h2⟩ := R.get (eget_some.mp h)
  exact ⟨v, h1, q _ _ v G H t R.consNone h1⟩⟩
theorem VE.q {e : Expr} {te : TE} {t : WE} (h : VE X e te t) : VQ X e te (fun x e post => t x e fun o e' => post (.val o) e') := ⟨h.pe, h.snd.q⟩
theorem VE.pu {e : Expr} {te : TE} {t : WE} (h : VE X e te t) : VE X e te (vPu t) := ⟨h.pe, h.snd.pu⟩
theorem snd_c {K : PySem.W.Frag} {v : V} {d : D} (h : ∀ G, Rp K G d v) : SndE K (tC v) (vC d) := fun φ e σ G H x post Q R X t q => q _ _ v G H t (R.consPu (h G))
theorem ve_int {i j pos} : VE X (.Constant (.int i) j pos) (tC (.int i)) (vC (.int i)) := ⟨pe_int, snd_c fun _ => by unfold Rp; rfl⟩
theorem ve_bl {b j pos} : VE X (.Constant (.bool b) j pos) (tC (.bl b)) (vC (.bl b)) := ⟨pe_bl, snd_c fun _ => by unfold Rp; rfl⟩
theorem ve_non {j pos} : VE X (.Constant .none j pos) (tC .non) (vC .non) := ⟨pe_non, snd_c fun _ => by unfold Rp; rfl⟩
theorem ve_str {x j pos} : VE X (.Constant (.str x) j pos) (tC (.str x)) (vC (.str x)) := ⟨pe_str, snd_c fun _ => by unfold Rp; rfl⟩
/-- a global that is a written constant -/
theorem ve_glob {x : Str} {v : V} {u : Value} {pos : Pos} {d : D} (hg : Gl X x) (hm : X.mg x = some u) (r : RelV v u) (h : ∀ G, Rp X.K G d v) (hd : (x == ("__debug__" : Str)) = false := by decide) : VE X (.Name x pos) (tC v) (vC d) := ⟨pe_glob hg hm r hd, snd_c h⟩
end

/-! ### matchers -/
def onI (o : O) (k : Int → Prop) : Prop := match o with
  | .pu (.int i) => k i
  | _ => False
theorem onI_iff {o : O} {k : Int → Prop} : onI o k ↔ ∃ i, o = .pu (.int i) ∧ k i := by
  unfold onI
  split
  · exact ⟨fun h => ⟨_, rfl, h⟩, fun ⟨i, z, h⟩ => by cases z; exact h⟩
  · rename_i h
    exact ⟨fun z => z.elim, fun ⟨i, z, _⟩ => absurd z (h i)⟩
def onB (o : O) (k : Bool → Prop) : Prop := match o with
  | .pu (.bl i) => k i
  | _ => False
theorem onB_iff {o : O} {k : Bool → Prop} : onB o k ↔ ∃ i, o = .pu (.bl i) ∧ k i := by
  unfold onB
  split
  · exact ⟨fun h => ⟨_, rfl, h⟩, fun ⟨i, z, h⟩ => by cases z; exact h⟩
  · rename_i h
    exact ⟨fun z => z.elim, fun ⟨i, z, _⟩ => absurd z (h i)⟩
def onS (o : O) (k : Str → Prop) : Prop := match o with
  | .pu (.str i) => k i
  | _ => False
theorem onS_iff {o : O} {k : Str → Prop} : onS o k ↔ ∃ i, o = .pu (.str i) ∧ k i := by
  unfold onS
  split
  · exact ⟨fun h => ⟨_, rfl, h⟩, fun ⟨i, z, h⟩ => by cases z; exact h⟩
  · rename_i h
    exact ⟨fun z => z.elim, fun ⟨i, z, _⟩ => absurd z (h i)⟩
/-- a tuple -/
def onTup (o : O) (k : List D → Prop) : Prop := match o with
  | .pu (.tup ds) => k ds
  | _ => False
theorem onTup_iff {o : O} {k : List D → Prop} : onTup o k ↔ ∃ ds, o = .pu (.tup ds) ∧ k ds := by
  unfold onTup
  split
  · exact ⟨fun h => ⟨_, rfl, h⟩, fun ⟨i, z, h⟩ => by cases z; exact h⟩
  · rename_i h
    exact ⟨fun z => z.elim, fun ⟨i, z, _⟩ => absurd z (h i)⟩
/-- a list of pure things, read -/
def onLst (o : O) (k : List D → Prop) : Prop := match o with
  | .pu (.lst ds) => k ds
  | .ls _ ds => k ds
  | _ => False
theorem onLst_iff {o : O} {k : List D → Prop} : onLst o k ↔ ∃ ds, (o = .pu (.lst ds) ∨ ∃ p, o = .ls p ds) ∧ k ds := by
  unfold onLst
  split
  · exact ⟨fun h => ⟨_, .inl rfl, h⟩, fun ⟨i, z, h⟩ => by rcases z with z | ⟨p, z⟩ <;> cases z; exact h⟩
  · exact ⟨fun h => ⟨_, .inr ⟨_, rfl⟩, h⟩, fun ⟨i, z, h⟩ => by rcases z with z | ⟨p, z⟩ <;> cases z; exact h⟩
  · rename_i h1 h2
    exact ⟨fun z => z.elim, fun ⟨i, z, _⟩ => by rcases z with z | ⟨p, z⟩; exact (h1 i z).elim; exact (h2 p i z).elim⟩
/-- a list or a tuple -/
def onSeq (o : O) (k : List D → Prop) : Prop := match o with
  | .pu (.lst ds) => k ds
  | .ls _ ds => k ds
  | .pu (.tup ds) => k ds
  | _ => False
def onDct (o : O) (k : List (Key × D) → Prop) : Prop := match o with
  | .pu (.dct ds) => k ds
  | .dc _ ds => k ds
  | _ => False
theorem onDct_iff {o : O} {k : List (Key × D) → Prop} : onDct o k ↔ ∃ ds, (o = .pu (.dct ds) ∨ ∃ p, o = .dc p ds) ∧ k ds := by
  unfold onDct
  split
  · exact ⟨fun h => ⟨_, .inl rfl, h⟩, fun ⟨i, z, h⟩ => by rcases z with z | ⟨p, z⟩ <;> cases z; exact h⟩
  · exact ⟨fun h => ⟨_, .inr ⟨_, rfl⟩, h⟩, fun ⟨i, z, h⟩ => by rcases z with z | ⟨p, z⟩ <;> cases z; exact h⟩
  · rename_i h1 h2
    exact ⟨fun z => z.elim, fun ⟨i, z, _⟩ => by rcases z with z | ⟨p, z⟩; exact (h1 i z).elim; exact (h2 p i z).elim⟩
/-- a thing's own list, to be changed -/
def onLs (o : O) (k : Addr → List D → Prop) : Prop := match o with
  | .ls p ds => k p ds
  | _ => False
theorem onLs_iff {o : O} {k : Addr → List D → Prop} : onLs o k ↔ ∃ p ds, o = .ls p ds ∧ k p ds := by
  unfold onLs
  split
  · exact ⟨fun h => ⟨_, _, rfl, h⟩, fun ⟨p, i, z, h⟩ => by cases z; exact h⟩
  · rename_i h
    exact ⟨fun z => z.elim, fun ⟨p, i, z, _⟩ => absurd z (h p i)⟩
def onDc (o : O) (k : Addr → List (Key × D) → Prop) : Prop := match o with
  | .dc p ds => k p ds
  | _ => False
theorem onDc_iff {o : O} {k : Addr → List (Key × D) → Prop} : onDc o k ↔ ∃ p ds, o = .dc p ds ∧ k p ds := by
  unfold onDc
  split
  · exact ⟨fun h => ⟨_, _, rfl, h⟩, fun ⟨p, i, z, h⟩ => by cases z; exact h⟩
  · rename_i h
    exact ⟨fun z => z.elim, fun ⟨p, i, z, _⟩ => absurd z (h p i)⟩
section
variable {K : PySem.W.Frag} {G H : Hp} {o : O} {v : V} {ds : List D}
theorem OAt.int {i : Int} (h : OAt K G H (.pu (.int i)) v) : v = .int i := by unfold OAt Rp at h; exact h
theorem OAt.bl {i : Bool} (h : OAt K G H (.pu (.bl i)) v) : v = .bl i := by unfold OAt Rp at h; exact h
theorem OAt.str {i : Str} (h : OAt K G H (.pu (.str i)) v) : v = .str i := by unfold OAt Rp at h; exact h
theorem OAt.lst (s : Sub G H) (h : OAt K G H o v) (ho : o = .pu (.lst ds) ∨ ∃ p, o = .ls p ds) : ∃ a vs, v = .ref a ∧ SqL K H a vs ∧ Rps K G ds vs := by
  rcases ho with rfl | ⟨p, rfl⟩
  · unfold OAt Rp at h
    obtain ⟨a, vs, e, q, r⟩ := h
    exact ⟨a, vs, e, s.sqL q, r⟩
  · unfold OAt at h
    obtain ⟨e, _, vs, q, r⟩ := h
    exact ⟨p, vs, e, SqL.of q, r⟩
theorem OAt.tup (s : Sub G H) (h : OAt K G H (.pu (.tup ds)) v) : ∃ a vs, v = .ref a ∧ SqT K H a vs ∧ Rps K G ds vs := by
  unfold OAt Rp at h
  obtain ⟨a, vs, e, q, r⟩ := h
  exact ⟨a, vs, e, s.sqT q, r⟩
theorem OAt.dct {ks : List (Key × D)} (s : Sub G H) (h : OAt K G H o v) (ho : o = .pu (.dct ks) ∨ ∃ p, o = .dc p ks) : ∃ a vs, v = .ref a ∧ Rd H a (.dK vs) ∧ Rpk K G ks vs := by
  rcases ho with rfl | ⟨p, rfl⟩
  · unfold OAt Rp at h
    obtain ⟨a, vs, e, q, r⟩ := h
    exact ⟨a, vs, e, s a _ q, r⟩
  · unfold OAt at h
    obtain ⟨e, _, vs, q, r⟩ := h
    exact ⟨p, vs, e, .inl q, r⟩
theorem Rps.len : ∀ (ds : List D) (vs : List V), Rps K G ds vs → vs.length = ds.length
  | [], _, h => by unfold Rps at h; subst h; rfl
  | d :: ds, _, h => by
    unfold Rps at h
    obtain ⟨v, r, e, a, b⟩ := h
    subst e
    simp [Rps.len ds r b]
theorem Rps.get : ∀ (ds : List D) (vs : List V) (i : Nat) (d : D), Rps K G ds vs → ds[i]? = some d → ∃ v, vs[i]? = some v ∧ Rp K G d v
  | [], _, i, d, _, z => by simp at z
  | d' :: ds, _, i, d, h, z => by
    unfold Rps at h
    obtain ⟨v, r, e, a, b⟩ := h
    subst e
    cases i with
    | zero => cases z; exact ⟨v, rfl, a⟩
    | succ i => exact Rps.get ds r i d b z
theorem Rps.get2 : ∀ (ds : List D) (vs : List V) (i : Nat) (v : V), Rps K G ds vs → vs[i]? = some v → ∃ d, ds[i]? = some d ∧ Rp K G d v
  | [], _, i, v, h, z => by unfold Rps at h; subst h; simp at z
  | d' :: ds, _, i, w, h, z => by
    unfold Rps at h
    obtain ⟨v, r, e, a, b⟩ := h
    subst e
    cases i with
    | zero => cases z; exact ⟨d', rfl, a⟩
    | succ i => exact Rps.get2 ds r i w b z
theorem Rps.app : ∀ (ds es : List D) (vs ws : List V), Rps K G ds vs → Rps K G es ws → Rps K G (ds ++ es) (vs ++ ws)
  | [], es, _, ws, h, k => by unfold Rps at h; subst h; exact k
  | d :: ds, es, _, ws, h, k => by
    unfold Rps at h
    obtain ⟨v, r, e, a, b⟩ := h
    subst e
    rw [List.cons_append, List.cons_append]
    unfold Rps
    exact ⟨v, r ++ ws, rfl, a, Rps.app ds es r ws b k⟩
theorem Rps.one {d : D} {v : V} (h : Rp K G d v) : Rps K G [d] [v] := by
  unfold Rps
  exact ⟨v, [], rfl, h, by unfold Rps; rfl⟩
theorem Rps.nil : Rps K G [] [] := by unfold Rps; rfl
theorem Rps.cons {d : D} {v : V} {ds : List D} {vs : List V} (h : Rp K G d v) (k : Rps K G ds vs) : Rps K G (d :: ds) (v :: vs) := by
  unfold Rps
  exact ⟨v, vs, rfl, h, k⟩
theorem Rps.drop : ∀ (n : Nat) (ds : List D) (vs : List V), Rps K G ds vs → Rps K G (ds.drop n) (vs.drop n)
  | 0, _, _, h => h
  | n + 1, [], _, h => by unfold Rps at h; subst h; exact Rps.nil
  | n + 1, d :: ds, _, h => by
    unfold Rps at h
    obtain ⟨v, r, e, a, b⟩ := h
    subst e
    exact Rps.drop n ds r b
theorem Rps.take : ∀ (n : Nat) (ds : List D) (vs : List V), Rps K G ds vs → Rps K G (ds.take n) (vs.take n)
  | 0, _, _, h => Rps.nil
  | n + 1, [], _, h => by unfold Rps at h; subst h; exact Rps.nil
  | n + 1, d :: ds, _, h => by
    unfold Rps at h
    obtain ⟨v, r, e, a, b⟩ := h
    subst e
    exact Rps.cons a (Rps.take n ds r b)
theorem Rps.set : ∀ (ds : List D) (vs : List V) (i : Nat) (d : D) (v : V), Rps K G ds vs → Rp K G d v → Rps K G (ds.set i d) (vs.set i v)
  | [], _, i, d, v, h, k => by unfold Rps at h; subst h; exact Rps.nil
  | d' :: ds, _, i, d, w, h, k => by
    unfold Rps at h
    obtain ⟨v, r, e, a, b⟩ := h
    subst e
    cases i with
    | zero => exact Rps.cons k b
    | succ i => exact Rps.cons a (Rps.set ds r i d w b k)
theorem Rps.eraseIdx : ∀ (ds : List D) (vs : List V) (i : Nat), Rps K G ds vs → Rps K G (ds.eraseIdx i) (vs.eraseIdx i)
  | [], _, i, h => by unfold Rps at h; subst h; exact Rps.nil
  | d' :: ds, _, i, h => by
    unfold Rps at h
    obtain ⟨v, r, e, a, b⟩ := h
    subst e
    cases i with
    | zero => exact b
    | succ i => exact Rps.cons a (Rps.eraseIdx ds r i b)
theorem Rps.reverse : ∀ (ds : List D) (vs : List V), Rps K G ds vs → Rps K G ds.reverse vs.reverse
  | [], _, h => by unfold Rps at h; subst h; exact Rps.nil
  | d' :: ds, _, h => by
    unfold Rps at h
    obtain ⟨v, r, e, a, b⟩ := h
    subst e
    rw [List.reverse_cons, List.reverse_cons]
    exact Rps.app _ _ _ _ (Rps.reverse ds r b) (Rps.one a)
theorem Rps.strs : ∀ (ss : List Str) (vs : List V), Rps K G (ss.map D.str) vs → vs = ss.map V.str
  | [], _, h => by rw [List.map_nil] at h; unfold Rps at h; exact h
  | s :: ss, _, h => by
    rw [List.map_cons] at h
    unfold Rps at h
    obtain ⟨v, r, e, a, b⟩ := h
    unfold Rp at a
    rw [e, a, Rps.strs ss r b]
    rfl
theorem Rps.ints : ∀ (ss : List Int) (vs : List V), Rps K G (ss.map D.int) vs → vs = ss.map V.int
  | [], _, h => by rw [List.map_nil] at h; unfold Rps at h; exact h
  | s :: ss, _, h => by
    rw [List.map_cons] at h
    unfold Rps at h
    obtain ⟨v, r, e, a, b⟩ := h
    unfold Rp at a
    rw [e, a, Rps.ints ss r b]
    rfl
theorem Rps.bls : ∀ (ss : List Bool) (vs : List V), Rps K G (ss.map D.bl) vs → vs = ss.map V.bl
  | [], _, h => by rw [List.map_nil] at h; unfold Rps at h; exact h
  | s :: ss, _, h => by
    rw [List.map_cons] at h
    unfold Rps at h
    obtain ⟨v, r, e, a, b⟩ := h
    unfold Rp at a
    rw [e, a, Rps.bls ss r b]
    rfl
end

/-! ### operations on what is read -/
abbrev G1 := O → (O → Prop) → Prop
abbrev G2 := O → O → (O → Prop) → Prop
abbrev GN := List O → (O → Prop) → Prop
def SndR1 (K : PySem.W.Frag) (r : V → Hp → VK → Prop) (g : G1) : Prop := ∀ (φ : Fx) (e : Env) (σ : L2.St) (G H : Hp) (o1 : O) (v1 : V) (post : O → Prop) (Q : VK), Rel K φ e σ G H → OAt K G H o1 v1 → g o1 post →
  (∀ o v G' H', post o → Rel K φ (some o :: e) (some v :: σ) G' H' → Q v H') → r v1 H Q
def SndR2 (K : PySem.W.Frag) (r : R2) (g : G2) : Prop := ∀ (φ : Fx) (e : Env) (σ : L2.St) (G H : Hp) (o1 o2 : O) (v1 v2 : V) (post : O → Prop) (Q : VK), Rel K φ e σ G H → OAt K G H o1 v1 → OAt K G H o2 v2 → g o1 o2 post →
  (∀ o v G' H', post o → Rel K φ (some o :: e) (some v :: σ) G' H' → Q v H') → r v1 v2 H Q
def SndRN (K : PySem.W.Frag) (r : List V → Hp → VK → Prop) (g : GN) : Prop := ∀ (φ : Fx) (e : Env) (σ : L2.St) (G H : Hp) (os : List O) (vs : List V) (post : O → Prop) (Q : VK), Rel K φ e σ G H → Paired (OAt K G H) os vs → g os post →
  (∀ o v G' H', post o → Rel K φ (some o :: e) (some v :: σ) G' H' → Q v H') → r vs H Q
def vOp1 (g : G1) (qa : WQ) : WE := fun x e post => qa x e fun q1 e1 => onO q1 e1 fun o1 => g o1 fun o => post o e1
def vOp2 (g : G2) (qa qb : WQ) : WE := fun x e post => qa x e fun q1 e1 => qb x e1 fun q2 e2 => onO q1 e2 fun o1 => onO q2 e2 fun o2 => g o1 o2 fun o => post o e2
theorem snd_op1 {K : PySem.W.Frag} {r : V → Hp → VK → Prop} {g : G1} {ta : TE} {qa : WQ} (ha : SndQ K ta qa) (hr : SndR1 K r g) : SndE K (fun σ H Q => ta σ H fun v H1 => r v H1 Q) (vOp1 g qa) := fun φ e σ G H x post Q R X t q => by
  refine ha φ e σ G H x _ _ R X t fun q1 e1 v1 G1 H1 p R1 k1 => ?_
  obtain ⟨o1, g1, p⟩ := onO_iff.mp p
  exact hr φ e1 σ G1 H1 o1 v1 _ Q R1.tail (R1.opnd k1 g1) p fun o v G' H' pd rd => q o e1 v G' H' pd rd
theorem snd_op2 {K : PySem.W.Frag} {r : R2} {g : G2} {ta tb : TE} {qa qb : WQ} (ha : SndQ K ta qa) (hb : SndQ K tb qb) (hr : SndR2 K r g) : SndE K (tOp r ta tb) (vOp2 g qa qb) := fun φ e σ G H x post Q R X t q => by
  refine snd2 (post := fun q1 q2 e2 => onO q1 e2 fun o1 => onO q2 e2 fun o2 => g o1 o2 fun d => post d e2) (Q := fun v1 v2 H2 => r v1 v2 H2 Q) ha hb R X t fun q1 q2 e2 v1 v2 G2 H2 p R2 k1 k2 => ?_
  obtain ⟨o1, g1, p⟩ := onO_iff.mp p
  obtain ⟨o2, g2, p⟩ := onO_iff.mp p
  exact hr φ e2 σ G2 H2 o1 o2 v1 v2 _ Q R2.tail.tail (R2.swap.tail.opnd k1 g1) (R2.tail.opnd k2 g2) p fun o v G' H' pd rd => q o e2 v G' H' pd rd
/-- one of two rules -/
theorem SndR2.or {K : PySem.W.Frag} {r r' : R2} {g g' : G2} (h : SndR2 K r g) (h' : SndR2 K r' g') : SndR2 K (fun x y H Q => r x y H Q ∨ r' x y H Q) (fun a b post => g a b post ∨ g' a b post) := fun φ e σ G H o1 o2 v1 v2 post Q R a1 a2 p q =>
  p.elim (fun p => .inl (h φ e σ G H o1 o2 v1 v2 post Q R a1 a2 p q)) fun p => .inr (h' φ e σ G H o1 o2 v1 v2 post Q R a1 a2 p q)
def gI (C : Int → Int → Prop) (f : Int → Int → D) : G2 := fun o1 o2 post => onI o1 fun i => onI o2 fun j => C i j ∧ post (.pu (f i j))
def gI0 (f : Int → Int → D) : G2 := fun o1 o2 post => onI o1 fun i => onI o2 fun j => post (.pu (f i j))
theorem snd_rI {K : PySem.W.Frag} {C : Int → Int → Prop} {g : Int → Int → V} {f : Int → Int → D} (h : ∀ i j G, Rp K G (f i j) (g i j)) : SndR2 K (rI C g) (gI C f) := fun φ e σ G H o1 o2 v1 v2 post Q R a1 a2 p q => by
  unfold gI at p
  obtain ⟨i, rfl, p1⟩ := onI_iff.mp p
  obtain ⟨j, rfl, p2⟩ := onI_iff.mp p1
  exact ⟨i, j, a1.int, a2.int, p2.1, q _ _ G H p2.2 (R.consPu (h i j G))⟩
theorem snd_rI0 {K : PySem.W.Frag} {g : Int → Int → V} {f : Int → Int → D} (h : ∀ i j G, Rp K G (f i j) (g i j)) : SndR2 K (rI0 g) (gI0 f) := fun φ e σ G H o1 o2 v1 v2 post Q R a1 a2 p q => by
  unfold gI0 at p
  obtain ⟨i, rfl, p1⟩ := onI_iff.mp p
  obtain ⟨j, rfl, p2⟩ := onI_iff.mp p1
  exact ⟨i, j, a1.int, a2.int, q _ _ G H p2 (R.consPu (h i j G))⟩
theorem rp_int {K : PySem.W.Frag} {G : Hp} {i : Int} : Rp K G (.int i) (.int i) := by unfold Rp; rfl
theorem rp_bl {K : PySem.W.Frag} {G : Hp} {i : Bool} : Rp K G (.bl i) (.bl i) := by unfold Rp; rfl
theorem rp_str {K : PySem.W.Frag} {G : Hp} {i : Str} : Rp K G (.str i) (.str i) := by unfold Rp; rfl
theorem rp_non {K : PySem.W.Frag} {G : Hp} : Rp K G .non .non := by unfold Rp; rfl
theorem PE.or {X : Cx} {e : Expr} {t u : TE} (h : PE X e t) (k : PE X e u) : PE X e (fun σ H Q => t σ H Q ∨ u σ H Q) := ⟨fun pins s σ H Q I w => w.elim (h.run pins s σ H Q I) (k.run pins s σ H Q I)⟩
theorem SndE.or {K : PySem.W.Frag} {t u : TE} {a b : WE} (h : SndE K t a) (k : SndE K u b) : SndE K (fun σ H Q => t σ H Q ∨ u σ H Q) (fun x e post => a x e post ∨ b x e post) := fun φ e σ G H x post Q R X t q =>
  t.elim (fun t => .inl (h φ e σ G H x post Q R X t q)) fun t => .inr (k φ e σ G H x post Q R X t q)
theorem VE.or {X : Cx} {e : Expr} {t u : TE} {a b : WE} (h : VE X e t a) (k : VE X e u b) : VE X e (fun σ H Q => t σ H Q ∨ u σ H Q) (fun x e post => a x e post ∨ b x e post) := ⟨PE.or h.pe k.pe, h.snd.or k.snd⟩
/-- a reading for another one -/
theorem VE.as {X : Cx} {e : Expr} {t : TE} {a b : WE} (h : VE X e t a) (k : ∀ x e post, b x e post → a x e post) : VE X e t b := ⟨h.pe, fun φ e σ G H x post Q R X t q => h.snd φ e σ G H x post Q R X (k x e post t) q⟩
section
variable {X : Cx} {a b : Expr} {ta tb : TE} {qa qb : WQ} {pos : Pos} {op : Operator} {cop : CmpOp} {r : R2} {g : G2}
theorem ve_op (ho : OpR X (binaryOp op) r) (hr : SndR2 X.K r g) (ha : VQ X a ta qa) (hb : VQ X b tb qb) : VE X (.BinOp a op b pos) (tOp r ta tb) (vOp2 g qa qb) := ⟨pe_op ho ha.pe hb.pe, snd_op2 ha.snd hb.snd hr⟩
theorem ve_cmp (ho : OpR X (compareOp cop) r) (hr : SndR2 X.K r g) (ha : VQ X a ta qa) (hb : VQ X b tb qb) (hm : behindInMarks cop b = false) : VE X (.Compare a [cop] [b] pos) (tOp r ta tb) (vOp2 g qa qb) := ⟨pe_cmpR ho ha.pe hb.pe hm, snd_op2 ha.snd hb.snd hr⟩
def vTest (t : WE) : WT := fun x e post => t x e fun o e' => onB o fun b => post b e'
theorem snd_test {K : PySem.W.Frag} {te : TE} {t : WE} (h : SndE K te t) : SndT K (tTest te) (vTest t) := fun φ e σ G H x post Q R X t q =>
  h φ e σ G H x _ _ R X t fun o e' v G' H' p R' => by
    obtain ⟨b, rfl, p⟩ := onB_iff.mp p
    exact ⟨b, R'.headOAt.bl, q b e' G' H' p R'.tail⟩
theorem snd_B {K : PySem.W.Frag} {te : TE} {t : WE} (h : SndE K te t) : SndT K (tB te) (vTest t) := fun φ e σ G H x post Q R X t q =>
  h φ e σ G H x _ _ R X t fun o e' v G' H' p R' => by
    obtain ⟨b, rfl, p⟩ := onB_iff.mp p
    exact ⟨b, R'.headOAt.bl, q b e' G' H' p R'.tail⟩
theorem vt_cmp (ho : OpR X (compareOp cop) r) (hr : SndR2 X.K r g) (ha : VQ X a ta qa) (hb : VQ X b tb qb) (hm : behindInMarks cop b = false) : VT X (.Compare a [cop] [b] pos) (tTest (tOp r ta tb)) (vTest (vOp2 g qa qb)) := ⟨pt_cmpR ho ha.pe hb.pe hm, snd_test (snd_op2 ha.snd hb.snd hr)⟩
theorem vt_val {e : Expr} {te : TE} {t : WE} (h : VE X e te t) (he : ∀ whole, isTrue e X.env whole = (do let v ← whole; standAt e.pos; holding [v] (truthy v)) := by intro _; rfl) : VT X e (tB te) (vTest t) := ⟨pt_val h.pe he, snd_B h.snd⟩
end

/-! ### arguments: pure things -/
abbrev WP := XP → Env → (List D → Env → Prop) → Prop
def SndP (K : PySem.W.Frag) (ta : TA) (t : WP) : Prop := ∀ φ e σ G H x (post : List D → Env → Prop) (Q : List V → Hp → Prop), Rel K φ e σ G H → ExOk K φ x → t x e post →
  (∀ ds e' vs G' H', post ds e' → Rel K φ e' σ G' H' → Rps K G' ds vs → Q vs H') → ta σ H Q
structure VP (X : Cx) (es : List Expr) (ta : TA) (t : WP) : Prop where
  pa : PA X es ta
  snd : SndP X.K ta t
def vpNil : WP := fun _ e post => post [] e
def vpCons (a : WE) (r : WP) : WP := fun x e post => a x e fun o e1 => r x e1 fun ds e2 => post (o.toD :: ds) e2
theorem snd_pnil {K : PySem.W.Frag} : SndP K tNil vpNil := fun φ e σ G H x post Q R X t q => q [] e [] G H t R Rps.nil
theorem snd_pcons {K : PySem.W.Frag} {te : TE} {a : WE} {ta : TA} {r : WP} (h : SndE K te a) (k : SndP K ta r) : SndP K (tCons te ta) (vpCons a r) := fun φ e σ G H x post Q R X t q => by
  refine h φ e σ G H x (fun o e1 => r x e1 fun ds e2 => post (o.toD :: ds) e2) _ R X t fun o e1 v1 G1 H1 p1 R1 => ?_
  obtain ⟨G2, R2, _⟩ := R1.freeze
  have F := Rel.frame (ts := [some (.pu o.toD)]) (vs := [some v1]) R2 rfl
  refine k _ e1 σ G2 H1 x _ _ F.1 (ExOk.frame (ts := [some (.pu o.toD)]) (vs := [some v1]) X R2 rfl) p1 fun ds e2 vs G3 H3 p3 R3 hs => ?_
  have R4 := F.2 _ _ _ _ R3
  exact q _ e2 _ G3 H3 p3 R4.tail (Rps.cons (Rel.headRp R4) hs)
section
variable {X : Cx} {e : Expr} {es : List Expr} {te : TE} {t : WE} {ta : TA} {r : WP} {pos : Pos}
theorem vp_nil : VP X [] tNil vpNil := ⟨pa_nil, snd_pnil⟩
theorem vp_cons (h : VE X e te t) (k : VP X es ta r) (hs : starEach (e :: es) X.env = (false, eval e X.env) :: starEach es X.env := by rfl) : VP X (e :: es) (tCons te ta) (vpCons t r) := ⟨pa_cons h.pe k.pa hs, snd_pcons h.snd k.snd⟩

/-! ### displays -/
def vTup (r : WP) : WE := fun x e post => r x e fun ds e1 => ds.length ≤ sizeLine ∧ post (.pu (.tup ds)) e1
def vLst (r : WP) : WE := fun x e post => r x e fun ds e1 => ds.length ≤ sizeLine ∧ ∀ p, post (.ls p ds) e1
theorem snd_tup {K : PySem.W.Frag} (h : SndP K ta r) : SndE K (tTup ta) (vTup r) := fun φ e σ G H x post Q R X t q => by
  refine h φ e σ G H x _ _ R X t fun ds e1 vs G1 H1 p1 R1 hs => ?_
  refine ⟨by rw [Rps.len ds vs hs]; exact p1.1, fun p hp => ?_⟩
  have N := R1.newG (u := .tup vs) hp
  refine q _ e1 _ _ _ p1.2 (N.1.consPu ?_)
  unfold Rp
  exact ⟨p, vs, rfl, SqT.of upd_same, Rps.mono N.2 ds vs hs⟩
theorem Rel.newLs {K : PySem.W.Frag} {φ : Fx} {e : Env} {σ : L2.St} {G H : Hp} {p : Addr} {ds : List D} {vs : List V} (R : Rel K φ e σ G H) (hp : H p = none) (hs : Rps K G ds vs) : Rel K φ (some (.ls p ds) :: e) (some (.ref p) :: σ) G (upd H p (.lst vs)) :=
  R.new hp rfl (by unfold OAt; exact ⟨rfl, R.sub.none hp, vs, upd_same, hs⟩)
theorem Rel.newDc {K : PySem.W.Frag} {φ : Fx} {e : Env} {σ : L2.St} {G H : Hp} {p : Addr} {ds : List (Key × D)} {vs : List (Key × V)} (R : Rel K φ e σ G H) (hp : H p = none) (hs : Rpk K G ds vs) : Rel K φ (some (.dc p ds) :: e) (some (.ref p) :: σ) G (upd H p (.dK vs)) :=
  R.new hp rfl (by unfold OAt; exact ⟨rfl, R.sub.none hp, vs, upd_same, hs⟩)
theorem Rel.newTup {K : PySem.W.Frag} {φ : Fx} {e : Env} {σ : L2.St} {G H : Hp} {p : Addr} {ds : List D} {vs : List V} (R : Rel K φ e σ G H) (hp : H p = none) (hs : Rps K G ds vs) : Rel K φ (some (.pu (.tup ds)) :: e) (some (.ref p) :: σ) (upd G p (.tup vs)) (upd H p (.tup vs)) := by
  have N := R.newG (u := .tup vs) hp
  refine N.1.consPu ?_
  unfold Rp
  exact ⟨p, vs, rfl, SqT.of upd_same, Rps.mono N.2 ds vs hs⟩
theorem snd_lst {K : PySem.W.Frag} (h : SndP K ta r) : SndE K (tLst ta) (vLst r) := fun φ e σ G H x post Q R X t q => by
  refine h φ e σ G H x _ _ R X t fun ds e1 vs G1 H1 p1 R1 hs => ?_
  exact ⟨by rw [Rps.len ds vs hs]; exact p1.1, fun p hp => q _ e1 _ _ _ (p1.2 p) (R1.newLs hp hs)⟩
theorem ve_tup {x1} (h : VP X es ta r) : VE X (.Tuple es x1 pos) (tTup ta) (vTup r) := ⟨pe_tup h.pa, snd_tup h.snd⟩
theorem ve_lst (h : VP X es ta r) : VE X (.List es pos) (tLst ta) (vLst r) := ⟨pe_lst h.pa, snd_lst h.snd⟩
end
end Vl

namespace Vl
open PySem PySem.Spec PyProof.Rows L2

/-! ### and, or, not, if -/
structure VW (X : Cx) (e : Expr) (tt : TT) (t : WT) : Prop where
  pw : PW X e tt
  snd : SndT X.K tt t
def vAndV (a b : WE) : WE := fun x e post => a x e fun o e1 => onB o fun c => if c = true then b x e1 post else post (.pu (.bl false)) e1
def vOrV (a b : WE) : WE := fun x e post => a x e fun o e1 => onB o fun c => if c = true then post (.pu (.bl true)) e1 else b x e1 post
def vNotV (a : WE) : WE := fun x e post => a x e fun o e1 => onB o fun c => post (.pu (.bl (!c))) e1
def vAndT (a b : WT) : WT := fun x e post => a x e fun c e1 => if c = true then b x e1 post else post false e1
def vOrT (a b : WT) : WT := fun x e post => a x e fun c e1 => if c = true then post true e1 else b x e1 post
def vNotT (a : WT) : WT := fun x e post => a x e fun c e1 => post (!c) e1
def vIfE (c : WT) (a b : WE) : WE := fun x e post => c x e fun k e1 => if k = true then a x e1 post else b x e1 post
section
variable {K : PySem.W.Frag} {ta tb : TE} {a b : WE} {tA tB : TT} {qA qB : WT}
theorem snd_andV (ha : SndE K ta a) (hb : SndE K tb b) : SndE K (tAndV ta tb) (vAndV a b) := fun φ e σ G H x post Q R X t q => by
  refine ha φ e σ G H x _ _ R X t fun o e1 v G1 H1 p R1 => ?_
  obtain ⟨c, rfl, p⟩ := onB_iff.mp p
  refine ⟨c, R1.headOAt.bl, ?_⟩
  cases c with
  | true => exact hb φ e1 σ G1 H1 x post Q R1.tail X p q
  | false => exact q _ e1 _ G1 H1 p (R1.tail.consPu rp_bl)
theorem snd_orV (ha : SndE K ta a) (hb : SndE K tb b) : SndE K (tOrV ta tb) (vOrV a b) := fun φ e σ G H x post Q R X t q => by
  refine ha φ e σ G H x _ _ R X t fun o e1 v G1 H1 p R1 => ?_
  obtain ⟨c, rfl, p⟩ := onB_iff.mp p
  refine ⟨c, R1.headOAt.bl, ?_⟩
  cases c with
  | false => exact hb φ e1 σ G1 H1 x post Q R1.tail X p q
  | true => exact q _ e1 _ G1 H1 p (R1.tail.consPu rp_bl)
theorem snd_notV (ha : SndE K ta a) : SndE K (tNotV ta) (vNotV a) := fun φ e σ G H x post Q R X t q => by
  refine ha φ e σ G H x _ _ R X t fun o e1 v G1 H1 p R1 => ?_
  obtain ⟨c, rfl, p⟩ := onB_iff.mp p
  exact ⟨c, R1.headOAt.bl, q _ e1 _ G1 H1 p (R1.tail.consPu rp_bl)⟩
theorem snd_andT (ha : SndT K tA qA) (hb : SndT K tB qB) : SndT K (tAnd tA tB) (vAndT qA qB) := fun φ e σ G H x post Q R X t q => by
  refine ha φ e σ G H x _ _ R X t fun c e1 G1 H1 p R1 => ?_
  cases c with
  | true => exact hb φ e1 σ G1 H1 x post Q R1 X p q
  | false => exact q _ e1 G1 H1 p R1
theorem snd_orT (ha : SndT K tA qA) (hb : SndT K tB qB) : SndT K (tOr tA tB) (vOrT qA qB) := fun φ e σ G H x post Q R X t q => by
  refine ha φ e σ G H x _ _ R X t fun c e1 G1 H1 p R1 => ?_
  cases c with
  | false => exact hb φ e1 σ G1 H1 x post Q R1 X p q
  | true => exact q _ e1 G1 H1 p R1
theorem snd_notT (ha : SndT K tA qA) : SndT K (tNot tA) (vNotT qA) := fun φ e σ G H x post Q R X t q =>
  ha φ e σ G H x _ _ R X t fun c e1 G1 H1 p R1 => q _ e1 G1 H1 p R1
theorem snd_ifE (hc : SndT K tA qA) (ha : SndE K ta a) (hb : SndE K tb b) : SndE K (tIf tA ta tb) (vIfE qA a b) := fun φ e σ G H x post Q R X t q => by
  refine hc φ e σ G H x _ _ R X t fun c e1 G1 H1 p R1 => ?_
  cases c with
  | true => exact ha φ e1 σ G1 H1 x post Q R1 X p q
  | false => exact hb φ e1 σ G1 H1 x post Q R1 X p q
end
section
variable {X : Cx} {a b : Expr} {rest : List Expr} {ta tb : TE} {va vb : WE} {tA tB : TT} {qA qB : WT} {pos : Pos} {op : BoolOp}
theorem ve_one (h : VE X a ta va) : VE X (.BoolOp op [a] pos) ta va := ⟨pe_one h.pe, h.snd⟩
theorem ve_and (ha : VE X a ta va) (hb : VE X (.BoolOp .And (b :: rest) pos) tb vb) : VE X (.BoolOp .And (a :: b :: rest) pos) (tAndV ta tb) (vAndV va vb) := ⟨pe_and ha.pe hb.pe, snd_andV ha.snd hb.snd⟩
theorem ve_or (ha : VE X a ta va) (hb : VE X (.BoolOp .Or (b :: rest) pos) tb vb) : VE X (.BoolOp .Or (a :: b :: rest) pos) (tOrV ta tb) (vOrV va vb) := ⟨pe_or ha.pe hb.pe, snd_orV ha.snd hb.snd⟩
theorem ve_not (ha : VE X a ta va) : VE X (.UnaryOp .Not a pos) (tNotV ta) (vNotV va) := ⟨pe_not ha.pe, snd_notV ha.snd⟩
theorem vw_and1 (ha : VT X a tA qA) : VW X (.BoolOp .And [a] pos) tA qA := ⟨pw_and1 ha.pt, ha.snd⟩
theorem vw_or1 (ha : VT X a tA qA) : VW X (.BoolOp .Or [a] pos) tA qA := ⟨pw_or1 ha.pt, ha.snd⟩
theorem vw_and (ha : VT X a tA qA) (hb : VW X (.BoolOp .And (b :: rest) pos) tB qB) : VW X (.BoolOp .And (a :: b :: rest) pos) (tAnd tA tB) (vAndT qA qB) := ⟨pw_and ha.pt hb.pw, snd_andT ha.snd hb.snd⟩
theorem vw_or (ha : VT X a tA qA) (hb : VW X (.BoolOp .Or (b :: rest) pos) tB qB) : VW X (.BoolOp .Or (a :: b :: rest) pos) (tOr tA tB) (vOrT qA qB) := ⟨pw_or ha.pt hb.pw, snd_orT ha.snd hb.snd⟩
theorem vt_w (h : VW X a tA qA) : VT X a tA qA := ⟨h.pw.pt, h.snd⟩
theorem vt_not (ha : VT X a tA qA) : VT X (.UnaryOp .Not a pos) (tNot tA) (vNotT qA) := ⟨pt_not ha.pt, snd_notT ha.snd⟩
theorem ve_ifE {c : Expr} (hc : VT X c tA qA) (ha : VE X a ta va) (hb : VE X b tb vb) : VE X (.IfExp c a b pos) (tIf tA ta tb) (vIfE qA va vb) := ⟨pe_ifExp hc.pt ha.pe hb.pe, snd_ifE hc.snd ha.snd hb.snd⟩
end

/-! ### is None -/
def O.isN : O → Bool
  | .pu .non => true
  | _ => false
theorem OAt.isN {K : PySem.W.Frag} {G H : Hp} {o : O} {v : V} (h : OAt K G H o v) : decide (v = .non) = o.isN := by
  cases o with
  | pu d =>
    unfold OAt at h
    cases d with
    | non => unfold Rp at h; subst h; rfl
    | bl b => unfold Rp at h; subst h; rfl
    | int b => unfold Rp at h; subst h; rfl
    | str b => unfold Rp at h; subst h; rfl
    | lst ds => unfold Rp at h; obtain ⟨a, vs, e, _⟩ := h; subst e; rfl
    | tup ds => unfold Rp at h; obtain ⟨a, vs, e, _⟩ := h; subst e; rfl
    | dct ds => unfold Rp at h; obtain ⟨a, vs, e, _⟩ := h; subst e; rfl
    | tupN ds => unfold Rp at h; obtain ⟨a, o, vs, e, _⟩ := h; subst e; rfl
    | opq => unfold Rp at h; obtain ⟨a, e⟩ := h; subst e; rfl
  | ls p ds => unfold OAt at h; obtain ⟨e, _⟩ := h; subst e; rfl
  | dc p ds => unfold OAt at h; obtain ⟨e, _⟩ := h; subst e; rfl
  | lsO p ds => unfold OAt at h; obtain ⟨e, _⟩ := h; subst e; rfl
  | dcO p ds => unfold OAt at h; obtain ⟨e, _⟩ := h; subst e; rfl
  | ob p dx C fs => unfold OAt at h; obtain ⟨e, _⟩ := h; subst e; rfl
def vIsN (neg : Bool) : G1 := fun o post => post (.pu (.bl (if neg then !o.isN else o.isN)))
section
variable {X : Cx} {a : Expr} {ta : TE} {qa : WQ} {pos pos' : Pos} {j : Nat}
theorem ve_isN (ha : VQ X a ta qa) : VE X (.Compare a [.Is] [.Constant .none j pos'] pos) (tIsN ta) (vOp1 (vIsN false) qa) := ⟨pe_cmp (pc_isN ha.pe) (by rfl), by
  refine snd_op1 (r := fun v H Q => Q (.bl (decide (v = .non))) H) ha.snd fun φ e σ G H o1 v1 post Q R h p q => ?_
  exact q _ _ G H p (R.consPu (by rw [h.isN]; exact rp_bl))⟩
theorem ve_notN (ha : VQ X a ta qa) : VE X (.Compare a [.IsNot] [.Constant .none j pos'] pos) (tNotN ta) (vOp1 (vIsN true) qa) := ⟨pe_cmp (pc_notN ha.pe) (by rfl), by
  refine snd_op1 (r := fun v H Q => Q (.bl (!decide (v = .non))) H) ha.snd fun φ e σ G H o1 v1 post Q R h p q => ?_
  exact q _ _ G H p (R.consPu (by rw [h.isN]; exact rp_bl))⟩
theorem vt_isN (ha : VQ X a ta qa) : VT X (.Compare a [.Is] [.Constant .none j pos'] pos) (tB (tIsN ta)) (vTest (vOp1 (vIsN false) qa)) := ⟨pt_cmp (pc_isN ha.pe) (by rfl), snd_B (ve_isN (pos := pos) (pos' := pos') (j := j) ha).snd⟩
theorem vt_notN (ha : VQ X a ta qa) : VT X (.Compare a [.IsNot] [.Constant .none j pos'] pos) (tB (tNotN ta)) (vTest (vOp1 (vIsN true) qa)) := ⟨pt_cmp (pc_notN ha.pe) (by rfl), snd_B (ve_notN (pos := pos) (pos' := pos') (j := j) ha).snd⟩
end

/-! ### operators -/
theorem OpR.or {X : Cx} {f : Value → Value → Sem Value} {r r' : R2} (h : OpR X f r) (k : OpR X f r') : OpR X f (fun x y H Q => r x y H Q ∨ r' x y H Q) := fun pins s σ H x y v u Q I rx ry w =>
  w.elim (h pins s σ H x y v u Q I rx ry) (k pins s σ H x y v u Q I rx ry)
def rAddS2 : R2 := fun x y H Q => ∃ i j, x = .str i ∧ y = .str j ∧ i.length + j.length ≤ sizeLine ∧ Q (.str (i ++ j)) H
def rLtS : R2 := fun x y H Q => ∃ i j, x = .str i ∧ y = .str j ∧ Q (.bl (decide (i.cps.toList < j.cps.toList))) H
def rCatL (K : PySem.W.Frag) : R2 := fun x y H Q => ∃ l b xs zs, x = .ref l ∧ y = .ref b ∧ H l = some (.lst xs) ∧ H b = some (.lst zs) ∧ xs.length + zs.length ≤ sizeLine ∧ ∀ p, H p = none → Q (.ref p) (upd H p (.lst (xs ++ zs)))
section
variable {K : PySem.W.Frag} {X : Cx}
/-- a + b: ints, texts, tuples -/
def gAdd : G2 := fun o1 o2 post => match o1, o2 with
  | .pu (.int i), .pu (.int j) => post (.pu (.int (i + j)))
  | .pu (.str i), .pu (.str j) => i.length + j.length ≤ sizeLine ∧ post (.pu (.str (i ++ j)))
  | .pu (.tup a), .pu (.tup b) => a.length + b.length ≤ sizeLine ∧ post (.pu (.tup (a ++ b)))
  | _, _ => False
def rAddA (K : PySem.W.Frag) : R2 := fun x y H Q => rI0 (fun i j => .int (i + j)) x y H Q ∨ rAddS2 x y H Q ∨ rCatA K x y H Q
theorem op_addA : OpR X (binaryOp .Add) (rAddA X.K) := op_add.or (OpR.or op_add_str op_catA)
theorem sr_addA : SndR2 K (rAddA K) gAdd := fun φ e σ G H o1 o2 v1 v2 post Q R a1 a2 p q => by
  unfold gAdd at p
  split at p
  · exact .inl ⟨_, _, a1.int, a2.int, q _ _ G H p (R.consPu rp_int)⟩
  · exact .inr (.inl ⟨_, _, a1.str, a2.str, p.1, q _ _ G H p.2 (R.consPu rp_str)⟩)
  · rename_i ds es
    obtain ⟨a, xs, rfl, ha, hxs⟩ := a1.tup R.sub
    obtain ⟨b, ys, rfl, hb, hys⟩ := a2.tup R.sub
    have l1 := Rps.len _ _ hxs
    have l2 := Rps.len _ _ hys
    unfold OAt at a1 a2
    refine .inr (.inr ⟨a, b, xs, ys, rfl, rfl, ha, hb, by omega, fun h0 => ?_, fun _ h0 => ?_, fun _ _ p' hp => ?_⟩)
    · subst h0
      have e0 : ds = [] := List.length_eq_zero_iff.mp (by simpa using l1.symm)
      subst e0
      exact q _ _ G H p.2 (R.consPu a2)
    · subst h0
      have e0 : es = [] := List.length_eq_zero_iff.mp (by simpa using l2.symm)
      subst e0
      rw [List.append_nil] at p
      exact q _ _ G H p.2 (R.consPu a1)
    · exact q _ _ _ _ p.2 (R.newTup hp (Rps.app _ _ _ _ hxs hys))
  · exact p.elim
theorem sr_mul : SndR2 K (rI CMul fun i j => .int (i * j)) (gI CMul fun i j => .int (i * j)) := snd_rI fun _ _ _ => rp_int
theorem sr_mod : SndR2 K (rI (fun _ j => 0 < j) fun i j => .int (i % j)) (gI (fun _ j => 0 < j) fun i j => .int (i % j)) := snd_rI fun _ _ _ => rp_int
theorem sr_fdiv : SndR2 K (rI CDiv fun i j => .int (i / j)) (gI CDiv fun i j => .int (i / j)) := snd_rI fun _ _ _ => rp_int
theorem sr_pow : SndR2 K (rI CPow fun i j => .int (i ^ j.toNat)) (gI CPow fun i j => .int (i ^ j.toNat)) := snd_rI fun _ _ _ => rp_int
theorem sr_lt : SndR2 K (rI0 fun i j => .bl (decide (i < j))) (gI0 fun i j => .bl (decide (i < j))) := snd_rI0 fun _ _ _ => rp_bl
theorem sr_le : SndR2 K (rI0 fun i j => .bl (decide (i ≤ j))) (gI0 fun i j => .bl (decide (i ≤ j))) := snd_rI0 fun _ _ _ => rp_bl
theorem sr_gt : SndR2 K (rI0 fun i j => .bl (decide (j < i))) (gI0 fun i j => .bl (decide (j < i))) := snd_rI0 fun _ _ _ => rp_bl
theorem sr_ge : SndR2 K (rI0 fun i j => .bl (decide (j ≤ i))) (gI0 fun i j => .bl (decide (j ≤ i))) := snd_rI0 fun _ _ _ => rp_bl
end

/-! ### subscripts -/
def onAt {α : Type} (xs : List α) (i : Int) (k : α → Prop) : Prop := match atI xs i with
  | some d => k d
  | none => False
theorem onAt_iff {α : Type} {xs : List α} {i : Int} {k : α → Prop} : onAt xs i k ↔ ∃ d, atI xs i = some d ∧ k d := by
  unfold onAt
  cases h : atI xs i with
  | none => exact ⟨fun z => z.elim, fun ⟨_, z, _⟩ => (nomatch z)⟩
  | some d => exact ⟨fun z => ⟨d, rfl, z⟩, fun ⟨d', z, y⟩ => by cases z; exact y⟩
def lookK {α : Type} (ks : List (Key × α)) (k : Key) : Option α := (ks.find? fun kv => decide (kv.1 = k)).map (·.2)
def dKey : D → Option Key
  | .int i => some (.inl i)
  | .str x => some (.inr x)
  | _ => none
def oKey : O → Option Key
  | .pu d => dKey d
  | _ => none
def onKey (o : O) (k : Key → Prop) : Prop := match oKey o with
  | some y => k y
  | none => False
theorem oKey_V {K : PySem.W.Frag} {G H : Hp} {o : O} {v : V} {k : Key} (h : OAt K G H o v) (e : oKey o = some k) : v = kV k := by
  cases o with
  | pu d =>
    cases d with
    | int i => cases e; exact h.int
    | str i => cases e; exact h.str
    | _ => cases e
  | _ => cases e
theorem Rps.atI {K : PySem.W.Frag} {G : Hp} {ds : List D} {vs : List V} {i : Int} {d : D} (h : Rps K G ds vs) (e : L2.atI ds i = some d) : ∃ v, L2.atI vs i = some v ∧ Rp K G d v := by
  unfold L2.atI at e ⊢
  rw [Rps.len ds vs h]
  cases q : ixN ds.length i with
  | none => rw [q] at e; cases e
  | some j =>
    rw [q] at e
    exact Rps.get ds vs j d h e
theorem Rpk.look {K : PySem.W.Frag} {G : Hp} : ∀ (ds : List (Key × D)) (vs : List (Key × V)) (k : Key), Rpk K G ds vs → match lookK ds k with
    | some d => ∃ v, valV vs k = some v ∧ Rp K G d v
    | none => valV vs k = none
  | [], _, k, h => by unfold Rpk at h; subst h; rfl
  | (k', d) :: ds, _, k, h => by
    unfold Rpk at h
    obtain ⟨v, r, e, a, b⟩ := h
    subst e
    unfold lookK valV
    by_cases hk : k' = k
    · simp [hk]
      exact a
    · have ih := Rpk.look ds r k b
      unfold lookK valV at ih
      simpa [hk] using ih
theorem Rpk.len {K : PySem.W.Frag} {G : Hp} : ∀ (ds : List (Key × D)) (vs : List (Key × V)), Rpk K G ds vs → vs.length = ds.length
  | [], _, h => by unfold Rpk at h; subst h; rfl
  | (k', d) :: ds, _, h => by
    unfold Rpk at h
    obtain ⟨v, r, e, a, b⟩ := h
    subst e
    simp [Rpk.len ds r b]
theorem ix_dct {X : Cx} (hu : X.A.units + 1 < cLine) : IxR X (fun x y H Q => ∃ a v, x = .ref a ∧ DGet H a y (some v) ∧ Q v H) := by
  intro value slice pins s σ H x y ov iv Q I rx ry ⟨a, w, ex, g, q⟩ hsl
  subst ex
  obtain rfl : ov = Value.ref a := rx
  have ty := dict_typeIs I g
  unfold subscriptTail
  refine wpAny_bind ?_
  rw [getitemInPython_of_ne ty.not_modules]
  refine wpAny_bind (wpAny_specialOf ty PySem.F.slot_dict_getitem.lookup ?_)
  have tail : wpAny (model X.prog X.w) X.A (subscripted slice false (.ref a) iv) (fun r t => wpAny (model X.prog X.w) X.A (letTemporaryGo value (.ref a) r >>= fun _ => pure r) (EP X pins σ Q) X.xe t) X.xe s := by
    rw [hsl]
    refine wpAny_operating (d_getItem hu I g ry fun w' s3 I3 rw' => ?_)
    exact wpAny_bind (wpAny_letTemporaryGo (wpAny_pure ⟨w, H, I3, rw', q⟩))
  first
    | exact wpAny_pure (wpAny_bind tail)
    | exact wpAny_bind (wpAny_pure (wpAny_bind tail))
    | exact wpAny_bind tail
def rIxA (K : PySem.W.Frag) : R2 := fun x y H Q => rIx K x y H Q ∨ ∃ a v, x = .ref a ∧ DGet H a y (some v) ∧ Q v H
theorem ix_any {X : Cx} (hu : X.A.units + 1 < cLine) : IxR X (rIxA X.K) := ix_seq.or (ix_dct hu)
/-- what stands at a place, at a key -/
def gIx : G2 := fun o1 o2 post => match o1 with
  | .pu (.lst ds) => onI o2 fun i => onAt ds i fun d => post (.pu d)
  | .ls _ ds => onI o2 fun i => onAt ds i fun d => post (.pu d)
  | .pu (.tup ds) => onI o2 fun i => onAt ds i fun d => post (.pu d)
  | .pu (.str s) => onI o2 fun i => s.length ≤ sizeLine ∧ onAt s.cps.toList i fun c => post (.pu (.str ⟨#[c]⟩))
  | .pu (.dct ks) => onKey o2 fun k => match lookK ks k with
    | some d => post (.pu d)
    | none => False
  | .dc _ ks => onKey o2 fun k => match lookK ks k with
    | some d => post (.pu d)
    | none => False
  | _ => False
theorem sr_ix {K : PySem.W.Frag} : SndR2 K (rIxA K) gIx := fun φ e σ G H o1 o2 v1 v2 post Q R a1 a2 p q => by
  have hl : ∀ ds, (o1 = .pu (.lst ds) ∨ ∃ p, o1 = .ls p ds) → (onI o2 fun i => onAt ds i fun d => post (.pu d)) → rIxA K v1 v2 H Q := fun ds ho p => by
    obtain ⟨i, rfl, p⟩ := onI_iff.mp p
    obtain ⟨d, hd, p⟩ := onAt_iff.mp p
    obtain ⟨a, vs, rfl, hs, hv⟩ := a1.lst R.sub ho
    obtain ⟨v, e1, r1⟩ := hv.atI hd
    exact .inl (.inl ⟨a, vs, i, v, rfl, a2.int, hs, e1, q _ v G H p (R.consPu r1)⟩)
  have hd : ∀ ks, (o1 = .pu (.dct ks) ∨ ∃ p, o1 = .dc p ks) → (onKey o2 fun k => match lookK ks k with | some d => post (.pu d) | none => False) → rIxA K v1 v2 H Q := fun ks ho p => by
    unfold onKey at p
    split at p
    · rename_i k hk
      obtain ⟨a, vs, rfl, hs, hv⟩ := a1.dct R.sub ho
      have z := Rpk.look ks vs k hv
      split at p
      · rename_i d hd
        rw [hd] at z
        obtain ⟨v, e1, r1⟩ := z
        exact .inr ⟨a, v, rfl, .inl ⟨vs, k, hs, oKey_V a2 hk, e1.symm⟩, q _ v G H p (R.consPu r1)⟩
      · exact p.elim
    · exact p.elim
  unfold gIx at p
  split at p
  · exact hl _ (.inl rfl) p
  · exact hl _ (.inr ⟨_, rfl⟩) p
  · obtain ⟨i, rfl, p⟩ := onI_iff.mp p
    obtain ⟨d, hdd, p⟩ := onAt_iff.mp p
    obtain ⟨a, vs, rfl, hs, hv⟩ := a1.tup R.sub
    obtain ⟨v, e1, r1⟩ := hv.atI hdd
    exact .inl (.inr (.inl ⟨a, vs, i, v, rfl, a2.int, hs, e1, q _ v G H p (R.consPu r1)⟩))
  · obtain ⟨i, rfl, p⟩ := onI_iff.mp p
    obtain ⟨c, hc, p2⟩ := onAt_iff.mp p.2
    exact .inl (.inr (.inr ⟨_, i, c, a1.str, a2.int, p.1, hc, q _ _ G H p2 (R.consPu rp_str)⟩))
  · exact hd _ (.inl rfl) p
  · exact hd _ (.inr ⟨_, rfl⟩) p
  · exact p.elim
theorem ve_ix {X : Cx} {a b : Expr} {ta tb : TE} {qa qb : WQ} {pos : Pos} (hu : X.A.units + 1 < cLine) (ha : VQ X a ta qa) (hb : VQ X b tb qb) (hs : PlainIx b := by exact fun _ _ => rfl) : VE X (.Subscript a b pos) (tOp (rIxA X.K) ta tb) (vOp2 gIx qa qb) :=
  ⟨pe_ix (ix_any hu) ha.pe hb.pe hs, snd_op2 ha.snd hb.snd sr_ix⟩
end Vl

namespace PySem.SeqAt
open AutoSeq1 (wpAny_loadPart')
open MeetsSeq MeetsSeq2 MeetsSeq3
section
variable {prog : Program} {w : World}
/-- the loop of list != list, where the items are compared within one model -/
theorem vl_neLoop (a c : Addr) (us ws : Array Value) (n1 n2 : Nat) (d1 d2 : Option Addr) (z1 z2 : Array (Option Value)) (same : us.size = ws.size) (f : Nat → Bool) (left : Nat) :
    ∀ i : Nat, us.size - i = left → MeetsIn prog w (Builtin.«list.__eq__.loop» ⟨[.ref a, .ref c, rawInt i, rawInt 3], []⟩) (fun A R s =>
      s.heap.get? a = some { cls := .type "list", dict := d1, data := .seq us n1, slots := z1 } ∧ s.heap.get? c = some { cls := .type "list", dict := d2, data := .seq ws n2, slots := z2 } ∧
        (∀ j (k1 : j < us.size) (k2 : j < ws.size), EqP prog w A.in1 s us[j] ws[j] (f j)) ∧ R (.ok (.ret (.bool (!((List.range us.size).drop i).all f)))) s) := by
  induction left with
  | zero =>
    intro i hi A R s hs
    obtain ⟨hp, g, d, tk, os⟩ := s
    obtain ⟨ha, hc, _, fin⟩ := hs
    wp_walk using wpAny_loadPart' ha, wpAny_loadPart' hc
    have none1 : us[((i : Nat) : Int).toNat]? = none := by simp; omega
    have none2 : ws[((i : Nat) : Int).toNat]? = none := by simp; omega
    have empty : (List.range us.size).drop i = [] := by simp; omega
    rw [empty] at fin
    rw [none1, none2]
    wp_walk using wpAny_loadPart' ha, wpAny_loadPart' hc
    show R (.ok (.ret (.bool (us.size != ws.size)))) _
    rw [same]
    simpa using fin
  | succ left ih =>
    intro i hi A R s hs
    obtain ⟨hp, g, d, tk, os⟩ := s
    obtain ⟨ha, hc, each, fin⟩ := hs
    wp_walk using wpAny_loadPart' ha, wpAny_loadPart' hc
    have lt1 : i < us.size := by omega
    have lt2 : i < ws.size := by omega
    have at1 : us[((i : Nat) : Int).toNat]? = some us[i] := by simp [lt1]
    have at2 : ws[((i : Nat) : Int).toNat]? = some ws[i] := by simp [lt2]
    have step : (List.range us.size).drop i = i :: (List.range us.size).drop (i + 1) := by simp [List.drop_eq_getElem_cons, lt1]
    have cast : ((i : Int) + 1) = ((i + 1 : Nat) : Int) := by push_cast; rfl
    rw [step, List.all_cons] at fin
    rw [at1, at2]
    refine wpAny_bind (each i lt1 lt2 _ _ ?_)
    cases fi : f i with
    | true =>
      rw [fi] at fin
      wp_walk
      rw [cast]
      refine ⟨plainId_quiet plain_eq_loop _, codeAny_builtin entry_eq_loop ?_⟩
      rw [Around.under_plainId plain_eq_loop _]
      exact ih (i + 1) (by omega) A R _ ⟨ha, hc, each, by simpa using fin⟩
    | false =>
      rw [fi] at fin
      wp_walk using wpAny_loadPart' ha, wpAny_loadPart' hc
      rw [at1, at2]
      wp_walk
      simpa using fin
theorem vl_listNe (a c : Addr) (us ws : Array Value) (n1 n2 : Nat) (d1 d2 : Option Addr) (z1 z2 : Array (Option Value)) (same : us.size = ws.size) (f : Nat → Bool) :
    MeetsIn prog w (Builtin.«list.__ne__» ⟨[.ref a, .ref c], []⟩) (fun A R s =>
      s.heap.get? a = some { cls := .type "list", dict := d1, data := .seq us n1, slots := z1 } ∧ s.heap.get? c = some { cls := .type "list", dict := d2, data := .seq ws n2, slots := z2 } ∧
        (∀ j (k1 : j < us.size) (k2 : j < ws.size), EqP prog w A.in1 s us[j] ws[j] (f j)) ∧ R (.ok (.ret (.bool (!(List.range us.size).all f)))) s) := by
  intro A R s hs
  obtain ⟨hp, g, d, tk, os⟩ := s
  obtain ⟨ha, hc, each, fin⟩ := hs
  have sub := AutoSeq1.sub_list_list
  have eqsz : ¬ (us.size != ws.size) = true := by simp [same]
  wp_walk using wpAny_loadPart' ha, wpAny_loadPart' hc
  refine ⟨plainId_quiet plain_eq_loop _, codeAny_builtin entry_eq_loop ?_⟩
  rw [Around.under_plainId plain_eq_loop _]
  exact vl_neLoop a c us ws n1 n2 d1 d2 z1 z2 same f _ 0 rfl A R _ ⟨ha, hc, each, by simpa using fin⟩
theorem vl_rcNe {A : Around} {s : Shared} {a c : Addr} {us ws : Array Value} {f : Nat → Bool} (ha : s.heap.IsList a us) (hc : s.heap.IsList c ws) (same : us.size = ws.size) (hu : A.units < cLine)
    (each : ∀ j (k1 : j < us.size) (k2 : j < ws.size), EqP prog w A.in1 s us[j] ws[j] (f j)) (E Q : Value → Shared → Prop) (fin : Q (.bool (!(List.range us.size).all f)) s) : wpAny (model prog w) A (richCompare .NotEq (.ref a) (.ref c)) Q E s := by
  obtain ⟨⟨c1, d1, t1, z1⟩, o1, e1, n1, q1⟩ := id ha
  obtain ⟨⟨c2, d2, t2, z2⟩, o2, e2, n2, q2⟩ := id hc
  simp only at e1 q1 e2 q2
  subst e1 q1 e2 q2
  have ta : s.TypeIs (.ref a) "list" := ⟨_, o1, rfl⟩
  have tc : s.TypeIs (.ref c) "list" := ⟨_, o2, rfl⟩
  have no : Value.bool (!(List.range us.size).all f) ≠ Value.notImplemented := fun z => nomatch z
  exact wpAny_richCompare_same_room (op := .NotEq) ta tc F.slot_list_ne (call_meetsIn F.slot_list_ne ta F.entry_list_ne (F.args_list_ne_2 _ _) (vl_listNe a c us ws n1 n2 d1 d2 z1 z2 same f) ⟨o1, o2, each, show _ ∧ _ from ⟨no, fin⟩⟩) hu
end
end PySem.SeqAt

namespace Vl
open PySem PySem.Spec PyProof.Rows L2

/-! ### equality of data -/
mutual
def eqv : D → D → Bool
  | .non, .non => true
  | .bl a, .bl b => a == b
  | .int a, .int b => a == b
  | .str a, .str b => a == b
  | .lst a, .lst b => eqvs a b
  | .tup a, .tup b => eqvs a b
  | .dct a, .dct b => a.length == b.length && eqvk a b
  | _, _ => false
def eqvs : List D → List D → Bool
  | [], [] => true
  | x :: r, y :: t => eqv x y && eqvs r t
  | _, _ => false
def eqvk : List (Key × D) → List (Key × D) → Bool
  | [], _ => true
  | (k, x) :: r, b => (match lookK b k with
    | some y => eqv x y
    | none => false) && eqvk r b
end
mutual
def cmpb : D → D → Bool
  | .tupN _, _ => false
  | .opq, _ => false
  | _, .tupN _ => false
  | _, .opq => false
  | .lst a, .lst b => cmpbs a b
  | .tup a, .tup b => cmpbs a b
  | .dct a, .dct b => cmpbk a b
  | .non, .dct _ => false
  | .dct _, .non => false
  | .non, _ => true
  | _, .non => true
  | .bl _, .bl _ => true
  | .int _, .int _ => true
  | .str _, .str _ => true
  | _, _ => false
def cmpbs : List D → List D → Bool
  | [], _ => true
  | x :: r, [] => true
  | x :: r, y :: t => cmpb x y && cmpbs r t
def cmpbk : List (Key × D) → List (Key × D) → Bool
  | [], _ => true
  | (k, x) :: r, b => (match lookK b k with
    | some y => cmpb x y
    | none => true) && cmpbk r b
end
mutual
def dep : D → Nat
  | .lst a => deps a + 1
  | .tup a => deps a + 1
  | .dct a => depk a + 1
  | _ => 0
def deps : List D → Nat
  | [] => 0
  | x :: r => max (dep x) (deps r)
def depk : List (Key × D) → Nat
  | [] => 0
  | (_, x) :: r => max (dep x) (depk r)
end
def pairEq (a b : List D) (j : Nat) : Bool := match a[j]?, b[j]? with
  | some x, some y => eqv x y
  | _, _ => false
theorem eqvs_pairs : ∀ (a b : List D), a.length = b.length → eqvs a b = (List.range a.length).all (pairEq a b)
  | [], [], _ => by unfold eqvs; rfl
  | [], _ :: _, h => by simp at h
  | _ :: _, [], h => by simp at h
  | x :: r, y :: t, h => by
    unfold eqvs
    rw [eqvs_pairs r t (by simpa using h), List.length_cons, List.range_succ_eq_map, List.all_cons, List.all_map]
    rfl
theorem eqvs_len : ∀ (a b : List D), a.length ≠ b.length → eqvs a b = false
  | [], [], h => absurd rfl h
  | [], _ :: _, _ => by unfold eqvs; rfl
  | _ :: _, [], _ => by unfold eqvs; rfl
  | x :: r, y :: t, h => by
    unfold eqvs
    rw [eqvs_len r t (by simpa using h), Bool.and_false]
section
variable {X : Cx} {pins : List (Addr × Obj)} {σ : L2.St} {H : Hp} {s : Shared}
theorem rd_fun {H : Hp} {a : Addr} {u w : HO} (hu : ∀ o x, u ≠ .frz o x) (hw : ∀ o x, w ≠ .frz o x) (h : Rd H a u) (k : Rd H a w) : u = w := by
  rcases h with h | ⟨o, h⟩
  · rcases k with k | ⟨o', k⟩
    · rw [h] at k; exact Option.some.inj k
    · rw [h] at k; exact absurd (Option.some.inj k) (hu _ _)
  · rcases k with k | ⟨o', k⟩
    · rw [h] at k; exact absurd (Option.some.inj k).symm (hw _ _)
    · rw [h] at k
      have e := Option.some.inj k
      injection e
theorem look_nodup {ks : List (Key × D)} {k : Key} {d : D} (h : (k, d) ∈ ks) (nd : (ks.map (·.1)).Nodup) : lookK ks k = some d := by
  induction ks with
  | nil => cases h
  | cons p r ih =>
    obtain ⟨k', d'⟩ := p
    rw [List.map_cons, List.nodup_cons] at nd
    unfold lookK
    rw [List.find?_cons]
    rcases List.mem_cons.mp h with z | z
    · cases z
      simp
    · have hk : k' ≠ k := fun e => nd.1 (by subst e; exact List.mem_map.mpr ⟨_, z, rfl⟩)
      have ih' := ih z nd.2
      unfold lookK at ih'
      simp [hk]
      simpa using ih'
theorem Rpk.keys {K : PySem.W.Frag} {G : Hp} : ∀ (ds : List (Key × D)) (vs : List (Key × V)), Rpk K G ds vs → vs.map (·.1) = ds.map (·.1)
  | [], _, h => by unfold Rpk at h; subst h; rfl
  | (k, d) :: ds, _, h => by
    unfold Rpk at h
    obtain ⟨v, r, e, a, b⟩ := h
    subst e
    rw [List.map_cons, List.map_cons, Rpk.keys ds r b]
theorem KV.keys {kvs : List (Key × V)} {vs : List (Key × Value)} (h : KV kvs vs) : kvs.map (·.1) = vs.map (·.1) := by
  unfold KV at h
  induction h with
  | nil => rfl
  | cons a _ ih => rw [List.map_cons, List.map_cons, ih, a.1]
theorem Rpk.nodup (I : Inv X pins σ H s) {a : Addr} {ds : List (Key × D)} {vs : List (Key × V)} (e : Rd H a (.dK vs)) (h : Rpk X.K H ds vs) : (ds.map (·.1)).Nodup := by
  obtain ⟨_, _, ws, rel, o, es, ep, _, _, _, _, _, nd⟩ := dk_rd I.hok e
  rw [← Rpk.keys ds vs h, KV.keys rel]
  exact nd
mutual
/-- one object told in two ways -/
theorem eqv_same (I : Inv X pins σ H s) : ∀ (d e : D) (v : V), cmpb d e = true → Rp X.K H d v → Rp X.K H e v → eqv d e = true
  | .non, e, v, c, h, k => by
    unfold Rp at h; subst h
    cases e with
    | tupN _ => unfold cmpb at c; cases c
    | opq => unfold cmpb at c; cases c
    | non => unfold eqv; rfl
    | bl _ => unfold Rp at k; cases k
    | int _ => unfold Rp at k; cases k
    | str _ => unfold Rp at k; cases k
    | lst _ => unfold Rp at k; obtain ⟨_, _, z, _⟩ := k; cases z
    | tup _ => unfold Rp at k; obtain ⟨_, _, z, _⟩ := k; cases z
    | dct _ => unfold Rp at k; obtain ⟨_, _, z, _⟩ := k; cases z
  | .bl b, e, v, c, h, k => by
    unfold Rp at h; subst h
    cases e with
    | tupN _ => unfold cmpb at c; cases c
    | opq => unfold cmpb at c; cases c
    | bl _ => unfold Rp at k; cases k; unfold eqv; simp
    | non => unfold Rp at k; cases k
    | int _ => unfold Rp at k; cases k
    | str _ => unfold Rp at k; cases k
    | lst _ => unfold Rp at k; obtain ⟨_, _, z, _⟩ := k; cases z
    | tup _ => unfold Rp at k; obtain ⟨_, _, z, _⟩ := k; cases z
    | dct _ => unfold Rp at k; obtain ⟨_, _, z, _⟩ := k; cases z
  | .int b, e, v, c, h, k => by
    unfold Rp at h; subst h
    cases e with
    | tupN _ => unfold cmpb at c; cases c
    | opq => unfold cmpb at c; cases c
    | int _ => unfold Rp at k; cases k; unfold eqv; simp
    | non => unfold Rp at k; cases k
    | bl _ => unfold Rp at k; cases k
    | str _ => unfold Rp at k; cases k
    | lst _ => unfold Rp at k; obtain ⟨_, _, z, _⟩ := k; cases z
    | tup _ => unfold Rp at k; obtain ⟨_, _, z, _⟩ := k; cases z
    | dct _ => unfold Rp at k; obtain ⟨_, _, z, _⟩ := k; cases z
  | .str b, e, v, c, h, k => by
    unfold Rp at h; subst h
    cases e with
    | tupN _ => unfold cmpb at c; cases c
    | opq => unfold cmpb at c; cases c
    | str _ => unfold Rp at k; cases k; unfold eqv; simp
    | non => unfold Rp at k; cases k
    | bl _ => unfold Rp at k; cases k
    | int _ => unfold Rp at k; cases k
    | lst _ => unfold Rp at k; obtain ⟨_, _, z, _⟩ := k; cases z
    | tup _ => unfold Rp at k; obtain ⟨_, _, z, _⟩ := k; cases z
    | dct _ => unfold Rp at k; obtain ⟨_, _, z, _⟩ := k; cases z
  | .lst ds, e, v, c, h, k => by
    unfold Rp at h
    obtain ⟨a, vs, rfl, hs, hv⟩ := h
    cases e with
    | tupN _ => unfold cmpb at c; cases c
    | opq => unfold cmpb at c; cases c
    | lst es =>
      unfold Rp at k
      obtain ⟨b, ws, z, ks, kv⟩ := k
      cases z
      have ev := I.list_inj hs ks
      subst ev
      unfold eqv
      unfold cmpb at c
      exact eqvs_same I ds es vs c hv kv
    | non => unfold Rp at k; cases k
    | bl _ => unfold Rp at k; cases k
    | int _ => unfold Rp at k; cases k
    | str _ => unfold Rp at k; cases k
    | tup _ => unfold cmpb at c; cases c
    | dct _ => unfold cmpb at c; cases c
  | .tup ds, e, v, c, h, k => by
    unfold Rp at h
    obtain ⟨a, vs, rfl, hs, hv⟩ := h
    cases e with
    | tupN _ => unfold cmpb at c; cases c
    | opq => unfold cmpb at c; cases c
    | tup es =>
      unfold Rp at k
      obtain ⟨b, ws, z, ks, kv⟩ := k
      cases z
      have ev := I.tuple_inj hs ks
      subst ev
      unfold eqv
      unfold cmpb at c
      exact eqvs_same I ds es vs c hv kv
    | non => unfold Rp at k; cases k
    | bl _ => unfold Rp at k; cases k
    | int _ => unfold Rp at k; cases k
    | str _ => unfold Rp at k; cases k
    | lst _ => unfold cmpb at c; cases c
    | dct _ => unfold cmpb at c; cases c
  | .dct ds, e, v, c, h, k => by
    unfold Rp at h
    obtain ⟨a, vs, rfl, hs, hv⟩ := h
    cases e with
    | tupN _ => unfold cmpb at c; cases c
    | opq => unfold cmpb at c; cases c
    | dct es =>
      unfold Rp at k
      obtain ⟨b, ws, z, ks, kv⟩ := k
      cases z
      have ev := rd_fun (u := .dK vs) (w := .dK ws) (fun _ _ z => nomatch z) (fun _ _ z => nomatch z) hs ks
      cases ev
      unfold eqv
      unfold cmpb at c
      rw [← Rpk.len ds vs hv, ← Rpk.len es vs kv, beq_self_eq_true, Bool.true_and]
      have nd := Rpk.nodup I ks kv
      exact eqvk_same I ds es vs c hv (fun k v hm => by
        have q := Rpk.look es vs k kv
        have ndv : (vs.map (·.1)).Nodup := by rw [Rpk.keys es vs kv]; exact nd
        have hl : valV vs k = some v := by
          clear q hv kv hs ks c
          induction vs with
          | nil => cases hm
          | cons p r ih =>
            obtain ⟨k', v'⟩ := p
            rw [List.map_cons, List.nodup_cons] at ndv
            rcases List.mem_cons.mp hm with z | z
            · cases z; exact valV_pos rfl
            · have hk : ¬ k' = k := fun e => ndv.1 (by subst e; exact List.mem_map.mpr ⟨_, z, rfl⟩)
              exact (valV_neg hk).trans (ih z ndv.2)
        split at q
        · rename_i d hd
          obtain ⟨v', e1, r1⟩ := q
          rw [hl] at e1
          cases e1
          exact ⟨d, hd, r1⟩
        · rw [hl] at q; cases q)
    | non => unfold Rp at k; cases k
    | bl _ => unfold Rp at k; cases k
    | int _ => unfold Rp at k; cases k
    | str _ => unfold Rp at k; cases k
    | lst _ => unfold cmpb at c; cases c
    | tup _ => unfold cmpb at c; cases c
  | .tupN _, e, v, c, h, k => by
    unfold cmpb at c
    cases c
  | .opq, e, v, c, h, k => by
    unfold cmpb at c
    cases c
theorem eqvs_same (I : Inv X pins σ H s) : ∀ (ds es : List D) (vs : List V), cmpbs ds es = true → Rps X.K H ds vs → Rps X.K H es vs → eqvs ds es = true
  | [], es, vs, _, h, k => by
    unfold Rps at h
    subst h
    cases es with
    | nil => unfold eqvs; rfl
    | cons _ _ => unfold Rps at k; obtain ⟨_, _, z, _⟩ := k; cases z
  | d :: ds, es, vs, c, h, k => by
    unfold Rps at h
    obtain ⟨v, r, e, a, b⟩ := h
    subst e
    cases es with
    | nil => unfold Rps at k; cases k
    | cons e es =>
      unfold Rps at k
      obtain ⟨v', r', z, a', b'⟩ := k
      cases z
      unfold cmpbs at c
      obtain ⟨c1, c2⟩ := Bool.and_eq_true_iff.mp c
      unfold eqvs
      rw [eqv_same I d e v c1 a a', eqvs_same I ds es r c2 b b']
      rfl
theorem eqvk_same (I : Inv X pins σ H s) : ∀ (ds es : List (Key × D)) (vs : List (Key × V)), cmpbk ds es = true → Rpk X.K H ds vs → (∀ k v, (k, v) ∈ vs → ∃ d, lookK es k = some d ∧ Rp X.K H d v) → eqvk ds es = true
  | [], es, vs, _, h, k => by unfold eqvk; rfl
  | (y, d) :: ds, es, vs, c, h, k => by
    unfold Rpk at h
    obtain ⟨v, r, e, a, b⟩ := h
    subst e
    obtain ⟨d', hd, hr⟩ := k y v List.mem_cons_self
    unfold cmpbk at c
    rw [hd] at c
    obtain ⟨c1, c2⟩ := Bool.and_eq_true_iff.mp c
    unfold eqvk
    rw [hd]
    show (eqv d d' && eqvk ds es) = true
    rw [eqv_same I d d' v c1 a hr, eqvk_same I ds es r c2 b fun k' v' hm => k k' v' (List.mem_cons_of_mem _ hm)]
    rfl
end

theorem deps_le {x : D} {n : Nat} : ∀ {ds : List D}, deps ds ≤ n → x ∈ ds → dep x ≤ n
  | [], _, h => nomatch h
  | d :: ds, hd, h => by
    unfold deps at hd
    rcases List.mem_cons.mp h with z | z
    · subst z; omega
    · exact deps_le (by omega) z
theorem Rps.vals {K : PySem.W.Frag} {G : Hp} {ds : List D} {vs : List V} {us : List Value} (h : Rps K G ds vs) (r : Vals vs us) {j : Nat} (hj : j < us.length) : ∃ d v, ds[j]? = some d ∧ d ∈ ds ∧ Rp K G d v ∧ RelV v us[j] := by
  have l1 := Rps.len ds vs h
  have l2 := r.length
  obtain ⟨v, hv⟩ : ∃ v, vs[j]? = some v := ⟨vs[j]'(by omega), List.getElem?_eq_getElem _⟩
  obtain ⟨d, hd, rd⟩ := Rps.get2 ds vs j v h hv
  obtain ⟨u, hu, ru⟩ := r.get hv
  rw [List.getElem?_eq_getElem hj] at hu
  cases hu
  exact ⟨d, v, hd, List.mem_of_getElem? hd, rd, ru⟩
theorem cmpbs_at : ∀ {ds es : List D} {j : Nat} {d e : D}, cmpbs ds es = true → ds[j]? = some d → es[j]? = some e → cmpb d e = true
  | [], _, j, d, e, _, h, _ => by simp at h
  | _ :: _, [], j, d, e, _, _, h => by simp at h
  | x :: r, y :: t, 0, d, e, c, h, k => by
    unfold cmpbs at c
    cases h
    cases k
    exact (Bool.and_eq_true_iff.mp c).1
  | x :: r, y :: t, j + 1, d, e, c, h, k => by
    unfold cmpbs at c
    exact cmpbs_at (Bool.and_eq_true_iff.mp c).2 h k
def EqAll (X : Cx) (H : Hp) (s : Shared) (m : Nat) : Prop := ∀ (d e : D) (A : Around) (v y : V) (u u' : Value), A.units + m < cLine → dep d ≤ m → cmpb d e = true → Rp X.K H d v → Rp X.K H e y → RelV v u → RelV y u' → SeqAt.EqP X.prog X.w A s u u' (eqv d e)
theorem eq_items {m : Nat} (ih : EqAll X H s m) {ds es : List D} {vs ws : List V} {us ts : List Value} {A : Around} (hu : A.units + (m + 1) < cLine) (hd : deps ds ≤ m) (hc : cmpbs ds es = true) (h1 : Rps X.K H ds vs) (h2 : Rps X.K H es ws) (r1 : Vals vs us) (r2 : Vals ws ts) :
    ∀ j (k1 : j < us.toArray.size) (k2 : j < ts.toArray.size), SeqAt.EqP X.prog X.w A.in1 s us.toArray[j] ts.toArray[j] (pairEq ds es j) := fun j k1 k2 => by
  obtain ⟨d, v, e1, m1, q1, z1⟩ := h1.vals r1 (j := j) (by simpa using k1)
  obtain ⟨e, y, e2, m2, q2, z2⟩ := h2.vals r2 (j := j) (by simpa using k2)
  have q : pairEq ds es j = eqv d e := by unfold pairEq; rw [e1, e2]
  rw [q]
  have k := ih d e A.in1 v y _ _ (show A.units + 1 + m < cLine by omega) (deps_le hd m1) (cmpbs_at hc e1 e2) q1 q2 z1 z2
  simpa using k
theorem rc_lst (I : Inv X pins σ H s) {m : Nat} (ih : EqAll X H s m) {ds es : List D} {a b : Addr} {vs ws : List V} {A : Around} (hu : A.units + (m + 1) < cLine) (hd : deps ds ≤ m) (hc : cmpbs ds es = true) (k1 : SqL X.K H a vs) (h1 : Rps X.K H ds vs) (k2 : SqL X.K H b ws) (h2 : Rps X.K H es ws)
    (E Q : Value → Shared → Prop) (q : Q (.bool (eqvs ds es)) s) : wpAny (model X.prog X.w) A (richCompare .Eq (.ref a) (.ref b)) Q E s := by
  obtain ⟨us, r1, p1, _⟩ := I.list k1
  obtain ⟨ts, r2, p2, _⟩ := I.list k2
  have l1 := (Rps.len ds vs h1).symm.trans r1.length
  have l2 := (Rps.len es ws h2).symm.trans r2.length
  by_cases hl : ds.length = es.length
  · refine SeqAt.rcP_lists (e := pairEq ds es) p1.isList p2.isList (by rw [List.size_toArray, List.size_toArray]; omega) (by omega) (eq_items ih hu hd hc h1 h2 r1 r2) E Q ?_
    rw [List.size_toArray, ← l1, ← eqvs_pairs ds es hl]
    exact q
  · rw [eqvs_len ds es hl] at q
    exact SeqAt.RcAt.lists_lengths p1.isList p2.isList (by rw [List.size_toArray, List.size_toArray]; simp; omega) (by omega) X.prog X.w E Q q
theorem rcNe_lst (I : Inv X pins σ H s) {m : Nat} (ih : EqAll X H s m) {ds es : List D} {a b : Addr} {vs ws : List V} {A : Around} (hu : A.units + (m + 1) < cLine) (hd : deps ds ≤ m) (hc : cmpbs ds es = true) (k1 : SqL X.K H a vs) (h1 : Rps X.K H ds vs) (k2 : SqL X.K H b ws) (h2 : Rps X.K H es ws)
    (E Q : Value → Shared → Prop) (q : Q (.bool (!eqvs ds es)) s) : wpAny (model X.prog X.w) A (richCompare .NotEq (.ref a) (.ref b)) Q E s := by
  obtain ⟨us, r1, p1, _⟩ := I.list k1
  obtain ⟨ts, r2, p2, _⟩ := I.list k2
  have l1 := (Rps.len ds vs h1).symm.trans r1.length
  have l2 := (Rps.len es ws h2).symm.trans r2.length
  by_cases hl : ds.length = es.length
  · refine SeqAt.vl_rcNe (f := pairEq ds es) p1.isList p2.isList (by rw [List.size_toArray, List.size_toArray]; omega) (by omega) (eq_items ih hu hd hc h1 h2 r1 r2) E Q ?_
    rw [List.size_toArray, ← l1, ← eqvs_pairs ds es hl]
    exact q
  · rw [eqvs_len ds es hl] at q
    exact SeqAt.RcNeAt.lists_lengths p1.isList p2.isList (by rw [List.size_toArray, List.size_toArray]; simp; omega) (by omega) X.prog X.w E Q q
theorem all_min {ds es : List D} (n k : Nat) (h1 : n = ds.length) (h2 : k = es.length) : ((List.range (min n k)).all (pairEq ds es) && n == k) = eqvs ds es := by
  subst h1 h2
  by_cases hl : ds.length = es.length
  · rw [eqvs_pairs ds es hl, ← hl, Nat.min_self, beq_self_eq_true, Bool.and_true]
  · rw [eqvs_len ds es hl, beq_eq_false_iff_ne.mpr hl, Bool.and_false]
theorem rc_tup (I : Inv X pins σ H s) {m : Nat} (ih : EqAll X H s m) {ds es : List D} {a b : Addr} {vs ws : List V} {A : Around} (hu : A.units + (m + 1) < cLine) (hd : deps ds ≤ m) (hc : cmpbs ds es = true) (k1 : SqT X.K H a vs) (h1 : Rps X.K H ds vs) (k2 : SqT X.K H b ws) (h2 : Rps X.K H es ws)
    (E Q : Value → Shared → Prop) (q : Q (.bool (eqvs ds es)) s) : wpAny (model X.prog X.w) A (richCompare .Eq (.ref a) (.ref b)) Q E s := by
  obtain ⟨us, r1, p1, _⟩ := I.tuple k1
  obtain ⟨ts, r2, p2, _⟩ := I.tuple k2
  have l1 := (Rps.len ds vs h1).symm.trans r1.length
  have l2 := (Rps.len es ws h2).symm.trans r2.length
  refine SeqAt.rcIn_tuples (e := pairEq ds es) p1 p2 (by omega) (eq_items ih hu hd hc h1 h2 r1 r2) ?_
  rw [all_min (ds := ds) (es := es) _ _ (by rw [List.size_toArray]; exact l1.symm) (by rw [List.size_toArray]; exact l2.symm)]
  exact q
theorem hits_D {m : Nat} (ih : EqAll X H s m) {es : List (Key × D)} {ws : List (Key × V)} {kb : List (Key × Value)} (h2 : Rpk X.K H es ws) (r2 : KV ws kb) {A : Around} (hu : A.units + m < cLine) :
    ∀ (ds : List (Key × D)) (vs : List (Key × V)) (ka : List (Key × Value)), depk ds ≤ m → cmpbk ds es = true → Rpk X.K H ds vs → KV vs ka → PySem.W.KeqHitsP X.prog X.w A s kb ka (eqvk ds es)
  | [], _, ka, _, _, h, r => by
    unfold Rpk at h
    subst h
    cases r
    unfold eqvk
    exact .nil
  | (k, d) :: ds, _, ka, hd, hc, h, r => by
    unfold Rpk at h
    obtain ⟨v, t, e, a, b⟩ := h
    subst e
    cases r with
    | cons x y =>
      rename_i p ps
      obtain ⟨k', u⟩ := p
      obtain ⟨e1, ru⟩ := x
      have e1' : k = k' := e1
      subst e1'
      unfold depk at hd
      unfold cmpbk at hc
      obtain ⟨c1, c2⟩ := Bool.and_eq_true_iff.mp hc
      have z := Rpk.look es ws k h2
      have rr : RelO (valV ws k) (valueAt kb k) := r2.val k
      unfold eqvk
      cases hk : lookK es k with
      | none =>
        rw [hk] at z
        rw [z] at rr
        show PySem.W.KeqHitsP X.prog X.w A s kb ((k, u) :: ps) (false && eqvk ds es)
        rw [Bool.false_and]
        refine .miss ?_
        cases q : valueAt kb k with
        | none => rfl
        | some w => rw [q] at rr; exact rr.elim
      | some e =>
        rw [hk] at z c1
        obtain ⟨w, e2, r3⟩ := z
        rw [e2] at rr
        obtain ⟨y', hy, ry⟩ := rr.some_of
        show PySem.W.KeqHitsP X.prog X.w A s kb ((k, u) :: ps) (eqv d e && eqvk ds es)
        exact .hit hy (ih d e A v w u y' hu (by omega) c1 a r3 ru ry) (hits_D ih h2 r2 hu ds t ps (by omega) c2 b y)
theorem rc_dct (I : Inv X pins σ H s) {m : Nat} (ih : EqAll X H s m) {ds es : List (Key × D)} {a b : Addr} {vs ws : List (Key × V)} {A : Around} (hu : A.units + (m + 1) < cLine) (hd : depk ds ≤ m) (hc : cmpbk ds es = true) (k1 : Rd H a (.dK vs)) (h1 : Rpk X.K H ds vs) (k2 : Rd H b (.dK ws)) (h2 : Rpk X.K H es ws)
    (E Q : Value → Shared → Prop) (q : Q (.bool (ds.length == es.length && eqvk ds es)) s) : wpAny (model X.prog X.w) A (richCompare .Eq (.ref a) (.ref b)) Q E s := by
  obtain ⟨_, ya, va, ra, da⟩ := dk_rd I.hok k1
  obtain ⟨_, yb, vb, rb, db⟩ := dk_rd I.hok k2
  refine PySem.W.rcP_dicts (knd := mixKind X.prog X.w) (r := eqvk ds es) ya yb da db (by omega) (fun _ => hits_D ih h2 rb (show A.units + 1 + m < cLine by omega) ds vs va hd hc h1 ra) E Q ?_
  have e1 : va.length = ds.length := ra.length.symm.trans (Rpk.len ds vs h1)
  have e2 : vb.length = es.length := rb.length.symm.trans (Rpk.len es ws h2)
  rw [e1, e2]
  exact q
open SeqAt in
/-- == of two things of one's own, within n levels -/
theorem eqAll (I : Inv X pins σ H s) : ∀ n, EqAll X H s n
  | n, d, e, A, v, y, u, u', hu, hd, hc, h, k, r, t => by
    have ihh : ∀ m, n = m + 1 → EqAll X H s m := fun m hm => by subst hm; exact eqAll I m
    have hsame : ∀ a, v = .ref a → y = .ref a → EqP X.prog X.w A s u u' (eqv d e) := fun a e1 e2 => by
      subst e1
      subst e2
      cases r
      cases t
      rw [eqv_same I d e _ hc h k]
      exact (EqAt.same _).eqP
    cases d with
    | tupN _ => unfold cmpb at hc; cases hc
    | opq => unfold cmpb at hc; cases hc
    | non =>
      unfold Rp at h
      subst h
      cases r
      cases e with
      | tupN _ => unfold cmpb at hc; cases hc
      | opq => unfold cmpb at hc; cases hc
      | non => unfold Rp at k; subst k; cases t; unfold eqv; exact (EqAt.same _).eqP
      | bl b => unfold Rp at k; subst k; cases t; unfold eqv; exact (EqAt.none_bool _).eqP
      | int b => unfold Rp at k; subst k; obtain ⟨z, rfl⟩ := t; unfold eqv; exact (EqAt.none_int _ _).eqP
      | str b => unfold Rp at k; subst k; obtain ⟨z, rfl⟩ := t; unfold eqv; exact (EqAt.none_str _ _).eqP
      | lst b =>
        unfold Rp at k
        obtain ⟨a, vs, rfl, k1, _⟩ := k
        cases t
        obtain ⟨us, _, p1, _⟩ := I.list k1
        unfold eqv
        exact (EqAt.none_list p1.isList (by omega)).eqP
      | tup b =>
        unfold Rp at k
        obtain ⟨a, vs, rfl, k1, _⟩ := k
        cases t
        obtain ⟨us, _, p1, _⟩ := I.tuple k1
        unfold eqv
        exact (EqAt.none_tuple p1 (by omega)).eqP
      | dct b => unfold cmpb at hc; cases hc
    | bl b =>
      unfold Rp at h
      subst h
      cases r
      cases e with
      | non => unfold Rp at k; subst k; cases t; unfold eqv; exact (EqAt.bool_none _).eqP
      | bl b => unfold Rp at k; subst k; cases t; unfold eqv; exact (EqAt.bool_bool _ _).eqP
      | _ => unfold cmpb at hc; cases hc
    | int b =>
      unfold Rp at h
      subst h
      obtain ⟨z, rfl⟩ := r
      cases e with
      | non => unfold Rp at k; subst k; cases t; unfold eqv; exact (EqAt.int_none _ _).eqP
      | int b => unfold Rp at k; subst k; obtain ⟨z, rfl⟩ := t; unfold eqv; exact (EqAt.int_int _ _ _ _).eqP
      | _ => unfold cmpb at hc; cases hc
    | str b =>
      unfold Rp at h
      subst h
      obtain ⟨z, rfl⟩ := r
      cases e with
      | non => unfold Rp at k; subst k; cases t; unfold eqv; exact (EqAt.str_none _ _).eqP
      | str b => unfold Rp at k; subst k; obtain ⟨z, rfl⟩ := t; unfold eqv; exact (EqAt.str_str _ _ _ _).eqP
      | _ => unfold cmpb at hc; cases hc
    | lst ds =>
      have h0 := h
      unfold Rp at h
      obtain ⟨a, vs, e1, k1, q1⟩ := h
      unfold dep at hd
      cases e with
      | non =>
        subst e1
        cases r
        unfold Rp at k
        subst k
        cases t
        obtain ⟨us, _, p1, _⟩ := I.list k1
        unfold eqv
        exact (EqAt.list_none p1.isList (by omega)).eqP
      | lst es =>
        have k0 := k
        unfold Rp at k
        obtain ⟨b, ws, e2, k2, q2⟩ := k
        by_cases hab : a = b
        · subst hab
          exact hsame a e1 e2
        · subst e1
          subst e2
          cases r
          cases t
          match n, hd, hu, ihh with
          | m + 1, hd, hu, ihh =>
            unfold eqv
            unfold cmpb at hc
            exact eqP_refs hab fun E Q q => rc_lst I (ihh m rfl) hu (by omega) hc k1 q1 k2 q2 E Q q
      | _ => unfold cmpb at hc; cases hc
    | tup ds =>
      have h0 := h
      unfold Rp at h
      obtain ⟨a, vs, e1, k1, q1⟩ := h
      unfold dep at hd
      cases e with
      | non =>
        subst e1
        cases r
        unfold Rp at k
        subst k
        cases t
        obtain ⟨us, _, p1, _⟩ := I.tuple k1
        unfold eqv
        exact (EqAt.tuple_none p1 (by omega)).eqP
      | tup es =>
        have k0 := k
        unfold Rp at k
        obtain ⟨b, ws, e2, k2, q2⟩ := k
        by_cases hab : a = b
        · subst hab
          exact hsame a e1 e2
        · subst e1
          subst e2
          cases r
          cases t
          match n, hd, hu, ihh with
          | m + 1, hd, hu, ihh =>
            unfold eqv
            unfold cmpb at hc
            exact eqP_refs hab fun E Q q => rc_tup I (ihh m rfl) hu (by omega) hc k1 q1 k2 q2 E Q q
      | _ => unfold cmpb at hc; cases hc
    | dct ds =>
      have h0 := h
      unfold Rp at h
      obtain ⟨a, vs, e1, k1, q1⟩ := h
      unfold dep at hd
      cases e with
      | dct es =>
        have k0 := k
        unfold Rp at k
        obtain ⟨b, ws, e2, k2, q2⟩ := k
        by_cases hab : a = b
        · subst hab
          exact hsame a e1 e2
        · subst e1
          subst e2
          cases r
          cases t
          match n, hd, hu, ihh with
          | m + 1, hd, hu, ihh =>
            unfold eqv
            unfold cmpb at hc
            exact eqP_refs hab fun E Q q => rc_dct I (ihh m rfl) hu (by omega) hc k1 q1 k2 q2 E Q q
      | _ => unfold cmpb at hc; cases hc
end
end Vl

namespace PySem.SeqAt
open AutoSeq1 (wpAny_loadPart')
open MeetsSeq MeetsSeq2 MeetsSeq3
section
variable {prog : Program} {w : World}
theorem vl_tupNe (a c : Addr) (us ws : Array Value) (n1 n2 : Nat) (d1 d2 : Option Addr) (z1 z2 : Array (Option Value)) (f : Nat → Bool) :
    MeetsIn prog w (Builtin.«tuple.__ne__» ⟨[.ref a, .ref c], []⟩) (fun A R s =>
      s.heap.get? a = some { cls := .type "tuple", dict := d1, data := .seq us n1, slots := z1 } ∧ s.heap.get? c = some { cls := .type "tuple", dict := d2, data := .seq ws n2, slots := z2 } ∧
        (∀ j (k1 : j < us.size) (k2 : j < ws.size), EqP prog w A.in1 s us[j] ws[j] (f j)) ∧ R (.ok (.ret (.bool (!((List.range (min us.size ws.size)).all f && us.size == ws.size))))) s) :=
  .of_wp fun A R s hs => by
    obtain ⟨hp, g, d, tk, os⟩ := s
    obtain ⟨ha, hc, each, fin⟩ := hs
    have sub := AutoSeq1.sub_tuple_tuple
    have zl : (us.toList.zip ws.toList).length = min us.size ws.size := by simp
    wp_walk using wpAny_loadPart' ha, wpAny_loadPart' hc, wpAny_forIn_list _ (fun rest b t => b.1 = none ∧ t = ⟨hp, g, d, tk, os⟩ ∧ ∃ i, rest = (us.toList.zip ws.toList).drop i ∧
      R (.ok (.ret (.bool (!(((List.range (min us.size ws.size)).drop i).all f && us.size == ws.size))))) ⟨hp, g, d, tk, os⟩) _
    case turn =>
      rintro ⟨y, x⟩ rest b t ⟨hb, rfl, i, hz, hR⟩
      have lt : i < (us.toList.zip ws.toList).length := by
        rcases Nat.lt_or_ge i (us.toList.zip ws.toList).length with q | q
        · exact q
        · rw [List.drop_of_length_le q] at hz
          cases hz
      have lm : i < min us.size ws.size := zl ▸ lt
      have k1 : i < us.size := Nat.lt_of_lt_of_le lm (Nat.min_le_left _ _)
      have k2 : i < ws.size := Nat.lt_of_lt_of_le lm (Nat.min_le_right _ _)
      rw [List.drop_eq_getElem_cons lt] at hz
      injection hz with pair rest'
      have ey : y = us[i] := by
        have := congrArg Prod.fst pair
        simpa using this
      have ex : x = ws[i] := by
        have := congrArg Prod.snd pair
        simpa using this
      subst ey ex
      have step : (List.range (min us.size ws.size)).drop i = i :: (List.range (min us.size ws.size)).drop (i + 1) := by simp [List.drop_eq_getElem_cons, lm]
      rw [step, List.all_cons] at hR
      refine wpAny_bind (each i k1 k2 _ _ ?_)
      cases fi : f i with
      | true =>
        rw [fi] at hR
        wp_walk
        exact ⟨rfl, rfl, i + 1, rest', by simpa using hR⟩
      | false =>
        rw [fi] at hR
        wp_walk
        exact ⟨_, rfl, by simpa using hR⟩
    case fin =>
      rintro ⟨b1, b2⟩ t ⟨hb, rfl, i, hz, hR⟩
      simp only at hb
      subst hb
      have ge : min us.size ws.size ≤ i := by
        rcases Nat.lt_or_ge i (us.toList.zip ws.toList).length with q | q
        · rw [List.drop_eq_getElem_cons q] at hz
          cases hz
        · exact zl ▸ q
      rw [List.drop_of_length_le (by simpa using ge)] at hR
      wp_walk
      exact ⟨_, rfl, by simpa [Builtin.Tuple.tupleCompareSizes, bne] using hR⟩
    case h => exact ⟨rfl, rfl, 0, rfl, by simpa using fin⟩
theorem vl_rcNeT {A : Around} {s : Shared} {a c : Addr} {us ws : Array Value} {f : Nat → Bool} (ha : s.heap.IsTuple a us) (hc : s.heap.IsTuple c ws) (hu : A.units < cLine)
    (each : ∀ j (k1 : j < us.size) (k2 : j < ws.size), EqP prog w A.in1 s us[j] ws[j] (f j)) (E Q : Value → Shared → Prop) (fin : Q (.bool (!((List.range (min us.size ws.size)).all f && us.size == ws.size))) s) : wpAny (model prog w) A (richCompare .NotEq (.ref a) (.ref c)) Q E s := by
  obtain ⟨⟨c1, d1, t1, z1⟩, o1, e1, n1, q1⟩ := id ha
  obtain ⟨⟨c2, d2, t2, z2⟩, o2, e2, n2, q2⟩ := id hc
  simp only at e1 q1 e2 q2
  subst e1 q1 e2 q2
  have ta : s.TypeIs (.ref a) "tuple" := ⟨_, o1, rfl⟩
  have tc : s.TypeIs (.ref c) "tuple" := ⟨_, o2, rfl⟩
  have no : Value.bool (!((List.range (min us.size ws.size)).all f && us.size == ws.size)) ≠ Value.notImplemented := fun z => nomatch z
  exact wpAny_richCompare_same_room (op := .NotEq) ta tc F.slot_tuple_ne (call_meetsIn F.slot_tuple_ne ta F.entry_tuple_ne (F.args_tuple_ne_2 _ _) (vl_tupNe a c us ws n1 n2 d1 d2 z1 z2 f) ⟨o1, o2, each, show _ ∧ _ from ⟨no, fin⟩⟩) hu
end
end PySem.SeqAt

namespace Vl
open PySem PySem.Spec PyProof.Rows L2
section
variable {X : Cx} {pins : List (Addr × Obj)} {σ : L2.St} {H : Hp} {s : Shared}
theorem rcNe_tup (I : Inv X pins σ H s) {m : Nat} (ih : EqAll X H s m) {ds es : List D} {a b : Addr} {vs ws : List V} {A : Around} (hu : A.units + (m + 1) < cLine) (hd : deps ds ≤ m) (hc : cmpbs ds es = true) (k1 : SqT X.K H a vs) (h1 : Rps X.K H ds vs) (k2 : SqT X.K H b ws) (h2 : Rps X.K H es ws)
    (E Q : Value → Shared → Prop) (q : Q (.bool (!eqvs ds es)) s) : wpAny (model X.prog X.w) A (richCompare .NotEq (.ref a) (.ref b)) Q E s := by
  obtain ⟨us, r1, p1, _⟩ := I.tuple k1
  obtain ⟨ts, r2, p2, _⟩ := I.tuple k2
  have l1 := (Rps.len ds vs h1).symm.trans r1.length
  have l2 := (Rps.len es ws h2).symm.trans r2.length
  refine SeqAt.vl_rcNeT (f := pairEq ds es) p1 p2 (by omega) (eq_items ih hu hd hc h1 h2 r1 r2) E Q ?_
  rw [all_min (ds := ds) (es := es) _ _ (by rw [List.size_toArray]; exact l1.symm) (by rw [List.size_toArray]; exact l2.symm)]
  exact q
def rEqG (K : PySem.W.Frag) : R2 := fun x y H Q => ∃ d e, Rp K H d x ∧ Rp K H e y ∧ dep d ≤ 60 ∧ cmpb d e = true ∧ Q (.bl (eqv d e)) H
def rNeG (K : PySem.W.Frag) : R2 := fun x y H Q => ∃ d e, Rp K H d x ∧ Rp K H e y ∧ dep d ≤ 60 ∧ cmpb d e = true ∧ (∀ ks, d ≠ .dct ks) ∧ Q (.bl (!eqv d e)) H
open SeqAt in
theorem op_eqG (hu : X.A.units + 64 < cLine) : OpR X (compareOp .Eq) (rEqG X.K) := by
  intro pins s σ H x y u t Q I rx ry h
  obtain ⟨d, e, h, k, hd, hc, q⟩ := h
  have fin : EP X pins σ Q (.bool (eqv d e)) s := ⟨.bl (eqv d e), H, I, rfl, q⟩
  cases d with
  | tupN b => unfold cmpb at hc; cases hc
  | opq => unfold cmpb at hc; cases hc
  | non =>
    unfold Rp at h
    subst h
    cases rx
    cases e with
    | non => unfold Rp at k; subst k; cases ry; unfold eqv at fin; exact RcAt.none_none _ _ _ _ fin
    | bl b => unfold Rp at k; subst k; cases ry; unfold eqv at fin; exact RcAt.none_bool _ _ _ _ _ fin
    | int b => unfold Rp at k; subst k; obtain ⟨z, rfl⟩ := ry; unfold eqv at fin; exact RcAt.none_int _ _ _ _ _ _ fin
    | str b => unfold Rp at k; subst k; obtain ⟨z, rfl⟩ := ry; unfold eqv at fin; exact RcAt.none_str _ _ _ _ _ _ fin
    | lst b =>
      unfold Rp at k
      obtain ⟨a, vs, rfl, k1, _⟩ := k
      cases ry
      obtain ⟨us, _, p1, _⟩ := I.list k1
      unfold eqv at fin
      exact RcAt.none_list p1.isList (by omega) _ _ _ _ fin
    | tup b =>
      unfold Rp at k
      obtain ⟨a, vs, rfl, k1, _⟩ := k
      cases ry
      obtain ⟨us, _, p1, _⟩ := I.tuple k1
      unfold eqv at fin
      exact RcAt.none_tuple p1 (by omega) _ _ _ _ fin
    | dct b => unfold cmpb at hc; cases hc
    | tupN b => unfold cmpb at hc; cases hc
    | opq => unfold cmpb at hc; cases hc
  | bl b =>
    unfold Rp at h
    subst h
    cases rx
    cases e with
    | non => unfold Rp at k; subst k; cases ry; unfold eqv at fin; exact RcAt.bool_none _ _ _ _ _ fin
    | bl b => unfold Rp at k; subst k; cases ry; unfold eqv at fin; exact RcAt.bool_bool _ _ _ _ _ _ fin
    | _ => unfold cmpb at hc; cases hc
  | int b =>
    unfold Rp at h
    subst h
    obtain ⟨z, rfl⟩ := rx
    cases e with
    | non => unfold Rp at k; subst k; cases ry; unfold eqv at fin; exact RcAt.int_none _ _ _ _ _ _ fin
    | int b => unfold Rp at k; subst k; obtain ⟨z, rfl⟩ := ry; unfold eqv at fin; exact RcAt.int_int _ _ _ _ _ _ _ _ fin
    | _ => unfold cmpb at hc; cases hc
  | str b =>
    unfold Rp at h
    subst h
    obtain ⟨z, rfl⟩ := rx
    cases e with
    | non => unfold Rp at k; subst k; cases ry; unfold eqv at fin; exact RcAt.str_none _ _ _ _ _ _ fin
    | str b => unfold Rp at k; subst k; obtain ⟨z, rfl⟩ := ry; unfold eqv at fin; exact RcAt.str_str _ _ _ _ _ _ _ _ fin
    | _ => unfold cmpb at hc; cases hc
  | lst ds =>
    unfold Rp at h
    obtain ⟨a, vs, rfl, k1, q1⟩ := h
    cases rx
    unfold dep at hd
    cases e with
    | non =>
      unfold Rp at k
      subst k
      cases ry
      obtain ⟨us, _, p1, _⟩ := I.list k1
      unfold eqv at fin
      exact RcAt.list_none p1.isList (by omega) _ _ _ _ fin
    | lst es =>
      unfold Rp at k
      obtain ⟨b, ws, rfl, k2, q2⟩ := k
      cases ry
      unfold eqv at fin
      unfold cmpb at hc
      exact rc_lst I (eqAll I 60) (by omega) (by omega) hc k1 q1 k2 q2 _ _ fin
    | _ => unfold cmpb at hc; cases hc
  | tup ds =>
    unfold Rp at h
    obtain ⟨a, vs, rfl, k1, q1⟩ := h
    cases rx
    unfold dep at hd
    cases e with
    | non =>
      unfold Rp at k
      subst k
      cases ry
      obtain ⟨us, _, p1, _⟩ := I.tuple k1
      unfold eqv at fin
      exact RcAt.tuple_none p1 (by omega) _ _ _ _ fin
    | tup es =>
      unfold Rp at k
      obtain ⟨b, ws, rfl, k2, q2⟩ := k
      cases ry
      unfold eqv at fin
      unfold cmpb at hc
      exact rc_tup I (eqAll I 60) (by omega) (by omega) hc k1 q1 k2 q2 _ _ fin
    | _ => unfold cmpb at hc; cases hc
  | dct ds =>
    unfold Rp at h
    obtain ⟨a, vs, rfl, k1, q1⟩ := h
    cases rx
    unfold dep at hd
    cases e with
    | dct es =>
      unfold Rp at k
      obtain ⟨b, ws, rfl, k2, q2⟩ := k
      cases ry
      unfold eqv at fin
      unfold cmpb at hc
      exact rc_dct I (eqAll I 60) (by omega) (by omega) hc k1 q1 k2 q2 _ _ fin
    | _ => unfold cmpb at hc; cases hc
open SeqAt in
theorem op_neG (hu : X.A.units + 64 < cLine) : OpR X (compareOp .NotEq) (rNeG X.K) := by
  intro pins s σ H x y u t Q I rx ry h
  obtain ⟨d, e, h, k, hd, hc, hnd, q⟩ := h
  have fin : EP X pins σ Q (.bool (!eqv d e)) s := ⟨.bl (!eqv d e), H, I, rfl, q⟩
  cases d with
  | tupN b => unfold cmpb at hc; cases hc
  | opq => unfold cmpb at hc; cases hc
  | non =>
    unfold Rp at h
    subst h
    cases rx
    cases e with
    | non => unfold Rp at k; subst k; cases ry; unfold eqv at fin; exact RcNeAt.none_none _ _ _ _ fin
    | bl b => unfold Rp at k; subst k; cases ry; unfold eqv at fin; exact RcNeAt.none_bool _ _ _ _ _ fin
    | int b => unfold Rp at k; subst k; obtain ⟨z, rfl⟩ := ry; unfold eqv at fin; exact RcNeAt.none_int _ _ _ _ _ _ fin
    | str b => unfold Rp at k; subst k; obtain ⟨z, rfl⟩ := ry; unfold eqv at fin; exact RcNeAt.none_str _ _ _ _ _ _ fin
    | lst b =>
      unfold Rp at k
      obtain ⟨a, vs, rfl, k1, _⟩ := k
      cases ry
      obtain ⟨us, _, p1, _⟩ := I.list k1
      unfold eqv at fin
      exact RcNeAt.none_list p1.isList (by omega) _ _ _ _ fin
    | tup b =>
      unfold Rp at k
      obtain ⟨a, vs, rfl, k1, _⟩ := k
      cases ry
      obtain ⟨us, _, p1, _⟩ := I.tuple k1
      unfold eqv at fin
      exact RcNeAt.none_tuple p1 (by omega) _ _ _ _ fin
    | dct b => unfold cmpb at hc; cases hc
    | tupN b => unfold cmpb at hc; cases hc
    | opq => unfold cmpb at hc; cases hc
  | bl b =>
    unfold Rp at h
    subst h
    cases rx
    cases e with
    | non => unfold Rp at k; subst k; cases ry; unfold eqv at fin; exact RcNeAt.bool_none _ _ _ _ _ fin
    | bl b => unfold Rp at k; subst k; cases ry; unfold eqv at fin; exact RcNeAt.bool_bool _ _ _ _ _ _ fin
    | _ => unfold cmpb at hc; cases hc
  | int b =>
    unfold Rp at h
    subst h
    obtain ⟨z, rfl⟩ := rx
    cases e with
    | non => unfold Rp at k; subst k; cases ry; unfold eqv at fin; exact RcNeAt.int_none _ _ _ _ _ _ fin
    | int b => unfold Rp at k; subst k; obtain ⟨z, rfl⟩ := ry; unfold eqv at fin; exact RcNeAt.int_int _ _ _ _ _ _ _ _ fin
    | _ => unfold cmpb at hc; cases hc
  | str b =>
    unfold Rp at h
    subst h
    obtain ⟨z, rfl⟩ := rx
    cases e with
    | non => unfold Rp at k; subst k; cases ry; unfold eqv at fin; exact RcNeAt.str_none _ _ _ _ _ _ fin
    | str b => unfold Rp at k; subst k; obtain ⟨z, rfl⟩ := ry; unfold eqv at fin; exact RcNeAt.str_str _ _ _ _ _ _ _ _ fin
    | _ => unfold cmpb at hc; cases hc
  | lst ds =>
    unfold Rp at h
    obtain ⟨a, vs, rfl, k1, q1⟩ := h
    cases rx
    unfold dep at hd
    cases e with
    | non =>
      unfold Rp at k
      subst k
      cases ry
      obtain ⟨us, _, p1, _⟩ := I.list k1
      unfold eqv at fin
      exact RcNeAt.list_none p1.isList (by omega) _ _ _ _ fin
    | lst es =>
      unfold Rp at k
      obtain ⟨b, ws, rfl, k2, q2⟩ := k
      cases ry
      unfold eqv at fin
      unfold cmpb at hc
      exact rcNe_lst I (eqAll I 60) (by omega) (by omega) hc k1 q1 k2 q2 _ _ fin
    | _ => unfold cmpb at hc; cases hc
  | tup ds =>
    unfold Rp at h
    obtain ⟨a, vs, rfl, k1, q1⟩ := h
    cases rx
    unfold dep at hd
    cases e with
    | non =>
      unfold Rp at k
      subst k
      cases ry
      obtain ⟨us, _, p1, _⟩ := I.tuple k1
      unfold eqv at fin
      exact RcNeAt.tuple_none p1 (by omega) _ _ _ _ fin
    | tup es =>
      unfold Rp at k
      obtain ⟨b, ws, rfl, k2, q2⟩ := k
      cases ry
      unfold eqv at fin
      unfold cmpb at hc
      exact rcNe_tup I (eqAll I 60) (by omega) (by omega) hc k1 q1 k2 q2 _ _ fin
    | _ => unfold cmpb at hc; cases hc
  | dct ds => exact absurd rfl (hnd ds)
end
def notDct (d : D) : Bool := match d with
  | .dct _ => false
  | _ => true
/-- a == b, a != b -/
def gEq (neg : Bool) : G2 := fun o1 o2 post => dep o1.toD ≤ 60 ∧ cmpb o1.toD o2.toD = true ∧ (neg = true → notDct o1.toD = true) ∧ post (.pu (.bl (if neg then !eqv o1.toD o2.toD else eqv o1.toD o2.toD)))
theorem sr_eq {K : PySem.W.Frag} : SndR2 K (rEqG K) (gEq false) := fun φ e σ G H o1 o2 v1 v2 post Q R a1 a2 p q =>
  ⟨o1.toD, o2.toD, a1.rp R.sub, a2.rp R.sub, p.1, p.2.1, q _ _ G H p.2.2.2 (R.consPu rp_bl)⟩
theorem sr_ne {K : PySem.W.Frag} : SndR2 K (rNeG K) (gEq true) := fun φ e σ G H o1 o2 v1 v2 post Q R a1 a2 p q =>
  ⟨o1.toD, o2.toD, a1.rp R.sub, a2.rp R.sub, p.1, p.2.1, fun ks z => (by have h := p.2.2.1 rfl; rw [z] at h; cases h), q _ _ G H p.2.2.2 (R.consPu rp_bl)⟩
end Vl

namespace Vl
open PySem PySem.Spec PyProof.Rows L2

/-! ### slices -/
abbrev WO := XP → Env → (Option Int → Env → Prop) → Prop
def SndO (K : PySem.W.Frag) (to : TO) (t : WO) : Prop := ∀ φ e σ G H x (post : Option Int → Env → Prop) (Q : Option Int → Hp → Prop), Rel K φ e σ G H → ExOk K φ x → t x e post →
  (∀ o e' G' H', post o e' → Rel K φ e' σ G' H' → Q o H') → to σ H Q
structure VO (X : Cx) (e : Option Expr) (to : TO) (t : WO) : Prop where
  po : PO X e to
  snd : SndO X.K to t
def voNone : WO := fun _ e post => post none e
def voSome (a : WE) : WO := fun x e post => a x e fun o e1 => onI o fun i => post (some i) e1
def cut {α : Type} (xs : List α) (lo hi : Option Int) : List α := (xs.drop (HT.sIx xs.length 0 lo)).take (HT.sIx xs.length xs.length hi - HT.sIx xs.length 0 lo)
def gSl (o : O) (lo hi : Option Int) (post : O → Prop) : Prop := match o with
  | .pu (.lst ds) => ∀ p, post (.ls p (cut ds lo hi))
  | .ls _ ds => ∀ p, post (.ls p (cut ds lo hi))
  | .pu (.tup ds) => post (.pu (.tup (cut ds lo hi)))
  | .pu (.str z) => z.length ≤ sizeLine ∧ post (.pu (.str (cutS z lo hi)))
  | _ => False
def vSl (qa : WQ) (wl wh : WO) : WE := fun x e post => qa x e fun q e1 => wl x e1 fun lo e2 => wh x e2 fun hi e3 => onO q e3 fun o => gSl o lo hi fun r => post r e3
def rSlAll (K : PySem.W.Frag) : V → Option Int → Option Int → Hp → VK → Prop := fun x lo hi H Q => rSlL K x lo hi H Q ∨ rSlA K x lo hi H Q ∨ rSlS x lo hi H Q
theorem sl_all {X : Cx} : SlR X (rSlAll X.K) := sl_list.or (sl_tupA.or sl_str)
theorem snd_onone {K : PySem.W.Frag} : SndO K tNoPart voNone := fun φ e σ G H x post Q R X t q => q none e G H t R
theorem snd_osome {K : PySem.W.Frag} {te : TE} {a : WE} (h : SndE K te a) : SndO K (tPart te) (voSome a) := fun φ e σ G H x post Q R X t q =>
  h φ e σ G H x _ _ R X t fun o e1 v G1 H1 p R1 => by
    obtain ⟨i, rfl, p⟩ := onI_iff.mp p
    exact ⟨i, R1.headOAt.int, q _ e1 G1 H1 p R1.tail⟩
theorem cut_all {α : Type} {xs : List α} {lo hi : Option Int} (h : HT.sIx xs.length 0 lo = 0 ∧ HT.sIx xs.length xs.length hi = xs.length) : cut xs lo hi = xs := by
  unfold cut
  rw [h.1, h.2]
  simp
theorem snd_sl {K : PySem.W.Frag} {te : TE} {qa : WQ} {tl th : TO} {wl wh : WO} (ha : SndQ K te qa) (hl : SndO K tl wl) (hh : SndO K th wh) : SndE K (tSl (rSlAll K) te tl th) (vSl qa wl wh) := fun φ e σ G H x post Q R X t q => by
  refine ha φ e σ G H x _ _ R X t fun q1 e1 v1 G1 H1 p1 R1 k1 => ?_
  have F := Rel.frame (ts := [q1.slot]) (vs := [some v1]) R1 rfl
  refine hl _ e1 σ G1 H1 x _ _ F.1 (ExOk.frame (ts := [q1.slot]) (vs := [some v1]) X R1 rfl) p1 fun lo e2 G2 H2 p2 R2 => ?_
  have R2' := F.2 _ _ _ _ R2
  have F2 := Rel.frame (ts := [q1.slot]) (vs := [some v1]) R2' rfl
  refine hh _ e2 σ G2 H2 x _ _ F2.1 (ExOk.frame (ts := [q1.slot]) (vs := [some v1]) X R2' rfl) p2 fun hi e3 G3 H3 p3 R3 => ?_
  have R4 := F2.2 _ _ _ _ R3
  obtain ⟨o, g, p⟩ := onO_iff.mp p3
  have a1 := Rel.opnd R4 k1 g
  have R5 := Rel.tail R4
  unfold gSl at p
  split at p
  · obtain ⟨a, vs, rfl, hs, hv⟩ := a1.lst R5.sub (.inl rfl)
    refine .inl ⟨a, vs, rfl, hs, fun p' hp => q _ e3 _ _ _ (p p') (R5.newLs hp ?_)⟩
    unfold cutV cut
    rw [Rps.len _ vs hv]
    exact Rps.take _ _ _ (Rps.drop _ _ _ hv)
  · obtain ⟨a, vs, rfl, hs, hv⟩ := a1.lst R5.sub (.inr ⟨_, rfl⟩)
    refine .inl ⟨a, vs, rfl, hs, fun p' hp => q _ e3 _ _ _ (p p') (R5.newLs hp ?_)⟩
    unfold cutV cut
    rw [Rps.len _ vs hv]
    exact Rps.take _ _ _ (Rps.drop _ _ _ hv)
  · rename_i ds
    obtain ⟨a, vs, rfl, hs, hv⟩ := a1.tup R5.sub
    have hl := Rps.len _ vs hv
    refine .inr (.inl ⟨a, vs, rfl, hs, fun hw => ?_, fun hw p' hp => ?_⟩)
    · rw [hl] at hw
      rw [cut_all hw] at p
      unfold OAt at a1
      exact q _ e3 _ _ _ p (R5.consPu a1)
    · refine q _ e3 _ _ _ p (R5.newTup hp ?_)
      unfold cutV cut
      rw [hl]
      exact Rps.take _ _ _ (Rps.drop _ _ _ hv)
  · exact .inr (.inr ⟨_, a1.str, p.1, q _ e3 _ _ _ p.2 (R5.consPu rp_str)⟩)
  · exact p.elim
section
variable {X : Cx} {a : Expr} {lo hi : Option Expr} {ta : TE} {qa : WQ} {tl th : TO} {wl wh : WO} {pos p2 : Pos}
theorem vo_none : VO X none tNoPart voNone := ⟨po_none, snd_onone⟩
theorem vo_some {e : Expr} {te : TE} {t : WE} (h : VE X e te t) : VO X (some e) (tPart te) (voSome t) := ⟨po_some h.pe, snd_osome h.snd⟩
end

/-! ### arguments that are read -/
def vaNil : WA := fun _ e post => post [] e
def vaCons (a : WQ) (r : WA) : WA := fun x e post => a x e fun q e1 => r x e1 fun qs e2 => post (q :: qs) e2
theorem snd_anil {K : PySem.W.Frag} : SndA K tNil vaNil := fun φ e σ G H x post Q R X t q => q [] e [] G H t R .nil
theorem snd_acons {K : PySem.W.Frag} {te : TE} {a : WQ} {ta : TA} {r : WA} (h : SndQ K te a) (k : SndA K ta r) : SndA K (tCons te ta) (vaCons a r) := fun φ e σ G H x post Q R X t q => by
  refine h φ e σ G H x _ _ R X t fun q1 e1 v1 G1 H1 p1 R1 k1 => ?_
  have F := Rel.frame (ts := [q1.slot]) (vs := [some v1]) R1 rfl
  refine k _ e1 σ G1 H1 x _ _ F.1 (ExOk.frame (ts := [q1.slot]) (vs := [some v1]) X R1 rfl) p1 fun qs e2 vs G2 H2 p2 R2 k2 => ?_
  exact q (q1 :: qs) e2 (v1 :: vs) G2 H2 p2 (F.2 _ _ _ _ R2) (.cons k1 k2)
theorem va_nil {X : Cx} : VA X [] tNil vaNil := ⟨pa_nil, snd_anil⟩
theorem va_cons {X : Cx} {e : Expr} {es : List Expr} {te : TE} {t : WQ} {ta : TA} {r : WA} (h : VQ X e te t) (k : VA X es ta r) (hs : starEach (e :: es) X.env = (false, eval e X.env) :: starEach es X.env := by rfl) : VA X (e :: es) (tCons te ta) (vaCons t r) := ⟨pa_cons h.pe k.pa hs, snd_acons h.snd k.snd⟩
def onOs : List Opnd → Env → (List O → Prop) → Prop
  | [], _, k => k []
  | q :: qs, e, k => onO q e fun o => onOs qs e fun os => k (o :: os)
section
variable {K : PySem.W.Frag} {φ : Fx} {e : Env} {σ : L2.St} {G H : Hp}
theorem Rel.untemps : ∀ (qs : List Opnd) (vs : List V), Rel K φ (qs.map Opnd.slot ++ e) (vs.map some ++ σ) G H → Paired (fun q v => Opnd.ok σ v q) qs vs → Rel K φ e σ G H
  | [], _, R, .nil => R
  | q :: qs, _, R, .cons _ t => Rel.untemps qs _ (Rel.tail (o := q.slot) R) t
theorem Rel.opnds : ∀ (qs : List Opnd) (vs : List V) (k : List O → Prop), Rel K φ (qs.map Opnd.slot ++ e) (vs.map some ++ σ) G H → Paired (fun q v => Opnd.ok σ v q) qs vs → onOs qs e k → ∃ os, Paired (OAt K G H) os vs ∧ k os
  | [], _, k, R, .nil, h => ⟨[], .nil, h⟩
  | q :: qs, v :: vs, k, R, .cons hq t, h => by
    unfold onOs at h
    obtain ⟨o, g, h⟩ := onO_iff.mp h
    have R1 : Rel K φ (q.slot :: (qs.map Opnd.slot ++ e)) (some v :: (vs.map some ++ σ)) G H := R
    obtain ⟨os, z, hk⟩ := Rel.opnds qs vs _ R1.tail t h
    refine ⟨o :: os, .cons ?_ z, hk⟩
    cases q with
    | val o' => cases g; exact R1.headOAt
    | pl i =>
      obtain ⟨w, h1, h2⟩ := (Rel.untemps qs vs R1.tail t).get (eget_some.mp g)
      have h' : σ[i]? = some (some v) := hq
      rw [h'] at h1
      cases h1
      exact h2
end
/-- a built-in's call -/
def vCB (g : GN) (wa : WA) : WE := fun x e post => wa x e fun qs e1 => onOs qs e1 fun os => g os fun o => post o e1
theorem snd_cb {K : PySem.W.Frag} {r : List V → Hp → VK → Prop} {g : GN} {ta : TA} {wa : WA} (ha : SndA K ta wa) (hr : SndRN K r g) : SndE K (tCB r ta) (vCB g wa) := fun φ e σ G H x post Q R X t q => by
  refine ha φ e σ G H x _ _ R X t fun qs e1 vs G1 H1 p1 R1 k1 => ?_
  obtain ⟨os, z, p⟩ := Rel.opnds qs vs _ R1 k1 p1
  exact hr φ e1 σ G1 H1 os vs _ Q (Rel.untemps qs vs R1 k1) z p fun o v G' H' pd rd => q o e1 v G' H' pd rd
section
variable {X : Cx} {x : Str} {p pos : Pos} {e : Expr} {es : List Expr} {t : TA} {wa : WA} {id T : String} {r : List V → Hp → VK → Prop} {g : GN}
theorem ve_callB (hc : CallR X (.builtin id) r) (hr : SndRN X.K r g) (hg : Gl X x) (hm : X.mg x = none) (hv : bootBuiltins x = some (.builtin id)) (ha : VA X (e :: es) t wa) (hn : x ≠ "__name__" := by decide) (hdb : (x == ("__debug__" : Str)) = false := by decide)
    (he : starEach (e :: es) X.env = (false, eval e X.env) :: starEach es X.env := by rfl) (hpl : (backTo pos (starEach es X.env)).any (·.1) = false := by rfl) : VE X (.Call (.Name x p) (e :: es) [] pos) (tCB r t) (vCB g wa) := ⟨pe_callB hc hg hm hv ha.pa hn hdb he hpl, snd_cb ha.snd hr⟩
theorem ve_callTy (hc : CallR X (.type T) r) (hr : SndRN X.K r g) (hg : Gl X x) (hm : X.mg x = none) (hv : bootBuiltins x = some (.type T)) (ha : VA X (e :: es) t wa) (hn : x ≠ "__name__" := by decide) (hdb : (x == ("__debug__" : Str)) = false := by decide)
    (he : starEach (e :: es) X.env = (false, eval e X.env) :: starEach es X.env := by rfl) (hpl : (backTo pos (starEach es X.env)).any (·.1) = false := by rfl) : VE X (.Call (.Name x p) (e :: es) [] pos) (tCB r t) (vCB g wa) := ⟨pe_callTy hc hg hm hv ha.pa hn hdb he hpl, snd_cb ha.snd hr⟩
end
/-! ### len, list, tuple, abs, int, min, max, sum, any, all -/
def g1 (g : G1) : GN := fun os post => match os with
  | [o] => g o post
  | _ => False
def g2 (g : G2) : GN := fun os post => match os with
  | [a, b] => g a b post
  | _ => False
theorem snd_g1 {K : PySem.W.Frag} {r : List V → Hp → VK → Prop} {g : G1} (h : SndR1 K (fun v H Q => r [v] H Q) g) : SndRN K r (g1 g) := fun φ e σ G H os vs post Q R z p q => by
  unfold g1 at p
  split at p
  · cases z with
    | cons a b =>
      cases b
      exact h φ e σ G H _ _ post Q R a p q
  · exact p.elim
theorem snd_g2 {K : PySem.W.Frag} {r : List V → Hp → VK → Prop} {g : G2} (h : SndR2 K (fun v u H Q => r [v, u] H Q) g) : SndRN K r (g2 g) := fun φ e σ G H os vs post Q R z p q => by
  unfold g2 at p
  split at p
  · cases z with
    | cons a b =>
      cases b with
      | cons c d =>
        cases d
        exact h φ e σ G H _ _ _ _ post Q R a c p q
  · exact p.elim
theorem CallR.or {X : Cx} {f : Value} {r r' : List V → Hp → VK → Prop} (h : CallR X f r) (k : CallR X f r') : CallR X f (fun vs H Q => r vs H Q ∨ r' vs H Q) := fun pins s σ H vs us Q I rv w => w.elim (h pins s σ H vs us Q I rv) (k pins s σ H vs us Q I rv)
def rLenD : List V → Hp → VK → Prop := fun xs H Q => ∃ a kvs, xs = [V.ref a] ∧ Rd H a (.dK kvs) ∧ Q (.int kvs.length) H
theorem call_lenRd {X : Cx} : CallR X (.builtin "len") rLenD := by
  intro pins s σ H xs us Q I r h
  obtain ⟨a, kvs, rfl, ha, q⟩ := h
  obtain ⟨u, rfl, ru⟩ := vals1 r
  obtain rfl : u = Value.ref a := ru
  exact d_len I ha fun t s' I' => ⟨.int kvs.length, H, I', ⟨t, rfl⟩, q⟩
def gLen : G1 := fun o post => match o with
  | .pu (.lst ds) => post (.pu (.int ds.length))
  | .ls _ ds => post (.pu (.int ds.length))
  | .pu (.tup ds) => post (.pu (.int ds.length))
  | .pu (.str z) => z.length ≤ sizeLine ∧ post (.pu (.int z.length))
  | .pu (.dct ds) => post (.pu (.int ds.length))
  | .dc _ ds => post (.pu (.int ds.length))
  | _ => False
def rLenA (K : PySem.W.Frag) : List V → Hp → VK → Prop := fun xs H Q => (∃ x n, xs = [x] ∧ LenV K x H n ∧ Q (.int n) H) ∨ rLenD xs H Q
theorem call_lenA {X : Cx} : CallR X (.builtin "len") (rLenA X.K) := CallR.or call_len call_lenRd
theorem sr_len {K : PySem.W.Frag} : SndRN K (rLenA K) (g1 gLen) := snd_g1 fun φ e σ G H o1 v1 post Q R a p q => by
  unfold gLen at p
  split at p
  · obtain ⟨l, vs, rfl, hs, hv⟩ := a.lst R.sub (.inl rfl)
    exact .inl ⟨_, _, rfl, .inl ⟨vs, hs, (Rps.len _ vs hv).symm⟩, q _ _ G H p (R.consPu rp_int)⟩
  · obtain ⟨l, vs, rfl, hs, hv⟩ := a.lst R.sub (.inr ⟨_, rfl⟩)
    exact .inl ⟨_, _, rfl, .inl ⟨vs, hs, (Rps.len _ vs hv).symm⟩, q _ _ G H p (R.consPu rp_int)⟩
  · obtain ⟨l, vs, rfl, hs, hv⟩ := a.tup R.sub
    exact .inl ⟨_, _, rfl, .inr ⟨vs, hs, (Rps.len _ vs hv).symm⟩, q _ _ G H p (R.consPu rp_int)⟩
  · cases a.str
    exact .inl ⟨_, _, rfl, ⟨p.1, rfl⟩, q _ _ G H p.2 (R.consPu rp_int)⟩
  · obtain ⟨l, vs, rfl, hs, hv⟩ := a.dct R.sub (.inl rfl)
    exact .inr ⟨_, vs, rfl, hs, by rw [Rpk.len _ vs hv]; exact q _ _ G H p (R.consPu rp_int)⟩
  · obtain ⟨l, vs, rfl, hs, hv⟩ := a.dct R.sub (.inr ⟨_, rfl⟩)
    exact .inr ⟨_, vs, rfl, hs, by rw [Rpk.len _ vs hv]; exact q _ _ G H p (R.consPu rp_int)⟩
  · exact p.elim
def rListRd : List V → Hp → VK → Prop := fun xs H Q => ∃ p kvs, xs = [.ref p] ∧ Rd H p (.dK kvs) ∧ ∀ q, H q = none → Q (.ref q) (upd H q (.lst (kvs.map fun kv => kV kv.1)))
theorem call_listRd {X : Cx} (hc : X.calm = true) : CallR X (.type "list") rListRd := by
  intro pins s σ H xs us Q I r h
  obtain ⟨p, kvs, rfl, hk, q⟩ := h
  obtain ⟨u, rfl, rx⟩ := vals1 r
  obtain rfl : u = Value.ref p := rx
  obtain ⟨z, lo, ws, rk, hd⟩ := dk_rd I.hok hk
  obtain ⟨ep, hat⟩ := hd.dictAt
  have hl : kvs.length = ws.length := Paired.length rk
  refine PySem.W.kdl_call (PySem.W.kdl_dict (knd := mixKind X.prog X.w) (kvs := ws) (ep := ep) lo) (I.ok.hd hc) hat (by rw [← hl]; exact z) fun h' tk acc c keep at1 items => ?_
  have new : ObjOk X.prog X.w (upd H s.heap.objs.size (.lst (kvs.map fun kv => kV kv.1))) h' s.heap.objs.size (.lst (kvs.map fun kv => kV kv.1)) := by
    refine ⟨by rw [List.length_map]; exact z, acc.toList, c, ?_, ?_⟩
    · have el : acc.toList.length = acc.size := by simp
      refine vals_of_at (by rw [List.length_map, el, items.1, hl]) fun j x w h1 h2 => ?_
      obtain ⟨k, y, hky, hi⟩ := items.2 j w (by rw [← Array.getElem?_toList]; exact h2)
      have e1 : (kvs.map (·.1))[j]? = some k := by rw [L2.KV.keys rk, List.getElem?_map, hky] <;> rfl
      have e2 : (kvs.map fun kv => kV kv.1)[j]? = some (kV k) := by
        rw [show (kvs.map fun kv => kV kv.1) = (kvs.map (·.1)).map kV by rw [List.map_map] <;> rfl, List.getElem?_map, e1] <;> rfl
      rw [e2] at h1
      cases h1
      exact keyIs_rel hi
    · rw [Array.toArray_toList]
      exact at1
  exact ⟨.ref s.heap.objs.size, _, I.laid keep (Nat.le_refl _) new, rfl, q _ (I.hok.fresh (Nat.le_refl _))⟩
def gList : G1 := fun o post => match o with
  | .pu (.lst ds) => ∀ p, post (.ls p ds)
  | .ls _ ds => ∀ p, post (.ls p ds)
  | .pu (.tup ds) => ∀ p, post (.ls p ds)
  | .pu (.dct ks) => ∀ p, post (.ls p (ks.map fun kv => match kv.1 with | .inl i => .int i | .inr x => .str x))
  | .dc _ ks => ∀ p, post (.ls p (ks.map fun kv => match kv.1 with | .inl i => .int i | .inr x => .str x))
  | _ => False
def kD : Key → D
  | .inl i => .int i
  | .inr x => .str x
theorem Rpk.keysR {K : PySem.W.Frag} {G : Hp} : ∀ (ds : List (Key × D)) (vs : List (Key × V)), Rpk K G ds vs → Rps K G (ds.map fun kv => match kv.1 with | .inl i => .int i | .inr x => .str x) (vs.map fun kv => kV kv.1)
  | [], _, h => by unfold Rpk at h; subst h; exact Rps.nil
  | (k, d) :: ds, _, h => by
    unfold Rpk at h
    obtain ⟨v, r, e, a, b⟩ := h
    subst e
    refine Rps.cons ?_ (Rpk.keysR ds r b)
    cases k with
    | inl i => exact rp_int
    | inr x => exact rp_str
def rListA (K : PySem.W.Frag) : List V → Hp → VK → Prop := fun xs H Q => (∃ p ys, xs = [.ref p] ∧ (SqL K H p ys ∨ SqT K H p ys) ∧ ∀ l, H l = none → Q (.ref l) (upd H l (.lst ys))) ∨ rListRd xs H Q
theorem call_listA {X : Cx} (hc : X.calm = true) : CallR X (.type "list") (rListA X.K) := CallR.or call_list_of (call_listRd hc)
theorem sr_list {K : PySem.W.Frag} : SndRN K (rListA K) (g1 gList) := snd_g1 fun φ e σ G H o1 v1 post Q R a p q => by
  unfold gList at p
  split at p
  · obtain ⟨l, vs, rfl, hs, hv⟩ := a.lst R.sub (.inl rfl)
    exact .inl ⟨_, vs, rfl, .inl hs, fun l hl => q _ _ _ _ (p l) (R.newLs hl hv)⟩
  · obtain ⟨l, vs, rfl, hs, hv⟩ := a.lst R.sub (.inr ⟨_, rfl⟩)
    exact .inl ⟨_, vs, rfl, .inl hs, fun l hl => q _ _ _ _ (p l) (R.newLs hl hv)⟩
  · obtain ⟨l, vs, rfl, hs, hv⟩ := a.tup R.sub
    exact .inl ⟨_, vs, rfl, .inr hs, fun l hl => q _ _ _ _ (p l) (R.newLs hl hv)⟩
  · obtain ⟨l, vs, rfl, hs, hv⟩ := a.dct R.sub (.inl rfl)
    exact .inr ⟨_, vs, rfl, hs, fun l hl => q _ _ _ _ (p l) (R.newLs hl (Rpk.keysR _ _ hv))⟩
  · obtain ⟨l, vs, rfl, hs, hv⟩ := a.dct R.sub (.inr ⟨_, rfl⟩)
    exact .inr ⟨_, vs, rfl, hs, fun l hl => q _ _ _ _ (p l) (R.newLs hl (Rpk.keysR _ _ hv))⟩
  · exact p.elim
def gTuple : G1 := fun o post => match o with
  | .pu (.lst ds) => post (.pu (.tup ds))
  | .ls _ ds => post (.pu (.tup ds))
  | .pu (.tup ds) => post (.pu (.tup ds))
  | _ => False
theorem sr_tuple {K : PySem.W.Frag} : SndRN K (fun xs H Q => ∃ p ys, xs = [.ref p] ∧ ((SqL K H p ys ∧ ∀ l, H l = none → Q (.ref l) (upd H l (.tup ys))) ∨ (SqT K H p ys ∧ Q (.ref p) H))) (g1 gTuple) := snd_g1 fun φ e σ G H o1 v1 post Q R a p q => by
  unfold gTuple at p
  split at p
  · obtain ⟨l, vs, rfl, hs, hv⟩ := a.lst R.sub (.inl rfl)
    exact ⟨_, vs, rfl, .inl ⟨hs, fun l hl => q _ _ _ _ p (R.newTup hl hv)⟩⟩
  · obtain ⟨l, vs, rfl, hs, hv⟩ := a.lst R.sub (.inr ⟨_, rfl⟩)
    exact ⟨_, vs, rfl, .inl ⟨hs, fun l hl => q _ _ _ _ p (R.newTup hl hv)⟩⟩
  · obtain ⟨l, vs, rfl, hs, hv⟩ := a.tup R.sub
    unfold OAt at a
    exact ⟨_, vs, rfl, .inr ⟨hs, q _ _ _ _ p (R.consPu a)⟩⟩
  · exact p.elim
def gAbs : G1 := fun o post => onI o fun i => post (.pu (.int (if i < 0 then -i else i)))
theorem sr_abs {K : PySem.W.Frag} : SndRN K (fun xs H Q => ∃ i, xs = [.int i] ∧ Q (.int (if i < 0 then -i else i)) H) (g1 gAbs) := snd_g1 fun φ e σ G H o1 v1 post Q R a p q => by
  obtain ⟨i, rfl, p⟩ := onI_iff.mp p
  exact ⟨i, by rw [a.int], q _ _ G H p (R.consPu rp_int)⟩
def gInt : G1 := fun o post => match o with
  | .pu (.int i) => post (.pu (.int i))
  | .pu (.bl b) => post (.pu (.int (if b then 1 else 0)))
  | _ => False
theorem sr_int {K : PySem.W.Frag} : SndRN K (fun xs H Q => (∃ i, xs = [.int i] ∧ Q (.int i) H) ∨ ∃ k, xs = [.bl k] ∧ Q (.int (if k then 1 else 0)) H) (g1 gInt) := snd_g1 fun φ e σ G H o1 v1 post Q R a p q => by
  unfold gInt at p
  split at p
  · exact .inl ⟨_, by rw [a.int], q _ _ G H p (R.consPu rp_int)⟩
  · exact .inr ⟨_, by rw [a.bl], q _ _ G H p (R.consPu rp_int)⟩
  · exact p.elim
def gMax2 : G2 := fun a b post => onI a fun i => onI b fun j => post (.pu (.int (if j > i then j else i)))
def gMin2 : G2 := fun a b post => onI a fun i => onI b fun j => post (.pu (.int (if j < i then j else i)))
theorem sr_max2 {K : PySem.W.Frag} : SndRN K (fun xs H Q => ∃ i j, xs = [.int i, .int j] ∧ Q (.int (if j > i then j else i)) H) (g2 gMax2) := snd_g2 fun φ e σ G H o1 o2 v1 v2 post Q R a b p q => by
  obtain ⟨i, rfl, p1⟩ := onI_iff.mp p
  obtain ⟨j, rfl, p2⟩ := onI_iff.mp p1
  exact ⟨i, j, by rw [a.int, b.int], q _ _ G H p2 (R.consPu rp_int)⟩
theorem sr_min2 {K : PySem.W.Frag} : SndRN K (fun xs H Q => ∃ i j, xs = [.int i, .int j] ∧ Q (.int (if j < i then j else i)) H) (g2 gMin2) := snd_g2 fun φ e σ G H o1 o2 v1 v2 post Q R a b p q => by
  obtain ⟨i, rfl, p1⟩ := onI_iff.mp p
  obtain ⟨j, rfl, p2⟩ := onI_iff.mp p1
  exact ⟨i, j, by rw [a.int, b.int], q _ _ G H p2 (R.consPu rp_int)⟩
def dInts : List D → Option (List Int)
  | [] => some []
  | .int i :: r => (dInts r).map (i :: ·)
  | _ :: _ => none
def dBls : List D → Option (List Bool)
  | [] => some []
  | .bl i :: r => (dBls r).map (i :: ·)
  | _ :: _ => none
theorem dInts_eq : ∀ {ds : List D} {ns : List Int}, dInts ds = some ns → ds = ns.map D.int
  | [], ns, h => by cases h; rfl
  | .int i :: r, ns, h => by
    unfold dInts at h
    cases q : dInts r with
    | none => rw [q] at h; cases h
    | some ms => rw [q] at h; cases h; rw [dInts_eq q]; rfl
  | .non :: _, _, h => nomatch h
  | .bl _ :: _, _, h => nomatch h
  | .str _ :: _, _, h => nomatch h
  | .lst _ :: _, _, h => nomatch h
  | .tup _ :: _, _, h => nomatch h
  | .dct _ :: _, _, h => nomatch h
theorem dBls_eq : ∀ {ds : List D} {ns : List Bool}, dBls ds = some ns → ds = ns.map D.bl
  | [], ns, h => by cases h; rfl
  | .bl i :: r, ns, h => by
    unfold dBls at h
    cases q : dBls r with
    | none => rw [q] at h; cases h
    | some ms => rw [q] at h; cases h; rw [dBls_eq q]; rfl
  | .non :: _, _, h => nomatch h
  | .int _ :: _, _, h => nomatch h
  | .str _ :: _, _, h => nomatch h
  | .lst _ :: _, _, h => nomatch h
  | .tup _ :: _, _, h => nomatch h
  | .dct _ :: _, _, h => nomatch h
@[simp] theorem dInts_map (ns : List Int) : dInts (ns.map D.int) = some ns := by
  induction ns with
  | nil => rfl
  | cons a r ih => rw [List.map_cons]; unfold dInts; rw [ih]; rfl
@[simp] theorem dBls_map (ns : List Bool) : dBls (ns.map D.bl) = some ns := by
  induction ns with
  | nil => rfl
  | cons a r ih => rw [List.map_cons]; unfold dBls; rw [ih]; rfl
def gSum : G1 := fun o post => onLst o fun ds => match dInts ds with
  | some ns => post (.pu (.int ns.sum))
  | none => False
def gAny : G1 := fun o post => onLst o fun ds => match dBls ds with
  | some ns => post (.pu (.bl (ns.any id)))
  | none => False
def gAll : G1 := fun o post => onLst o fun ds => match dBls ds with
  | some ns => post (.pu (.bl (ns.all id)))
  | none => False
theorem sr_sum {K : PySem.W.Frag} : SndRN K (rSum K) (g1 gSum) := snd_g1 fun φ e σ G H o1 v1 post Q R a p q => by
  obtain ⟨ds, ho, p⟩ := onLst_iff.mp p
  obtain ⟨l, vs, rfl, hs, hv⟩ := a.lst R.sub ho
  split at p
  · rename_i ns hn
    rw [dInts_eq hn] at hv
    rw [Rps.ints ns vs hv] at hs
    exact ⟨l, ns, rfl, hs, q _ _ G H p (R.consPu rp_int)⟩
  · exact p.elim
theorem sr_any {K : PySem.W.Frag} : SndRN K (rAny K) (g1 gAny) := snd_g1 fun φ e σ G H o1 v1 post Q R a p q => by
  obtain ⟨ds, ho, p⟩ := onLst_iff.mp p
  obtain ⟨l, vs, rfl, hs, hv⟩ := a.lst R.sub ho
  split at p
  · rename_i ns hn
    rw [dBls_eq hn] at hv
    rw [Rps.bls ns vs hv] at hs
    exact ⟨l, ns, rfl, hs, q _ _ G H p (R.consPu rp_bl)⟩
  · exact p.elim
theorem sr_all {K : PySem.W.Frag} : SndRN K (rAll K) (g1 gAll) := snd_g1 fun φ e σ G H o1 v1 post Q R a p q => by
  obtain ⟨ds, ho, p⟩ := onLst_iff.mp p
  obtain ⟨l, vs, rfl, hs, hv⟩ := a.lst R.sub ho
  split at p
  · rename_i ns hn
    rw [dBls_eq hn] at hv
    rw [Rps.bls ns vs hv] at hs
    exact ⟨l, ns, rfl, hs, q _ _ G H p (R.consPu rp_bl)⟩
  · exact p.elim
def gDivmod : G2 := fun a b post => onI a fun i => onI b fun j => CDiv i j ∧ post (.pu (.tup [.int (i / j), .int (i % j)]))
theorem sr_divmod {K : PySem.W.Frag} : SndRN K (fun xs H Q => ∃ i j, xs = [.int i, .int j] ∧ CDiv i j ∧ ∀ p, H p = none → Q (.ref p) (upd H p (.tup [.int (i / j), .int (i % j)]))) (g2 gDivmod) := snd_g2 fun φ e σ G H o1 o2 v1 v2 post Q R a b p q => by
  obtain ⟨i, rfl, p1⟩ := onI_iff.mp p
  obtain ⟨j, rfl, p2⟩ := onI_iff.mp p1
  exact ⟨i, j, by rw [a.int, b.int], p2.1, fun l hl => q _ _ _ _ p2.2 (R.newTup hl (Rps.cons rp_int (Rps.one rp_int)))⟩

/-! ### isinstance -/
def tyN : D → String
  | .non => "NoneType"
  | .bl _ => "bool"
  | .int _ => "int"
  | .str _ => "str"
  | .lst _ => "list"
  | .tup _ => "tuple"
  | .dct _ => "dict"
  | .tupN _ => "tuple"
  | .opq => ""
def kitD (d : D) (T : String) : Option Bool := match d with
  | .opq => none
  | d => kitB (tyN d) T
theorem kitD_some {d : D} {T : String} {b : Bool} (h : kitD d T = some b) : d ≠ .opq ∧ kitB (tyN d) T = some b := by
  cases d with
  | opq => cases h
  | _ => exact ⟨nofun, h⟩
theorem tyX_of {K : PySem.W.Frag} {H : Hp} {d : D} {v : V} (hd : d ≠ .opq) (h : Rp K H d v) : TyX K H v (.type (tyN d)) := by
  cases d with
  | opq => exact absurd rfl hd
  | tupN ds =>
    unfold Rp at h
    obtain ⟨a, o, vs, rfl, hs, _⟩ := h
    rcases hs with hs | ⟨o, hs⟩
    · exact .base (.tup hs)
    · exact .fTuple hs
  | non => unfold Rp at h; subst h; exact .base .non
  | bl b => unfold Rp at h; subst h; exact .base (.bl _)
  | int b => unfold Rp at h; subst h; exact .base (.int _)
  | str b => unfold Rp at h; subst h; exact .base (.str _)
  | lst ds =>
    unfold Rp at h
    obtain ⟨a, vs, rfl, hs, _⟩ := h
    rcases hs with (hs | ⟨o, hs⟩) | ⟨o, its, n, k, c, _⟩
    · exact .base (.lst hs)
    · exact .base (.frz hs)
    · exact .kList k c
  | tup ds =>
    unfold Rp at h
    obtain ⟨a, vs, rfl, hs, _⟩ := h
    rcases hs with (hs | ⟨o, hs⟩) | ⟨o, its, n, k, c, _⟩
    · exact .base (.tup hs)
    · exact .fTuple hs
    · exact .kTuple k c
  | dct ds =>
    unfold Rp at h
    obtain ⟨a, vs, rfl, hs, _⟩ := h
    rcases hs with hs | ⟨o, hs⟩
    · exact .base (.dK hs)
    · exact .fDict hs
/-- isinstance(x, T), T a built-in class by its name -/
def vIsi (T : String) (qa : WQ) : WE := fun x e post => qa x e fun q e1 => onO q e1 fun o => match kitD o.toD T with
  | some b => post (.pu (.bl b)) e1
  | none => False
theorem ve_isi {X : Cx} {a : Expr} {x : Str} {p pos pi : Pos} {ta : TE} {qa : WQ} {T : String} (hg : Gl X "isinstance") (hm : X.mg "isinstance" = none) (ha : VQ X a ta qa) (hgT : Gl X x) (hmT : X.mg x = none) (hv : bootBuiltins x = some (.type T))
    (he : starEach (a :: [.Name x pi]) X.env = (false, eval a X.env) :: starEach [.Name x pi] X.env := by rfl) (he2 : starEach [.Name x pi] X.env = (false, eval (.Name x pi) X.env) :: starEach [] X.env := by rfl) (hn : x ≠ "__name__" := by decide) (hd : (x == ("__debug__" : Str)) = false := by decide)
    (hpl : (backTo pos (starEach [.Name x pi] X.env)).any (·.1) = false := by rfl) :
    VE X (.Call (.Name "isinstance" p) [a, .Name x pi] [] pos) (tCB (rIsi X.K) (tCons ta (tCons (tC (.ty T)) tNil))) (vIsi T qa) := by
  refine ⟨pe_callB call_isi hg hm (by decide +kernel) (pa_cons ha.pe (pa_cons (pe_bltn hgT hmT hv (v := .ty T) rfl hn hd) pa_nil he2) he) (by decide) (by decide) he hpl, ?_⟩
  intro φ e σ G H y post Q R Xo t q
  refine ha.snd φ e σ G H y _ _ R Xo t fun q1 e1 v1 G1 H1 p1 R1 k1 => ?_
  obtain ⟨o, g, p1⟩ := onO_iff.mp p1
  split at p1
  · rename_i b hb
    exact ⟨v1, .ty T, _, .type T, b, rfl, .ty T, tyX_of (kitD_some hb).1 ((R1.opnd k1 g).rp R1.sub), kit_ty (kitD_some hb).2, q _ e1 _ G1 H1 p1 (R1.tail.consPu rp_bl)⟩
  · exact p1.elim

/-! ### in -/
def flatD : D → Bool
  | .non => true
  | .int _ => true
  | .str _ => true
  | _ => false
def inD (x : D) (ds : List D) : Bool := ds.any fun y => eqv y x
theorem flatD_V {K : PySem.W.Frag} {G : Hp} {d : D} {v : V} (h : Rp K G d v) (f : flatD d = true) : flatV v = true := by
  cases d with
  | non => unfold Rp at h; subst h; rfl
  | int b => unfold Rp at h; subst h; rfl
  | str b => unfold Rp at h; subst h; rfl
  | _ => cases f
theorem eqV_D {K : PySem.W.Frag} {G : Hp} {d e : D} {v u : V} (h : Rp K G d v) (k : Rp K G e u) (f : flatD d = true) (g : flatD e = true) : eqV v u = eqv d e := by
  cases d with
  | non =>
    unfold Rp at h; subst h
    cases e with
    | non => unfold Rp at k; subst k; unfold eqv; rfl
    | int b => unfold Rp at k; subst k; unfold eqv; rfl
    | str b => unfold Rp at k; subst k; unfold eqv; rfl
    | _ => cases g
  | int i =>
    unfold Rp at h; subst h
    cases e with
    | non => unfold Rp at k; subst k; unfold eqv; rfl
    | int b => unfold Rp at k; subst k; unfold eqv; rfl
    | str b => unfold Rp at k; subst k; unfold eqv; rfl
    | _ => cases g
  | str i =>
    unfold Rp at h; subst h
    cases e with
    | non => unfold Rp at k; subst k; unfold eqv; rfl
    | int b => unfold Rp at k; subst k; unfold eqv; rfl
    | str b => unfold Rp at k; subst k; unfold eqv; rfl
    | _ => cases g
  | _ => cases f
theorem inV_D {K : PySem.W.Frag} {G : Hp} {x : D} {v : V} (h : Rp K G x v) (f : flatD x = true) : ∀ (ds : List D) (vs : List V), Rps K G ds vs → ds.all flatD = true → inV v vs = inD x ds ∧ vs.all flatV = true
  | [], _, r, _ => by unfold Rps at r; subst r; exact ⟨rfl, rfl⟩
  | d :: ds, _, r, a => by
    unfold Rps at r
    obtain ⟨u, t, e, b, c⟩ := r
    subst e
    rw [List.all_cons] at a
    obtain ⟨a1, a2⟩ := Bool.and_eq_true_iff.mp a
    obtain ⟨i1, i2⟩ := inV_D h f ds t c a2
    refine ⟨?_, by rw [List.all_cons, flatD_V b a1, i2]; rfl⟩
    unfold inV inD at i1 ⊢
    rw [List.any_cons, List.any_cons, i1, eqV_D b h a1 f]
theorem Rps.up {K : PySem.W.Frag} {G H : Hp} {ds : List D} {vs : List V} (h : Rps K G ds vs) (s : Sub G H) : Rps K H ds vs := Rps.mono s ds vs h
def onSign (s : Str) (k : Nat → Prop) : Prop := match s.cps.toList with
  | [c] => k c
  | _ => False
theorem onSign_iff {s : Str} {k : Nat → Prop} : onSign s k ↔ ∃ c, s = ⟨#[c]⟩ ∧ k c := by
  constructor
  · intro h
    unfold onSign at h
    cases s with
    | mk cs =>
      cases cs with
      | mk l =>
        match l, h with
        | [c], h => exact ⟨c, rfl, h⟩
  · rintro ⟨c, rfl, h⟩
    exact h
def gIn (neg : Bool) : G2 := fun a b post => match b with
  | .pu (.lst ds) => flatD a.toD = true ∧ ds.all flatD = true ∧ post (.pu (.bl (if neg then !inD a.toD ds else inD a.toD ds)))
  | .ls _ ds => flatD a.toD = true ∧ ds.all flatD = true ∧ post (.pu (.bl (if neg then !inD a.toD ds else inD a.toD ds)))
  | .pu (.tup ds) => flatD a.toD = true ∧ ds.all flatD = true ∧ post (.pu (.bl (if neg then !inD a.toD ds else inD a.toD ds)))
  | .pu (.dct ks) => onKey a fun k => post (.pu (.bl (if neg then !(lookK ks k).isSome else (lookK ks k).isSome)))
  | .dc _ ks => onKey a fun k => post (.pu (.bl (if neg then !(lookK ks k).isSome else (lookK ks k).isSome)))
  | .pu (.str z) => onS a fun s => onSign s fun c => post (.pu (.bl (if neg then !decide (c ∈ z.cps.toList) else decide (c ∈ z.cps.toList))))
  | _ => False
def rInA (K : PySem.W.Frag) (neg : Bool) : R2 := fun y x H Q => rIn K neg y x H Q ∨ (∃ a o, x = .ref a ∧ DGet H a y o ∧ Q (.bl (if neg then !o.isSome else o.isSome)) H) ∨ ∃ (c : Nat) (z : Str), y = .str ⟨#[c]⟩ ∧ x = .str z ∧ Q (.bl (if neg then !decide (c ∈ z.cps.toList) else decide (c ∈ z.cps.toList))) H
theorem op_inA {X : Cx} (hu : X.A.units + 1 < cLine) : OpR X (compareOp .In) (rInA X.K false) := op_in_seq.or (OpR.or (fun pins s σ H y x v u Q I ry rx ⟨a, o, ex, g, q⟩ => by
  subst ex
  obtain rfl : u = Value.ref a := rx
  exact d_in hu I g ry fun s3 I3 => ⟨.bl o.isSome, H, I3, rfl, q⟩) op_in_sign)
theorem op_notInA {X : Cx} (hu : X.A.units + 1 < cLine) : OpR X (compareOp .NotIn) (rInA X.K true) := op_notIn_seq.or (OpR.or (fun pins s σ H y x v u Q I ry rx ⟨a, o, ex, g, q⟩ => by
  subst ex
  obtain rfl : u = Value.ref a := rx
  exact d_notIn hu I g ry fun s3 I3 => ⟨.bl (!o.isSome), H, I3, rfl, q⟩) op_notIn_sign)
theorem sr_in {K : PySem.W.Frag} {neg : Bool} : SndR2 K (rInA K neg) (gIn neg) := fun φ e σ G H o1 o2 v1 v2 post Q R a1 a2 p q => by
  have r1 := a1.rp R.sub
  have hd : ∀ ks, (o2 = .pu (.dct ks) ∨ ∃ p, o2 = .dc p ks) → (onKey o1 fun k => post (.pu (.bl (if neg then !(lookK ks k).isSome else (lookK ks k).isSome)))) → rInA K neg v1 v2 H Q := fun ks ho p => by
    unfold onKey at p
    split at p
    · rename_i k hk
      obtain ⟨a, vs, rfl, hs, hv⟩ := a2.dct R.sub ho
      have z := Rpk.look ks vs k hv
      refine .inr (.inl ⟨a, valV vs k, rfl, .inl ⟨vs, k, hs, oKey_V a1 hk, rfl⟩, ?_⟩)
      have hz : (valV vs k).isSome = (lookK ks k).isSome := by
        split at z
        · rename_i d hd; obtain ⟨v, e1, _⟩ := z; rw [e1, hd]; rfl
        · rename_i hd; rw [z, hd]; rfl
      rw [hz]
      exact q _ _ G H p (R.consPu rp_bl)
    · exact p.elim
  have hl : ∀ ds, (o2 = .pu (.lst ds) ∨ ∃ p, o2 = .ls p ds) → flatD o1.toD = true ∧ ds.all flatD = true ∧ post (.pu (.bl (if neg then !inD o1.toD ds else inD o1.toD ds))) → rInA K neg v1 v2 H Q := fun ds ho p => by
    obtain ⟨l, vs, rfl, hs, hv⟩ := a2.lst R.sub ho
    obtain ⟨i1, i2⟩ := inV_D r1 p.1 ds vs (hv.up R.sub) p.2.1
    exact .inl ⟨l, vs, rfl, .inl hs, flatD_V r1 p.1, i2, by rw [i1]; exact q _ _ G H p.2.2 (R.consPu rp_bl)⟩
  unfold gIn at p
  split at p
  · exact hl _ (.inl rfl) p
  · exact hl _ (.inr ⟨_, rfl⟩) p
  · rename_i ds
    obtain ⟨l, vs, rfl, hs, hv⟩ := a2.tup R.sub
    obtain ⟨i1, i2⟩ := inV_D r1 p.1 ds vs (hv.up R.sub) p.2.1
    exact .inl ⟨l, vs, rfl, .inr hs, flatD_V r1 p.1, i2, by rw [i1]; exact q _ _ G H p.2.2 (R.consPu rp_bl)⟩
  · exact hd _ (.inl rfl) p
  · exact hd _ (.inr ⟨_, rfl⟩) p
  · obtain ⟨s, rfl, p⟩ := onS_iff.mp p
    obtain ⟨c, rfl, p⟩ := onSign_iff.mp p
    exact .inr (.inr ⟨c, _, a1.str, a2.str, q _ _ G H p (R.consPu rp_bl)⟩)
  · exact p.elim
end Vl

namespace Vl
open PySem PySem.Spec PyProof.Rows L2

/-! ### methods of texts and lists that only read -/
def tyO : O → String
  | .pu (.str _) => "str"
  | .pu (.lst _) => "list"
  | .ls _ _ => "list"
  | .dc _ _ => "dict"
  | _ => ""
theorem tyO_V {K : PySem.W.Frag} {G H : Hp} {o : O} {v : V} {T : String} (s : Sub G H) (h : OAt K G H o v) (e : tyO o = T) (hT : T ≠ "") : tyV K T v H := by
  cases o with
  | pu d =>
    cases d with
    | str x => subst e; cases h.str; exact rfl
    | lst ds =>
      subst e
      obtain ⟨a, vs, rfl, hs, _⟩ := h.lst s (.inl rfl)
      exact .inl ⟨rfl, vs, hs⟩
    | _ => exact absurd e.symm hT
  | ls p ds =>
    subst e
    obtain ⟨a, vs, rfl, hs, _⟩ := h.lst s (.inr ⟨p, rfl⟩)
    exact .inl ⟨rfl, vs, hs⟩
  | dc p ds =>
    subst e
    unfold OAt at h
    obtain ⟨rfl, _, vs, q, _⟩ := h
    exact .inr (.inr (.inl ⟨rfl, .inl ⟨vs, q⟩⟩))
  | _ => exact absurd e.symm hT
def onOpt {α : Type} (x : Option α) (k : α → Prop) : Prop := match x with
  | some a => k a
  | none => False
theorem onOpt_iff {α : Type} {x : Option α} {k : α → Prop} : onOpt x k ↔ ∃ a, x = some a ∧ k a := by
  unfold onOpt
  cases x with
  | none => exact ⟨fun z => z.elim, fun ⟨_, z, _⟩ => (nomatch z)⟩
  | some d => exact ⟨fun z => ⟨d, rfl, z⟩, fun ⟨d', z, y⟩ => by cases z; exact y⟩
def on1 {α : Type} (x : List α) (k : α → Prop) : Prop := match x with
  | [a] => k a
  | _ => False
theorem on1_iff {α : Type} {x : List α} {k : α → Prop} : on1 x k ↔ ∃ a, x = [a] ∧ k a := by
  constructor
  · intro h
    match x, h with
    | [a], h => exact ⟨a, rfl, h⟩
  · rintro ⟨a, rfl, h⟩
    exact h
abbrev GM := O → List O → (O → Prop) → Prop
def SndRM (K : PySem.W.Frag) (r : V → List V → Hp → VK → Prop) (g : GM) : Prop := ∀ (φ : Fx) (e : Env) (σ : L2.St) (G H : Hp) (o : O) (v : V) (os : List O) (vs : List V) (post : O → Prop) (Q : VK), Rel K φ e σ G H → OAt K G H o v → Paired (OAt K G H) os vs → g o os post →
  (∀ o v G' H', post o → Rel K φ (some o :: e) (some v :: σ) G' H' → Q v H') → r v vs H Q
def vMt (T : String) (g : GM) (qa : WQ) (wa : WA) : WE := fun x e post => qa x e fun q e1 => onO q e1 fun o => tyO o = T ∧ wa x e1 fun qs e2 => onO q e2 fun o' => onOs qs e2 fun os => g o' os fun r => post r e2
theorem snd_mt {K : PySem.W.Frag} {T : String} {r : V → List V → Hp → VK → Prop} {g : GM} {to : TE} {qa : WQ} {ta : TA} {wa : WA} (hT : T ≠ "") (ho : SndQ K to qa) (ha : SndA K ta wa) (hr : SndRM K r g) : SndE K (tBM K T r to ta) (vMt T g qa wa) := fun φ e σ G H x post Q R X t q => by
  refine ho φ e σ G H x _ _ R X t fun q1 e1 v1 G1 H1 p1 R1 k1 => ?_
  obtain ⟨o, g1, p1⟩ := onO_iff.mp p1
  refine ⟨tyO_V R1.sub (R1.opnd k1 g1) p1.1 hT, ?_⟩
  have F := Rel.frame (ts := [q1.slot]) (vs := [some v1]) R1 rfl
  refine ha _ e1 σ G1 H1 x _ _ F.1 (ExOk.frame (ts := [q1.slot]) (vs := [some v1]) X R1 rfl) p1.2 fun qs e2 vs G2 H2 p2 R2 k2 => ?_
  obtain ⟨o', g2, p2⟩ := onO_iff.mp p2
  have R3 : Rel K φ ((q1 :: qs).map Opnd.slot ++ e2) ((v1 :: vs).map some ++ σ) G2 H2 := F.2 _ _ _ _ R2
  obtain ⟨os, z, p3⟩ := Rel.opnds (q1 :: qs) (v1 :: vs) (fun os => ∃ o'' r, os = o'' :: r ∧ g o'' r fun r => post r e2) R3 (.cons k1 k2) (by
    unfold onOs
    rw [onO_iff]
    refine ⟨o', g2, ?_⟩
    have mono : ∀ (qs : List Opnd) (k k' : List O → Prop), (∀ os, k os → k' os) → onOs qs e2 k → onOs qs e2 k' := by
      intro qs
      induction qs with
      | nil => intro k k' h p; exact h _ p
      | cons a r ih =>
        intro k k' h p
        unfold onOs at p ⊢
        obtain ⟨o, g, p⟩ := onO_iff.mp p
        exact onO_iff.mpr ⟨o, g, ih _ _ (fun os => h _) p⟩
    exact mono qs _ _ (fun os h => ⟨o', os, rfl, h⟩) p2)
  obtain ⟨o'', r', e0, p4⟩ := p3
  subst e0
  cases z with
  | cons a b => exact hr φ e2 σ G2 H2 o'' v1 r' vs _ Q (Rel.untemps _ _ R3 (.cons k1 k2)) a b p4 fun o v G' H' pd rd => q o e2 v G' H' pd rd
theorem ve_mt {X : Cx} {o e : Expr} {es : List Expr} {to : TE} {qa : WQ} {t : TA} {wa : WA} {name : Str} {apos cpos : Pos} {T id : String} {r : V → List V → Hp → VK → Prop} {g : GM} (hT : T ≠ "") (pa : PlainAttrs T) (slot : Slot T name id) (hty : typeOf (.builtin id) = pure (.type "method_descriptor"))
    (hm : MtR X id r) (hr : SndRM X.K r g) (ho : VQ X o to qa) (ha : VA X (e :: es) t wa)
    (hbase : attributeBase o name X.env (eval o X.env) = eval o X.env := by rfl)
    (hfew : ((backTo cpos (starEach (e :: es) X.env)).all (fun x => !x.1) && (backToKw cpos (keywordEach [] X.env)).all (fun x => x.1.isSome) && decide ((e :: es).length + ([] : List Keyword).length + (if ([] : List Keyword).isEmpty then 0 else 1) < 30)) = true := by rfl)
    (hline : (apos.endLine == cpos.line) = true := by rfl) (hs : starEach (e :: es) X.env = (false, eval e X.env) :: starEach es X.env := by rfl) (hplain : (backTo cpos (starEach es X.env)).any (·.1) = false := by rfl) :
    VE X (.Call (.Attribute o name apos) (e :: es) [] cpos) (tBM X.K T r to t) (vMt T g qa wa) := ⟨pe_bm pa slot hty hm ho.pe ha.pa hbase hfew hline hs hplain, snd_mt hT ho.snd ha.snd hr⟩
def gSS (f : Str → Str → D) : GM := fun o os post => onS o fun a => on1 os fun b => onS b fun b => post (.pu (f a b))
theorem sr_ss {K : PySem.W.Frag} {f : Str → Str → D} {w : Str → Str → V} (h : ∀ a b G, Rp K G (f a b) (w a b)) : SndRM K (fun x xs H Q => ∃ a b, x = .str a ∧ xs = [.str b] ∧ Q (w a b) H) (gSS f) := fun φ e σ G H o v os vs post Q R a z p q => by
  unfold gSS at p
  obtain ⟨s, rfl, p1⟩ := onS_iff.mp p
  obtain ⟨b, rfl, p2⟩ := on1_iff.mp p1
  obtain ⟨s2, rfl, p3⟩ := onS_iff.mp p2
  cases z with
  | cons c d =>
    cases d
    exact ⟨s, s2, a.str, by rw [c.str], q _ _ G H p3 (R.consPu (h s s2 G))⟩
theorem sr_startswith {K : PySem.W.Frag} : SndRM K (fun x xs H Q => ∃ a b, x = .str a ∧ xs = [.str b] ∧ Q (.bl (Txt.startswith a b)) H) (gSS fun a b => .bl (Txt.startswith a b)) := sr_ss fun _ _ _ => rp_bl
theorem sr_endswith {K : PySem.W.Frag} : SndRM K (fun x xs H Q => ∃ a b, x = .str a ∧ xs = [.str b] ∧ Q (.bl (Txt.endswith a b)) H) (gSS fun a b => .bl (Txt.endswith a b)) := sr_ss fun _ _ _ => rp_bl
def dStrs : List D → Option (List Str)
  | [] => some []
  | .str i :: r => (dStrs r).map (i :: ·)
  | _ :: _ => none
theorem dStrs_eq : ∀ {ds : List D} {ns : List Str}, dStrs ds = some ns → ds = ns.map D.str
  | [], ns, h => by cases h; rfl
  | .str i :: r, ns, h => by
    unfold dStrs at h
    cases q : dStrs r with
    | none => rw [q] at h; cases h
    | some ms => rw [q] at h; cases h; rw [dStrs_eq q]; rfl
  | .non :: _, _, h => nomatch h
  | .bl _ :: _, _, h => nomatch h
  | .int _ :: _, _, h => nomatch h
  | .lst _ :: _, _, h => nomatch h
  | .tup _ :: _, _, h => nomatch h
  | .dct _ :: _, _, h => nomatch h
@[simp] theorem dStrs_map (ns : List Str) : dStrs (ns.map D.str) = some ns := by
  induction ns with
  | nil => rfl
  | cons a r ih => rw [List.map_cons]; unfold dStrs; rw [ih]; rfl
def gJoin : GM := fun o os post => onS o fun a => on1 os fun b => onLst b fun ds => onOpt (dStrs ds) fun ys => (ys.map (·.length)).sum + ys.length * a.length ≤ 16777216 ∧ post (.pu (.str (Txt.join a ys)))
theorem sr_join {K : PySem.W.Frag} : SndRM K (fun x xs H Q => ∃ a p, ∃ ys : List Str, x = .str a ∧ xs = [.ref p] ∧ (SqL K H p (ys.map V.str) ∨ SqT K H p (ys.map V.str)) ∧
    (ys.map (·.length)).sum + ys.length * a.length ≤ 16777216 ∧ Q (.str (Txt.join a ys)) H) gJoin := fun φ e σ G H o v os vs post Q R a z p q => by
  unfold gJoin at p
  obtain ⟨s, rfl, p1⟩ := onS_iff.mp p
  obtain ⟨b, rfl, p2⟩ := on1_iff.mp p1
  obtain ⟨ds, ho, p3⟩ := onLst_iff.mp p2
  obtain ⟨ys, hy, p4⟩ := onOpt_iff.mp p3
  cases z with
  | cons c d =>
    cases d
    obtain ⟨l, vs, rfl, hs, hv⟩ := c.lst R.sub ho
    rw [dStrs_eq hy] at hv
    rw [Rps.strs ys vs hv] at hs
    exact ⟨s, l, ys, a.str, rfl, .inl hs, p4.1, q _ _ G H p4.2 (R.consPu rp_str)⟩

/-! ### methods that change a list of one's own -/
abbrev GU := O → List D → (O → O → Prop) → Prop
def SndRU (K : PySem.W.Frag) (r : V → List V → Hp → VK → Prop) (g : GU) : Prop := ∀ (φ : Fx) (e : Env) (σ : L2.St) (G H : Hp) (o : O) (v : V) (ds : List D) (vs : List V) (post : O → O → Prop) (Q : VK), Rel K φ (some o :: e) (some v :: σ) G H → Rps K G ds vs → g o ds post →
  (∀ res o' w G' H', post res o' → Rel K φ (some res :: some o' :: e) (some w :: some v :: σ) G' H' → Q w H') → r v vs H Q
def vMut (T : String) (i : Nat) (g : GU) (wp : WP) : WE := fun x e post => onO (.pl i) e fun o => tyO o = T ∧ wp x e fun ds e1 => onO (.pl i) e1 fun o' => g o' ds fun res o2 => post res (e1.set i (some o2))
def vMut0 (T : String) (i : Nat) (g : GU) : WE := fun x e post => onO (.pl i) e fun o => tyO o = T ∧ g o [] fun res o2 => post res (e.set i (some o2))
theorem mut_end {K : PySem.W.Frag} {φ : Fx} {e : Env} {σ : L2.St} {G H : Hp} {r : V → List V → Hp → VK → Prop} {g : GU} {i : Nat} {o : O} {v : V} {ds : List D} {vs : List V} {post : O → Env → Prop} {Q : VK} (hr : SndRU K r g) (R : Rel K φ e σ G H) (hv : σ[i]? = some (some v)) (ho : eget e i = some o) (hs : Rps K G ds vs) (p : g o ds fun res o2 => post res (e.set i (some o2)))
    (q : ∀ o e' v G' H', post o e' → Rel K φ (some o :: e') (some v :: σ) G' H' → Q v H') : r v vs H Q := by
  refine hr φ _ σ G H o v ds vs _ Q (R.mvout (eget_some.mp ho) hv) hs p fun res o' w G' H' pd R' => ?_
  have R2 := R'.swap
  have F := Rel.frame (ts := [some o']) (vs := [some v]) R2 rfl
  have F3 : Rel K φ (some res :: (e.set i none).set i (some o')) (some w :: σ) G' H' := by
    have k := (Rel.frame (ts := [some res]) (vs := [some w]) R' rfl).2
    have R4 := R'.tail
    have R5 : Rel K (rb φ (some o' :: e.set i none) G' H') (some o' :: e.set i none) (some v :: σ) G' H' := R4.re
    exact k _ _ _ _ (R5.putback hv)
  rw [List.set_set] at F3
  exact q _ _ w G' H' pd F3
theorem snd_mut {K : PySem.W.Frag} {T : String} {r : V → List V → Hp → VK → Prop} {g : GU} {i : Nat} {ta : TA} {wp : WP} (hT : T ≠ "") (ha : SndP K ta wp) (hr : SndRU K r g) : SndE K (tBM K T r (tVar i) ta) (vMut T i g wp) := fun φ e σ G H x post Q R X t q => by
  obtain ⟨o, g1, t⟩ := onO_iff.mp t
  have g1' : eget e i = some o := g1
  obtain ⟨v, h1, h2⟩ := R.get (eget_some.mp g1')
  refine ⟨v, h1, tyO_V R.sub h2 t.1 hT, ?_⟩
  refine ha φ e σ G H x _ _ R X t.2 fun ds e1 vs G1 H1 p1 R1 hs => ?_
  obtain ⟨o', g2, p1⟩ := onO_iff.mp p1
  exact mut_end hr R1 h1 g2 hs p1 q
theorem snd_mut0 {K : PySem.W.Frag} {T : String} {r : V → List V → Hp → VK → Prop} {g : GU} {i : Nat} (hT : T ≠ "") (hr : SndRU K r g) : SndE K (tBM0 K T r (tVar i)) (vMut0 T i g) := fun φ e σ G H x post Q R X t q => by
  obtain ⟨o, g1, t⟩ := onO_iff.mp t
  have g1' : eget e i = some o := g1
  obtain ⟨v, h1, h2⟩ := R.get (eget_some.mp g1')
  exact ⟨v, h1, tyO_V R.sub h2 t.1 hT, mut_end hr R h1 g1' Rps.nil t.2 q⟩
section
variable {X : Cx} {o e : Expr} {es : List Expr} {t : TA} {wp : WP} {name : Str} {apos cpos : Pos} {T id : String} {r : V → List V → Hp → VK → Prop} {g : GU} {i : Nat}
theorem ve_mut (hT : T ≠ "") (pa : PlainAttrs T) (slot : Slot T name id) (hty : typeOf (.builtin id) = pure (.type "method_descriptor")) (hm : MtR X id r) (hr : SndRU X.K r g) (ho : PE X o (tVar i)) (ha : VP X (e :: es) t wp)
    (hbase : attributeBase o name X.env (eval o X.env) = eval o X.env := by rfl)
    (hfew : ((backTo cpos (starEach (e :: es) X.env)).all (fun x => !x.1) && (backToKw cpos (keywordEach [] X.env)).all (fun x => x.1.isSome) && decide ((e :: es).length + ([] : List Keyword).length + (if ([] : List Keyword).isEmpty then 0 else 1) < 30)) = true := by rfl)
    (hline : (apos.endLine == cpos.line) = true := by rfl) (hs : starEach (e :: es) X.env = (false, eval e X.env) :: starEach es X.env := by rfl) (hplain : (backTo cpos (starEach es X.env)).any (·.1) = false := by rfl) :
    VE X (.Call (.Attribute o name apos) (e :: es) [] cpos) (tBM X.K T r (tVar i) t) (vMut T i g wp) := ⟨pe_bm pa slot hty hm ho ha.pa hbase hfew hline hs hplain, snd_mut hT ha.snd hr⟩
theorem ve_mut0 (hT : T ≠ "") (pa : PlainAttrs T) (slot : Slot T name id) (hty : typeOf (.builtin id) = pure (.type "method_descriptor")) (hm : MtR X id r) (hr : SndRU X.K r g) (ho : PE X o (tVar i))
    (hbase : attributeBase o name X.env (eval o X.env) = eval o X.env := by rfl) (hline : (apos.endLine == cpos.line) = true := by rfl) :
    VE X (.Call (.Attribute o name apos) [] [] cpos) (tBM0 X.K T r (tVar i)) (vMut0 T i g) := ⟨pe_bm0 pa slot hty hm ho hbase hline, snd_mut0 hT hr⟩
end
section
variable {K : PySem.W.Frag}
theorem Rel.mutLs {φ : Fx} {e : Env} {σ : L2.St} {G H : Hp} {p : Addr} {ds ds' : List D} {v : V} {vs' : List V} (R : Rel K φ (some (.ls p ds) :: e) (some v :: σ) G H) (h : Rps K G ds' vs') : v = .ref p ∧ (∃ vs, H p = some (.lst vs) ∧ Rps K G ds vs) ∧ Rel K φ (some (.ls p ds') :: e) (some v :: σ) G (upd H p (.lst vs')) := by
  have a := R.headOAt
  unfold OAt at a
  obtain ⟨rfl, gn, vs, hp, hv⟩ := a
  refine ⟨rfl, ⟨vs, hp, hv⟩, R.mut (o' := .ls p ds') List.mem_cons_self (List.Sublist.refl _) ?_⟩
  unfold OAt
  exact ⟨rfl, gn, vs', upd_same, h⟩
def gAppend : GU := fun o ds post => onLs o fun p xs => on1 ds fun d => xs.length < sizeLine ∧ post (.pu .non) (.ls p (xs ++ [d]))
theorem Rps.un1 {G : Hp} {d : D} {vs : List V} (h : Rps K G [d] vs) : ∃ v, vs = [v] ∧ Rp K G d v := by
  unfold Rps at h
  obtain ⟨w, r, e1, a, b⟩ := h
  unfold Rps at b
  subst b
  exact ⟨w, e1, a⟩
theorem OAt.ls {G H : Hp} {p : Addr} {ds : List D} {v : V} (h : OAt K G H (.ls p ds) v) : v = .ref p ∧ G p = none ∧ ∃ vs, H p = some (.lst vs) ∧ Rps K G ds vs := by unfold OAt at h; exact h
theorem OAt.dc {G H : Hp} {p : Addr} {ds : List (Key × D)} {v : V} (h : OAt K G H (.dc p ds) v) : v = .ref p ∧ G p = none ∧ ∃ vs, H p = some (.dK vs) ∧ Rpk K G ds vs := by unfold OAt at h; exact h
theorem sr_append : SndRU K rAppend gAppend := fun φ e σ G H o v ds vs post Q R hs p q => by
  obtain ⟨l, xs, rfl, p1⟩ := onLs_iff.mp p
  obtain ⟨d, rfl, p2⟩ := on1_iff.mp p1
  obtain ⟨w, rfl, a⟩ := hs.un1
  obtain ⟨rfl, gn, ws, hp, hw⟩ := R.headOAt.ls
  obtain ⟨_, _, R2⟩ := R.mutLs (Rps.app _ _ _ _ hw (Rps.one a))
  exact ⟨l, ws, w, rfl, rfl, hp, by rw [Rps.len _ _ hw]; exact p2.1, q _ _ _ _ _ p2.2 (R2.consPu rp_non)⟩
def gPopAt : GU := fun o ds post => onLs o fun p xs => on1 ds fun d => onI (.pu d) fun i => -(2 ^ 63) ≤ i ∧ i < 2 ^ 63 ∧ onOpt (ixN xs.length i) fun k => onOpt xs[k]? fun y => post (.pu y) (.ls p (xs.eraseIdx k))
theorem sr_popAt : SndRU K rPopAt gPopAt := fun φ e σ G H o v ds vs post Q R hs p q => by
  obtain ⟨l, xs, rfl, p1⟩ := onLs_iff.mp p
  obtain ⟨d, rfl, p2⟩ := on1_iff.mp p1
  obtain ⟨i, ei, b1, b2, p3⟩ := onI_iff.mp p2
  obtain ⟨k, hk, p4⟩ := onOpt_iff.mp p3
  obtain ⟨y, hy, p5⟩ := onOpt_iff.mp p4
  cases ei
  obtain ⟨w, rfl, a⟩ := hs.un1
  unfold Rp at a
  subst a
  obtain ⟨rfl, gn, ws, hp, hw⟩ := R.headOAt.ls
  obtain ⟨u, hu, ru⟩ := Rps.get _ _ k y hw hy
  obtain ⟨_, _, R2⟩ := R.mutLs (Rps.eraseIdx _ _ k hw)
  have hl := Rps.len _ _ hw
  refine ⟨l, ws, i, k, u, rfl, rfl, hp, b1, b2, ?_, hu, q _ _ _ _ _ p5 (R2.consPu ru)⟩
  rw [hl]
  unfold ixN at hk
  split at hk
  · rename_i h0
    split at hk
    · rename_i h1
      cases hk
      exact seqIndex_of h0 h1
    · cases hk
  · rename_i h0
    split at hk
    · rename_i h1
      cases hk
      exact seqIndex_neg (by omega) h1
    · cases hk
theorem Rps.dropLast {G : Hp} {ds : List D} {vs : List V} (h : Rps K G ds vs) : Rps K G ds.dropLast vs.dropLast := by
  rw [List.dropLast_eq_take, List.dropLast_eq_take, Rps.len _ _ h]
  exact Rps.take _ _ _ h
def gPop : GU := fun o ds post => onLs o fun p xs => onOpt xs[xs.length - 1]? fun y => ds = [] ∧ post (.pu y) (.ls p xs.dropLast)
theorem sr_pop : SndRU K rPop gPop := fun φ e σ G H o v ds vs post Q R hs p q => by
  obtain ⟨l, xs, rfl, p1⟩ := onLs_iff.mp p
  obtain ⟨y, hy, e0, p2⟩ := onOpt_iff.mp p1
  subst e0
  unfold Rps at hs
  subst hs
  obtain ⟨rfl, gn, ws, hp, hw⟩ := R.headOAt.ls
  obtain ⟨u, hu, ru⟩ := Rps.get _ _ _ y hw hy
  obtain ⟨_, _, R2⟩ := R.mutLs hw.dropLast
  exact ⟨l, ws, u, rfl, rfl, hp, by rw [Rps.len _ _ hw]; exact hu, q _ _ _ _ _ p2 (R2.consPu ru)⟩
def gClear : GU := fun o ds post => onLs o fun p xs => ds = [] ∧ post (.pu .non) (.ls p [])
theorem sr_clear : SndRU K rClear gClear := fun φ e σ G H o v ds vs post Q R hs p q => by
  obtain ⟨l, xs, rfl, e0, p2⟩ := onLs_iff.mp p
  subst e0
  unfold Rps at hs
  subst hs
  obtain ⟨rfl, gn, ws, hp, hw⟩ := R.headOAt.ls
  obtain ⟨_, _, R2⟩ := R.mutLs (ds' := []) Rps.nil
  exact ⟨l, ws, rfl, rfl, hp, q _ _ _ _ _ p2 (R2.consPu rp_non)⟩
end
/-- xs.extend(e), e a new list -/
def vExtend (i : Nat) (a : WE) : WE := fun x e post => onO (.pl i) e fun o => tyO o = "list" ∧ a x e fun r e1 => onLs r fun _ ys => onO (.pl i) e1 fun o' => onLs o' fun p xs => xs.length + ys.length ≤ sizeLine ∧ post (.pu .non) (e1.set i (some (.ls p (xs ++ ys))))
theorem snd_extend {K : PySem.W.Frag} {te : TE} {a : WE} {i : Nat} (h : SndE K te a) : SndE K (tBM K "list" rExtend (tVar i) (tCons te tNil)) (vExtend i a) := fun φ e σ G H x post Q R X t q => by
  obtain ⟨o, g1, t1⟩ := onO_iff.mp t
  have g1' : eget e i = some o := g1
  obtain ⟨v, h1, h2⟩ := R.get (eget_some.mp g1')
  refine ⟨v, h1, tyO_V R.sub h2 t1.1 (by decide), ?_⟩
  refine h φ e σ G H x _ _ R X t1.2 fun r e1 w G1 H1 p1 R1 => ?_
  obtain ⟨b, ys, rfl, p2⟩ := onLs_iff.mp p1
  obtain ⟨o', g2, p3⟩ := onO_iff.mp p2
  obtain ⟨p, xs, rfl, hz, p4⟩ := onLs_iff.mp p3
  obtain ⟨rfl, gb, zs, hb, hzs⟩ := R1.headOAt.ls
  have g2' : eget e1 i = some (.ls p xs) := g2
  have M := R1.tail.mvout (eget_some.mp g2') h1
  obtain ⟨rfl, gp, ws, hp, hws⟩ := M.headOAt.ls
  obtain ⟨_, _, R2⟩ := M.mutLs (Rps.app _ _ _ _ hws hzs)
  have R3 := R2.putback h1
  rw [List.set_set] at R3
  exact ⟨p, b, ws, zs, rfl, rfl, hp, hb, by rw [Rps.len _ _ hws, Rps.len _ _ hzs]; exact hz, q _ _ _ _ _ p4 (R3.consPu rp_non)⟩
theorem ve_extend {X : Cx} {o e : Expr} {te : TE} {a : WE} {apos cpos : Pos} {i : Nat} (ho : PE X o (tVar i)) (h : VE X e te a)
    (hbase : attributeBase o "extend" X.env (eval o X.env) = eval o X.env := by rfl)
    (hfew : ((backTo cpos (starEach [e] X.env)).all (fun x => !x.1) && (backToKw cpos (keywordEach [] X.env)).all (fun x => x.1.isSome) && decide ([e].length + ([] : List Keyword).length + (if ([] : List Keyword).isEmpty then 0 else 1) < 30)) = true := by rfl)
    (hline : (apos.endLine == cpos.line) = true := by rfl) (hs : starEach [e] X.env = (false, eval e X.env) :: starEach [] X.env := by rfl) (hplain : (backTo cpos (starEach [] X.env)).any (·.1) = false := by rfl) :
    VE X (.Call (.Attribute o "extend" apos) [e] [] cpos) (tBM X.K "list" rExtend (tVar i) (tCons te tNil)) (vExtend i a) :=
  ⟨pe_bm PySem.F.plainAttrs_list PySem.F.slot_list_extend PySem.F.type_list_extend mt_extend ho (pa_cons h.pe pa_nil hs) hbase hfew hline hs hplain, snd_extend h.snd⟩
end Vl

namespace Vl
open PySem PySem.Spec PyProof.Rows L2

/-! ### statements -/
structure Pd where
  nx : Env → Prop
  rt : O → Env → Prop
  bk : Env → Prop
  ct : Env → Prop
abbrev WS := XP → Pd → Env → Prop
structure EndsOk (K : PySem.W.Frag) (φ : Fx) (pd : Pd) (D : Ends) : Prop where
  nx : ∀ e σ G H, pd.nx e → Rel K φ e σ G H → D.nx σ H
  rt : ∀ o e v σ G H, pd.rt o e → Rel K φ (some o :: e) (some v :: σ) G H → D.rt v H
  bk : ∀ e σ G H, pd.bk e → Rel K φ e σ G H → D.bk σ H
  ct : ∀ e σ G H, pd.ct e → Rel K φ e σ G H → D.ct σ H
def SndS (K : PySem.W.Frag) (ts : TS) (t : WS) : Prop := ∀ φ e σ G H x (pd : Pd) (D : Ends), Rel K φ e σ G H → ExOk K φ x → t x pd e → EndsOk K φ pd D → ts D σ H
structure VS (X : Cx) (st : Stmt) (ts : TS) (t : WS) : Prop where
  ps : PS X st ts
  snd : SndS X.K ts t
structure VSs (X : Cx) (st : List Stmt) (ts : TS) (t : WS) : Prop where
  ps : PSs X st ts
  snd : SndS X.K ts t
section
variable {K : PySem.W.Frag} {φ : Fx} {pd : Pd} {D : Ends}
theorem EndsOk.re {e : Env} {σ : L2.St} {G H : Hp} (h : EndsOk K φ pd D) (R : Rel K φ e σ G H) : EndsOk K (rb φ e G H) pd D :=
  ⟨fun e' σ' G' H' p S => h.nx _ _ _ _ p (R.back S), fun o e' v σ' G' H' p S => h.rt _ _ _ _ _ _ p (R.back S), fun e' σ' G' H' p S => h.bk _ _ _ _ p (R.back S), fun e' σ' G' H' p S => h.ct _ _ _ _ p (R.back S)⟩
def vNext : WS := fun _ pd e => pd.nx e
def vSeq (a b : WS) : WS := fun x pd e => a x ⟨fun e' => b x pd e', pd.rt, pd.bk, pd.ct⟩ e
def vBreak : WS := fun _ pd e => pd.bk e
def vCont : WS := fun _ pd e => pd.ct e
def vDrop (a : WE) : WS := fun x pd e => a x e fun _ e1 => pd.nx e1
def vRet (a : WE) : WS := fun x pd e => a x e pd.rt
def vRetN : WS := fun _ pd e => pd.rt (.pu .non) e
def vIf (c : WT) (a b : WS) : WS := fun x pd e => c x e fun k e1 => if k = true then a x pd e1 else b x pd e1
theorem snd_next : SndS K tNext vNext := fun φ e σ G H x pd D R X t E => E.nx _ _ _ _ t R
theorem snd_seq {a b : TS} {va vb : WS} (ha : SndS K a va) (hb : SndS K b vb) : SndS K (tSeq a b) (vSeq va vb) := fun φ e σ G H x pd D R X t E =>
  ha φ e σ G H x _ { D with nx := b D } R X t ⟨fun e' σ' G' H' p S => hb φ e' σ' G' H' x pd D S X p E, E.rt, E.bk, E.ct⟩
theorem snd_break : SndS K tBreak vBreak := fun φ e σ G H x pd D R X t E => E.bk _ _ _ _ t R
theorem snd_cont : SndS K tCont vCont := fun φ e σ G H x pd D R X t E => E.ct _ _ _ _ t R
theorem snd_drop {te : TE} {a : WE} (h : SndE K te a) : SndS K (tDrop te) (vDrop a) := fun φ e σ G H x pd D R X t E =>
  h φ e σ G H x _ _ R X t fun o e1 v G1 H1 p R1 => E.nx _ _ _ _ p R1.tail
theorem snd_ret {te : TE} {a : WE} (h : SndE K te a) : SndS K (tRet te) (vRet a) := fun φ e σ G H x pd D R X t E =>
  h φ e σ G H x _ _ R X t fun o e1 v G1 H1 p R1 => E.rt _ _ _ _ _ _ p R1
theorem snd_retN : SndS K tRetN vRetN := fun φ e σ G H x pd D R X t E => E.rt _ _ _ _ _ _ t (R.consPu rp_non)
theorem snd_if {c : TT} {a b : TS} {vc : WT} {va vb : WS} (hc : SndT K c vc) (ha : SndS K a va) (hb : SndS K b vb) : SndS K (tIfS c a b) (vIf vc va vb) := fun φ e σ G H x pd D R X t E => by
  refine hc φ e σ G H x _ _ R X t fun k e1 G1 H1 p R1 => ?_
  cases k with
  | true => exact ha φ e1 σ G1 H1 x pd D R1 X p E
  | false => exact hb φ e1 σ G1 H1 x pd D R1 X p E
end
section
variable {X : Cx} {st : Stmt} {rest : List Stmt} {t u : TS} {va vb : WS} {e : Expr} {te : TE} {a : WE} {pos : Pos}
theorem vss_nil : VSs X [] tNext vNext := ⟨pss_nil, snd_next⟩
theorem vss_cons (h : VS X st t va) (k : VSs X rest u vb) : VSs X (st :: rest) (tSeq t u) (vSeq va vb) := ⟨pss_cons h.ps k.ps, snd_seq h.snd k.snd⟩
theorem vss_one (h : VS X st t va) : VSs X [st] t va := ⟨pss_one h.ps, h.snd⟩
theorem vs_pass : VS X (.Pass pos) tNext vNext := ⟨ps_pass, snd_next⟩
theorem vs_break : VS X (.Break pos) tBreak vBreak := ⟨ps_break, snd_break⟩
theorem vs_continue : VS X (.Continue pos) tCont vCont := ⟨ps_continue, snd_cont⟩
theorem vs_expr (h : VE X e te a) (hs : swapsWith e none pos.line X.env = pure false := by rfl) : VS X (.Expr e pos) (tDrop te) (vDrop a) := ⟨ps_expr h.pe hs, snd_drop h.snd⟩
theorem vs_ret (h : VE X e te a) : VS X (.Return (some e) pos) (tRet te) (vRet a) := ⟨ps_ret h.pe, snd_ret h.snd⟩
theorem vs_retN : VS X (.Return none pos) tRetN vRetN := ⟨ps_retN, snd_retN⟩
theorem vs_if {c : Expr} {sa sb : List Stmt} {tc : TT} {vc : WT} (hc : VT X c tc vc) (ha : VSs X sa t va) (hb : VSs X sb u vb) : VS X (.If c sa sb pos) (tIfS tc t u) (vIf vc va vb) := ⟨ps_if hc.pt ha.ps hb.ps, snd_if hc.snd ha.snd hb.snd⟩
end

/-! ### targets, stores -/
abbrev WG := D → Env → (Env → Prop) → Prop
abbrev WGs := List D → Env → (Env → Prop) → Prop
/-- ws: the slots that are written -/
def SndG (K : PySem.W.Frag) (g : TG) (t : WG) (ws : List Nat) : Prop := ∀ φ e σ G H d v (post : Env → Prop) (Q : L2.St → Hp → Prop), Rel K φ e σ G H → Rp K G d v → t d e post →
  (∀ e' σ' G' H', post e' → Rel K φ e' σ' G' H' → (σ'.length = σ.length ∧ ∀ i, i ∉ ws → σ'[i]? = σ[i]?) → Q σ' H') → g v σ H Q
def SndGs (K : PySem.W.Frag) (g : TGs) (t : WGs) (ws : List Nat) : Prop := ∀ φ e σ G H ds vs (post : Env → Prop) (Q : L2.St → Hp → Prop), Rel K φ e σ G H → Rps K G ds vs → t ds e post →
  (∀ e' σ' G' H', post e' → Rel K φ e' σ' G' H' → (σ'.length = σ.length ∧ ∀ i, i ∉ ws → σ'[i]? = σ[i]?) → Q σ' H') → g vs σ H Q
structure VG (X : Cx) (tg : Expr) (g : TG) (t : WG) (ws : List Nat) : Prop where
  pg : PG X tg g
  snd : SndG X.K g t ws
structure VGs (X : Cx) (tg : List Expr) (g : TGs) (t : WGs) (ws : List Nat) : Prop where
  pg : PGs X tg g
  snd : SndGs X.K g t ws
def wName (i : Nat) : WG := fun d e post => post (e.set i (some (.pu d)))
def wNil : WGs := fun ds e post => ds = [] ∧ post e
def wCons (t : WG) (u : WGs) : WGs := fun ds e post => match ds with
  | d :: r => t d e fun e1 => u r e1 post
  | [] => False
def wTup (n : Nat) (t : WGs) : WG := fun d e post => match d with
  | .tup ds => ds.length = n ∧ t ds e post
  | _ => False
section
variable {K : PySem.W.Frag}
theorem snd_gName {i : Nat} : SndG K (gName i) (wName i) [i] := fun φ e σ G H d v post Q R r t q => by
  refine q _ _ G H t ((R.consPu r).putin i) ⟨by rw [List.length_set], fun j hj => ?_⟩
  rw [List.getElem?_set_ne (by intro z; subst z; exact hj (by simp))]
theorem snd_gNil : SndGs K gNil wNil [] := fun φ e σ G H ds vs post Q R r t q => by
  obtain ⟨rfl, t⟩ := t
  unfold Rps at r
  exact ⟨r, q _ _ G H t R ⟨rfl, fun _ _ => rfl⟩⟩
theorem snd_gCons {g : TG} {t : WG} {gs : TGs} {ts : WGs} {w1 w2 : List Nat} (h : SndG K g t w1) (k : SndGs K gs ts w2) : SndGs K (gCons g gs) (wCons t ts) (w1 ++ w2) := fun φ e σ G H ds vs post Q R r p q => by
  cases ds with
  | nil => exact p.elim
  | cons d ds =>
    unfold Rps at r
    obtain ⟨v, vr, ev, rv, rr⟩ := r
    refine ⟨v, vr, ev, ?_⟩
    have T : Rel K φ (some (.pu (.tup ds)) :: e) (some (.ref 0) :: σ) G H → True := fun _ => trivial
    have p' : t d e fun e1 => ts ds e1 post := p
    -- the rest of the values is carried by the frame: what may be read stays
    refine h ⟨G, H, fpe e, φ.E⟩ e σ G H d v (fun e1 => ts ds e1 post) _ R.re rv p' fun e1 σ1 G1 H1 p1 S1 c1 => ?_
    refine k φ e1 σ1 G1 H1 ds vr post Q (R.back S1) (Rps.mono S1.frm.up ds vr rr) p1 fun e2 σ2 G2 H2 p2 S2 c2 => ?_
    refine q e2 σ2 G2 H2 p2 S2 ⟨c2.1.trans c1.1, fun i hi => ?_⟩
    rw [c2.2 i fun z => hi (List.mem_append_right _ z), c1.2 i fun z => hi (List.mem_append_left _ z)]
theorem snd_gTup {gs : TGs} {ts : WGs} {ws : List Nat} {n : Nat} (k : SndGs K gs ts ws) : SndG K (gTup K n gs) (wTup n ts) ws := fun φ e σ G H d v post Q R r p q => by
  unfold wTup at p
  split at p
  · unfold Rp at r
    obtain ⟨a, vs, rfl, hs, hv⟩ := r
    exact ⟨a, vs, rfl, R.sub.sqT hs, (Rps.len _ _ hv).trans p.1, k φ e σ G H _ vs post Q R hv p.2 q⟩
  · exact p.elim
def vSet (i : Nat) (a : WE) : WS := fun x pd e => a x e fun o e1 => pd.nx (e1.set i (some o))
def vAsg (a : WE) (t : WG) : WS := fun x pd e => a x e fun o e1 => t o.toD e1 pd.nx
theorem snd_set {te : TE} {a : WE} {i : Nat} (h : SndE K te a) : SndS K (tAsg te (gName i)) (vSet i a) := fun φ e σ G H x pd D R X t E =>
  h φ e σ G H x _ _ R X t fun o e1 v G1 H1 p R1 => E.nx _ _ _ _ p (R1.putin i)
theorem snd_asg {te : TE} {a : WE} {g : TG} {t : WG} {ws : List Nat} (h : SndE K te a) (k : SndG K g t ws) : SndS K (tAsg te g) (vAsg a t) := fun φ e σ G H x pd D R X t E => by
  refine h φ e σ G H x _ _ R X t fun o e1 v G1 H1 p R1 => ?_
  obtain ⟨G2, R2, _⟩ := R1.freeze
  exact k φ e1 σ G2 H1 _ v pd.nx _ R2.tail R2.headRp p fun e2 σ2 G3 H3 p3 R3 _ => E.nx _ _ _ _ p3 R3
/-- x[i] = e at a list of one's own, e first -/
def vSetIx (j : Nat) (b a : WE) : WS := fun x pd e => a x e fun o e1 => b x e1 fun oi e2 => onI oi fun i => onO (.pl j) e2 fun oc => onLs oc fun p xs => onOpt (ixN xs.length i) fun k => pd.nx (e2.set j (some (.ls p (xs.set k o.toD))))
theorem gSub_snd {j : Nat} {tb : TE} {b : WE} (hb : SndE K tb b) {φ : Fx} {e : Env} {σ : L2.St} {G H : Hp} {x : XP} {d : D} {v : V} {post : Env → Prop} {Q : L2.St → Hp → Prop} (R : Rel K φ e σ G H) (X : ExOk K φ x) (r : Rp K G d v) (hj : ∃ o, eget e j = some o)
    (t : b x e fun oi e2 => onI oi fun i => onO (.pl j) e2 fun oc => onLs oc fun p xs => onOpt (ixN xs.length i) fun k => post (e2.set j (some (.ls p (xs.set k d)))))
    (q : ∀ e' G' H', post e' → Rel K φ e' σ G' H' → Q σ H') : gSub (tVar j) tb rSetL v σ H Q := by
  obtain ⟨o, ho⟩ := hj
  obtain ⟨w, h1, h2⟩ := R.get (eget_some.mp ho)
  refine ⟨w, h1, ?_⟩
  have T := R.consPu r
  have F := Rel.frame (ts := [some (.pu d)]) (vs := [some v]) T rfl
  refine hb _ e σ G H x _ _ F.1 (ExOk.frame (ts := [some (.pu d)]) (vs := [some v]) X T rfl) t fun oi e2 u G2 H2 p2 R2 => ?_
  obtain ⟨i, rfl, p3⟩ := onI_iff.mp p2
  obtain ⟨oc, g2, p4⟩ := onO_iff.mp p3
  obtain ⟨p, xs, rfl, p5⟩ := onLs_iff.mp p4
  obtain ⟨k, hk, p6⟩ := onOpt_iff.mp p5
  have e0 := R2.headOAt.int
  subst e0
  have R3 := F.2 _ _ _ _ R2.tail
  have rv : Rp K G2 d v := Rel.headRp R3
  have R4 : Rel K φ e2 σ G2 H2 := Rel.tail R3
  have g2' : eget e2 j = some (.ls p xs) := g2
  have M := R4.mvout (eget_some.mp g2') h1
  obtain ⟨rfl, gp, ws, hp, hws⟩ := M.headOAt.ls
  obtain ⟨_, _, R5⟩ := M.mutLs (Rps.set _ _ k d v hws rv)
  have R6 := R5.putback h1
  rw [List.set_set] at R6
  exact ⟨p, ws, i, k, rfl, rfl, hp, by rw [Rps.len _ _ hws]; exact hk, q _ _ _ p6 R6⟩
theorem snd_setIx {te tb : TE} {a b : WE} {j : Nat} (ha : SndE K te a) (hb : SndE K tb b) : SndS K (tAsg te (gSub (tVar j) tb rSetL)) (fun x pd e => a x e fun o e1 => (∃ o', eget e1 j = some o') ∧ b x e1 fun oi e2 => onI oi fun i => onO (.pl j) e2 fun oc => onLs oc fun p xs => onOpt (ixN xs.length i) fun k => pd.nx (e2.set j (some (.ls p (xs.set k o.toD))))) := fun φ e σ G H x pd D R X t E => by
  refine ha φ e σ G H x _ _ R X t fun o e1 v G1 H1 p R1 => ?_
  obtain ⟨G2, R2, _⟩ := R1.freeze
  exact gSub_snd hb R2.tail X R2.headRp p.1 p.2 fun e' G' H' p' R' => E.nx _ _ _ _ p' R'
end
section
variable {X : Cx} {tg e : Expr} {te tb : TE} {a b : WE} {g : TG} {t : WG} {gs : TGs} {ts : WGs} {ws w1 w2 : List Nat} {pos pos' : Pos} {es : List Expr}
theorem vg_name {i : Nat} {x : Str} (hN : X.N.Nodup) (hi : X.N[i]? = some x) (hx : Loc X.env.scope x) (hf : X.fn x = true ∨ X.env.scope.names.lookup x = some .local := by first | exact .inl rfl | exact .inr rfl | assumption) : VG X (.Name x pos) (gName i) (wName i) [i] := ⟨pg_name hN hi hx hf, snd_gName⟩
theorem vgs_nil : VGs X [] gNil wNil [] := ⟨pgs_nil, snd_gNil⟩
theorem vgs_cons (h : VG X e g t w1) (k : VGs X es gs ts w2) (hs : (assignEach (e :: es) X.env).map (·.2) = assign e X.env :: (assignEach es X.env).map (·.2) := by rfl) : VGs X (e :: es) (gCons g gs) (wCons t ts) (w1 ++ w2) := ⟨pgs_cons h.pg k.pg hs, snd_gCons h.snd k.snd⟩
theorem vg_tup {k : Nat} {n : Nat} (hc : X.calm = true) (h : VGs X es gs ts ws) (hn : (assignEach es X.env).length = n := by rfl) (hst : (assignEach es X.env).findIdx? (·.1) = none := by rfl) : VG X (.Tuple es k pos) (gTup X.K n gs) (wTup n ts) ws := ⟨pg_tup hc h.pg hn hst, snd_gTup h.snd⟩
theorem vs_set {i : Nat} {x : Str} (hN : X.N.Nodup) (hi : X.N[i]? = some x) (hx : Loc X.env.scope x) (h : VE X e te a) (hs : swapsWith e (some (.Name x pos')) pos.line X.env = pure false := by rfl) (hf : X.fn x = true ∨ X.env.scope.names.lookup x = some .local := by first | exact .inl rfl | exact .inr rfl | assumption) :
    VS X (.Assign [.Name x pos'] e pos) (tAsg te (gName i)) (vSet i a) := ⟨ps_set hN hi hx h.pe hs hf, snd_set h.snd⟩
theorem vs_asg (h : VE X e te a) (k : VG X tg g t ws) (hs : swapsWithSole [tg] e pos.line X.env = pure false := by rfl) (hw : swappedStores [tg] e X.env = pure none := by rfl) (h1 : (assignEach [tg] X.env).map (·.2) = [assign tg X.env] := by rfl) :
    VS X (.Assign [tg] e pos) (tAsg te g) (vAsg a t) := ⟨ps_asg h.pe k.pg hs hw h1, snd_asg h.snd k.snd⟩
end

/-! ### for -/
def rangeD (lo : Int) (n : Nat) : List D := (List.range n).map fun (i : Nat) => D.int (lo + (i : Int))
theorem rangeD_len (lo : Int) (n : Nat) : (rangeD lo n).length = n := by unfold rangeD; simp
def Walk (K : PySem.W.Frag) (J : It) (ds : List D) (G0 H0 : Hp) (l : List Addr) : Prop := ∀ (E : Value → Option Addr → L2.St → Hp → Prop) (e : Env) (σ : L2.St) (G H : Hp) (i : Nat), Rel K ⟨G0, H0, l, E⟩ e σ G H →
  (∀ d, ds[i]? = some d → J.go i H ∧ ∀ v H', J.yld i H v H' → ∃ G', Rel K ⟨G0, H0, l, E⟩ e σ G' H' ∧ Rp K G' d v) ∧ (ds.length ≤ i → J.stop i H)
abbrev WI := XP → Env → (List D → Env → Prop) → Prop
def SndI (K : PySem.W.Frag) (wi : TI) (t : WI) : Prop := ∀ φ e σ G H x (post : List D → Env → Prop) (R : It → Hp → Prop), Rel K φ e σ G H → ExOk K φ x → t x e post →
  (∀ ds e' J G' H', post ds e' → Rel K φ e' σ G' H' → Walk K J ds G' H' (fpe e') → R J H') → wi σ H R
structure VI (X : Cx) (tg iter : Expr) (wi : TI) (t : WI) : Prop where
  pi : PI X tg iter wi
  snd : SndI X.K wi t
def forL (x : XP) (t : WG) (b : WS) (pd : Pd) : List D → Env → Prop
  | [], e => pd.nx e
  | d :: r, e => t d e fun e1 => b x ⟨forL x t b pd r, pd.rt, pd.nx, forL x t b pd r⟩ e1
def vFor (w : WI) (t : WG) (b : WS) : WS := fun x pd e => w x e fun ds e1 => forL x t b pd ds e1
section
variable {K : PySem.W.Frag}
theorem loop_snd {J : It} {ds : List D} {g : TG} {t : WG} {ws : List Nat} {tb : TS} {b : WS} {φ : Fx} {e : Env} {σ : L2.St} {G H : Hp} {x : XP} {pd : Pd} {D : Ends} (hg : SndG K g t ws) (hb : SndS K tb b) (R : Rel K φ e σ G H) (X : ExOk K φ x) (W : Walk K J ds G H (fpe e)) (p : forL x t b pd ds e) (E : EndsOk K φ pd D) :
    ∃ W : Nat → Nat → L2.St → Hp → Prop, (∃ m, W 0 m σ H) ∧ ∀ i m σ H, W i m σ H →
      (J.stop i H ∧ D.nx σ H) ∨ (J.go i H ∧ ∃ N : L2.St → Hp → Prop, (∀ σ' H', N σ' H' → ∃ m', m' < m ∧ W (i + 1) m' σ' H') ∧ ∀ y H', J.yld i H y H' → g y σ H' fun σ2 H2 => tb { D with nx := N, ct := N, bk := D.nx } σ2 H2) := by
  refine ⟨fun i m σ' H' => m = ds.length - i ∧ i ≤ ds.length ∧ ∃ e' G', Rel K (rb φ e G H) e' σ' G' H' ∧ forL x t b pd (ds.drop i) e', ⟨ds.length, by simp, Nat.zero_le _, e, G, R.re, p⟩, ?_⟩
  rintro i m σ1 H1 ⟨rfl, hi, e1, G1, S1, p1⟩
  have w := W φ.E e1 σ1 G1 H1 i S1
  by_cases hlt : i < ds.length
  · have hd : ds[i]? = some ds[i] := List.getElem?_eq_getElem hlt
    rw [List.drop_eq_getElem_cons hlt] at p1
    refine .inr ⟨(w.1 _ hd).1, fun σ' H' => ∃ e' G', Rel K (rb φ e G H) e' σ' G' H' ∧ forL x t b pd (ds.drop (i + 1)) e', fun σ' H' h' => ⟨ds.length - (i + 1), by omega, rfl, hlt, h'⟩, fun y H' hy => ?_⟩
    obtain ⟨G2, S2, r2⟩ := (w.1 _ hd).2 y H' hy
    refine hg (rb φ e G H) e1 σ1 G2 H' _ y _ _ S2 r2 p1 fun e3 σ3 G3 H3 p3 S3 _ => ?_
    refine hb (rb φ e G H) e3 σ3 G3 H3 x _ _ S3 (X.re R) p3 ⟨fun e' σ' G' H' p S => ⟨e', G', S, p⟩, fun o e' v σ' G' H' p S => E.rt _ _ _ _ _ _ p (R.back S), fun e' σ' G' H' p S => E.nx _ _ _ _ p (R.back S), fun e' σ' G' H' p S => ⟨e', G', S, p⟩⟩
  · have e0 : i = ds.length := by omega
    subst e0
    rw [List.drop_length] at p1
    exact .inl ⟨w.2 (Nat.le_refl _), E.nx _ _ _ _ p1 (R.back S1)⟩
theorem snd_for {wi : TI} {w : WI} {g : TG} {t : WG} {ws : List Nat} {tb : TS} {b : WS} (hi : SndI K wi w) (hg : SndG K g t ws) (hb : SndS K tb b) : SndS K (tFor wi g tb) (vFor w t b) := fun φ e σ G H x pd D R X p E =>
  hi φ e σ G H x _ _ R X p fun ds e1 J G1 H1 p1 R1 W => loop_snd hg hb R1 X W p1 E
/-! what is walked: a list, a tuple, a range -/
theorem walk_list {a : Addr} {ds : List D} {vs : List V} {G H : Hp} {l : List Addr} (h : SqL K G a vs) (hs : Rps K G ds vs) : Walk K (Itl K a) ds G H l := fun E e σ G' H' i R => by
  have q : SqL K H' a vs := R.sub.sqL (R.frm.up.sqL h)
  have hs' := Rps.mono R.frm.up ds vs hs
  refine ⟨fun d hd => ?_, fun hi => ⟨vs, q, by rw [Rps.len ds vs hs]; exact hi⟩⟩
  obtain ⟨v, hv, rv⟩ := Rps.get ds vs i d hs' hd
  refine ⟨⟨vs, v, q, hv⟩, fun y H2 hy => ?_⟩
  obtain ⟨rfl, f⟩ := hy
  have ev : y = v := Option.some.inj ((f vs q).symm.trans hv)
  subst ev
  exact ⟨G', R, rv⟩
theorem walk_tup {a : Addr} {ds : List D} {vs : List V} {G H : Hp} {l : List Addr} (h : SqT K G a vs) (hs : Rps K G ds vs) : Walk K (Itt K a) ds G H l := fun E e σ G' H' i R => by
  have q : SqT K H' a vs := R.sub.sqT (R.frm.up.sqT h)
  have hs' := Rps.mono R.frm.up ds vs hs
  refine ⟨fun d hd => ?_, fun hi => ⟨vs, q, by rw [Rps.len ds vs hs]; exact hi⟩⟩
  obtain ⟨v, hv, rv⟩ := Rps.get ds vs i d hs' hd
  refine ⟨⟨vs, v, q, hv⟩, fun y H2 hy => ?_⟩
  obtain ⟨rfl, f⟩ := hy
  have ev : y = v := Option.some.inj ((f vs q).symm.trans hv)
  subst ev
  exact ⟨G', R, rv⟩
theorem walk_range {lo : Int} {n : Nat} {G H : Hp} {l : List Addr} : Walk K (Itr lo n) (rangeD lo n) G H l := fun E e σ G' H' i R => by
  refine ⟨fun d hd => ?_, fun hi => by rw [rangeD_len] at hi; exact hi⟩
  have hi : i < n := by
    have h := (List.getElem?_eq_some_iff.mp hd).1
    rw [rangeD_len] at h
    exact h
  unfold rangeD at hd
  rw [List.getElem?_map, List.getElem?_range hi] at hd
  cases hd
  refine ⟨hi, fun y H2 hy => ?_⟩
  obtain ⟨rfl, rfl⟩ := hy
  exact ⟨G', R, rp_int⟩
/-- a list or a tuple of pure things -/
def wSeq (lst : Bool) (a : WE) : WI := fun x e post => a x e fun o e1 => match o.toD, lst with
  | .lst ds, true => post ds e1
  | .tup ds, false => post ds e1
  | _, _ => False
theorem snd_iList {te : TE} {a : WE} (h : SndE K te a) : SndI K (iList K te) (wSeq true a) := fun φ e σ G H x post Q R X t q => by
  refine h φ e σ G H x _ _ R X t fun o e1 v G1 H1 p R1 => ?_
  obtain ⟨G2, R2, _⟩ := R1.freeze
  split at p
  · rename_i ds hd _
    have r := R2.headRp
    rw [hd] at r
    unfold Rp at r
    obtain ⟨l, vs, rfl, hs, hv⟩ := r
    exact ⟨l, rfl, ⟨vs, R2.sub.sqL hs⟩, q ds e1 _ G2 H1 p R2.tail (walk_list hs hv)⟩
  · rename_i h0; cases h0
  · exact p.elim
theorem snd_iTup {te : TE} {a : WE} (h : SndE K te a) : SndI K (iTup K te) (wSeq false a) := fun φ e σ G H x post Q R X t q => by
  refine h φ e σ G H x _ _ R X t fun o e1 v G1 H1 p R1 => ?_
  obtain ⟨G2, R2, _⟩ := R1.freeze
  split at p
  · rename_i h0; cases h0
  · rename_i ds hd _
    have r := R2.headRp
    rw [hd] at r
    unfold Rp at r
    obtain ⟨l, vs, rfl, hs, hv⟩ := r
    exact ⟨l, rfl, ⟨vs, R2.sub.sqT hs⟩, q ds e1 _ G2 H1 p R2.tail (walk_tup hs hv)⟩
  · exact p.elim
def wRange1 (a : WP) : WI := fun x e post => a x e fun ds e1 => on1 ds fun d => onI (.pu d) fun j => -(2 ^ 62) ≤ j ∧ j < 2 ^ 62 ∧ post (rangeD 0 j.toNat) e1
theorem snd_iRng1 {ta : TA} {a : WP} (h : SndP K ta a) : SndI K (iRng1 ta) (wRange1 a) := fun φ e σ G H x post Q R X t q => by
  refine h φ e σ G H x _ _ R X t fun ds e1 vs G1 H1 p R1 hs => ?_
  obtain ⟨d, rfl, p1⟩ := on1_iff.mp p
  obtain ⟨j, ej, b1, b2, p2⟩ := onI_iff.mp p1
  cases ej
  obtain ⟨v, rfl, rv⟩ := hs.un1
  unfold Rp at rv
  subst rv
  exact ⟨j, rfl, b1, b2, q _ e1 _ G1 H1 p2 R1 walk_range⟩
def wRange2 (a : WP) : WI := fun x e post => a x e fun ds e1 => match ds with
  | [.int i, .int j] => (-(2 ^ 62) ≤ i ∧ i < 2 ^ 62 ∧ -(2 ^ 62) ≤ j ∧ j < 2 ^ 62) ∧ post (rangeD i (j - i).toNat) e1
  | _ => False
theorem snd_iRng2 {ta : TA} {a : WP} (h : SndP K ta a) : SndI K (iRng2 ta) (wRange2 a) := fun φ e σ G H x post Q R X t q => by
  refine h φ e σ G H x _ _ R X t fun ds e1 vs G1 H1 p R1 hs => ?_
  match ds, p, hs with
  | [.int i, .int j], p, hs =>
    unfold Rps at hs
    obtain ⟨v, r, rfl, rv, hs2⟩ := hs
    obtain ⟨u, rfl, ru⟩ := hs2.un1
    unfold Rp at rv ru
    subst rv ru
    exact ⟨i, j, rfl, p.1, q _ e1 _ G1 H1 p.2 R1 walk_range⟩
end
section
variable {X : Cx} {tg e : Expr} {te : TE} {a : WE} {pos p : Pos} {ta : TA} {wp : WP}
theorem vi_list (h : VE X e te a) : VI X tg e (iList X.K te) (wSeq true a) := ⟨pi_list h.pe, snd_iList h.snd⟩
theorem vi_tup (h : VE X e te a) : VI X tg e (iTup X.K te) (wSeq false a) := ⟨pi_tup h.pe, snd_iTup h.snd⟩
theorem vi_range1 {a : Expr} (hg : Gl X "range") (hm : X.mg "range" = none) (ha : VP X [a] ta wp) (hs : starEach [a] X.env = [(false, eval a X.env)] := by rfl) : VI X tg (.Call (.Name "range" p) [a] [] pos) (iRng1 ta) (wRange1 wp) := ⟨pi_range1 hg hm ha.pa hs, snd_iRng1 ha.snd⟩
theorem vi_range2 {a b : Expr} (hg : Gl X "range") (hm : X.mg "range" = none) (ha : VP X [a, b] ta wp) (hs : starEach [a, b] X.env = [(false, eval a X.env), (false, eval b X.env)] := by rfl) (hs2 : starEach [b] X.env = [(false, eval b X.env)] := by rfl) : VI X tg (.Call (.Name "range" p) [a, b] [] pos) (iRng2 ta) (wRange2 wp) := ⟨pi_range2 hg hm ha.pa hs hs2, snd_iRng2 ha.snd⟩
theorem vs_for {iter : Expr} {body : List Stmt} {wi : TI} {w : WI} {g : TG} {t : WG} {ws : List Nat} {tb : TS} {b : WS} (hp : PassesOwn (model X.prog X.w) X.A X.env X.xe) (hc : X.calm = true) (hi : VI X tg iter wi w) (hg : VG X tg g t ws) (hb : VSs X body tb b)
    (hs : ∀ x, foldedSetIterable iter X.env x = pure x := by intro _; rfl) : VS X (.For tg iter body [] pos) (tFor wi g tb) (vFor w t b) := ⟨ps_for hp hc hi.pi hg.pg hb.ps hs, snd_for hi.snd hg.snd hb.snd⟩
end

/-! ### while -/
def vWhile (c : WT) (b : WS) : WS := fun x pd e => ∃ W : Nat → Env → Prop, (∃ m, W m e) ∧ ∀ m e, W m e → c x e fun k e1 => if k = true then b x ⟨fun e' => ∃ m', m' < m ∧ W m' e', pd.rt, pd.nx, fun e' => ∃ m', m' < m ∧ W m' e'⟩ e1 else pd.nx e1
theorem snd_while {K : PySem.W.Frag} {c : TT} {vc : WT} {tb : TS} {b : WS} (hc : SndT K c vc) (hb : SndS K tb b) : SndS K (tWhile c tb) (vWhile vc b) := fun φ e σ G H x pd D R X t E => by
  obtain ⟨W, ⟨m0, w0⟩, step⟩ := t
  refine ⟨fun m σ' H' => ∃ e' G', Rel K φ e' σ' G' H' ∧ W m e', ⟨m0, e, G, R, w0⟩, ?_⟩
  rintro m σ1 H1 ⟨e1, G1, R1, w1⟩
  refine hc φ e1 σ1 G1 H1 x _ _ R1 X (step m e1 w1) fun k e2 G2 H2 p2 R2 => ?_
  cases k with
  | false => exact E.nx _ _ _ _ p2 R2
  | true =>
    refine ⟨fun σ' H' => ∃ e' G', Rel K φ e' σ' G' H' ∧ ∃ m', m' < m ∧ W m' e', fun σ' H' ⟨e', G', R', m', hm, w'⟩ => ⟨m', hm, e', G', R', w'⟩, ?_⟩
    exact hb φ e2 σ1 G2 H2 x _ _ R2 X p2 ⟨fun e' σ' G' H' p S => ⟨e', G', S, p⟩, E.rt, E.nx, fun e' σ' G' H' p S => ⟨e', G', S, p⟩⟩
theorem vs_while {X : Cx} {c : Expr} {body : List Stmt} {tc : TT} {vc : WT} {tb : TS} {b : WS} {pos : Pos} (hp : PassesOwn (model X.prog X.w) X.A X.env X.xe) (hc : VT X c tc vc) (hb : VSs X body tb b) : VS X (.While c body [] pos) (tWhile tc tb) (vWhile vc b) := ⟨ps_while hp hc.pt hb.ps, snd_while hc.snd hb.snd⟩
end Vl

namespace Vl
open PySem PySem.Spec PyProof.Rows L2

/-! ### comprehensions -/
def wipeE (e : Env) : List Nat → Env
  | [] => e
  | v :: vs => (wipeE e vs).set v none
theorem wipe_get (σ : L2.St) : ∀ (vs : List Nat) (i : Nat), (wipe σ vs)[i]? = if i ∈ vs then (if i < σ.length then some none else none) else σ[i]?
  | [], i => by simp [wipe]
  | v :: vs, i => by
    have ih := wipe_get σ vs i
    unfold wipe
    by_cases h : v = i
    · subst h
      rw [List.getElem?_set]
      simp [wipe_length]
    · rw [List.getElem?_set_ne h, ih]
      have h' : i ≠ v := fun z => h z.symm
      simp [h']
theorem wipe_eq {σ σ2 : L2.St} {vs ws : List Nat} (hl : σ2.length = (wipe σ vs).length) (h : ∀ i, i ∉ ws → σ2[i]? = (wipe σ vs)[i]?) (hs : ∀ i ∈ ws, i ∈ vs) : wipe σ2 vs = wipe σ vs := by
  rw [wipe_length] at hl
  apply List.ext_getElem?
  intro i
  rw [wipe_get, wipe_get, hl]
  by_cases hi : i ∈ vs
  · simp [hi]
  · have hw : i ∉ ws := fun z => hi (hs i z)
    rw [if_neg hi, if_neg hi, h i hw, wipe_get, if_neg hi]
theorem wipeE_none (e : Env) : ∀ (vs : List Nat) (i : Nat), i ∈ vs → ∀ o, (wipeE e vs)[i]? ≠ some (some o)
  | v :: vs, i, hi, o => by
    unfold wipeE
    rw [List.getElem?_set]
    by_cases h : v = i
    · subst h
      rw [if_pos rfl]
      split <;> simp
    · rw [if_neg h]
      rcases List.mem_cons.mp hi with z | z
      · exact absurd z.symm h
      · exact wipeE_none e vs i z o
section
variable {K : PySem.W.Frag} {φ : Fx} {e : Env} {σ : L2.St} {G H : Hp}
theorem Slots.wipe1 : ∀ (e : Env) (σ : L2.St) (i : Nat), Slots K G H e σ → Slots K G H (e.set i none) (σ.set i none)
  | [], _, i, h => by have z : _ = [] := h; subst z; exact rfl
  | none :: e, _, i, h => by
    obtain ⟨x, r, z, b⟩ := h
    subst z
    cases i with
    | zero => exact ⟨none, r, rfl, b⟩
    | succ i => exact ⟨x, r.set i none, rfl, Slots.wipe1 e r i b⟩
  | some o :: e, _, i, h => by
    obtain ⟨w, r, z, a, b⟩ := h
    subst z
    cases i with
    | zero => exact ⟨none, r, rfl, b⟩
    | succ i => exact ⟨w, r.set i none, rfl, a, Slots.wipe1 e r i b⟩
theorem Rel.wipe0 : ∀ (vs : List Nat), Rel K φ e σ G H → Rel K φ (wipeE e vs) (L2.wipe σ vs) G H
  | [], R => R
  | v :: vs, R => by
    have S := Rel.wipe0 vs R
    unfold wipeE L2.wipe
    exact ⟨S.frm, Slots.wipe1 _ _ v S.slots, S.nd.sublist (fpe_drop _ v), fun p hp => S.own p ((fpe_drop _ v).subset hp)⟩
theorem Rel.wipeH {t : Option O} {s : Option V} (vs : List Nat) (R : Rel K φ (t :: e) (s :: σ) G H) : Rel K φ (t :: wipeE e vs) (s :: L2.wipe σ vs) G H := by
  have F := Rel.frame (ts := [t]) (vs := [s]) R rfl
  exact F.2 _ _ _ _ (F.1.wipe0 vs)
theorem Slots.resl : ∀ (e : Env) (σ σ' : L2.St), Slots K G H e σ → σ'.length = σ.length → (∀ (i : Nat) (o : O), e[i]? = some (some o) → σ'[i]? = σ[i]?) → Slots K G H e σ'
  | [], _, σ', h, hl, _ => by
    have z : _ = [] := h
    subst z
    exact List.length_eq_zero_iff.mp hl
  | none :: e, _, σ', h, hl, f => by
    obtain ⟨x, r, z, b⟩ := h
    subst z
    cases σ' with
    | nil => cases hl
    | cons y t => exact ⟨y, t, rfl, Slots.resl e r t b (by simpa using hl) fun i o q => by have k := f (i + 1) o q; simpa using k⟩
  | some o :: e, _, σ', h, hl, f => by
    obtain ⟨x, r, z, a, b⟩ := h
    subst z
    cases σ' with
    | nil => cases hl
    | cons y t =>
      have k0 := f 0 o rfl
      have k0' : y = some x := by simpa using k0
      subst k0'
      exact ⟨x, t, rfl, a, Slots.resl e r t b (by simpa using hl) fun i o q => by have k := f (i + 1) o q; simpa using k⟩
theorem Rel.unwipe {vs : List Nat} (R : Rel K φ e (L2.wipe σ vs) G H) (h : ∀ i ∈ vs, ∀ o, e[i]? ≠ some (some o)) : Rel K φ e σ G H :=
  ⟨R.frm, Slots.resl e _ σ R.slots (wipe_length σ vs).symm fun i o q => by
    have hi : i ∉ vs := fun z => h i z o q
    rw [wipe_get, if_neg hi], R.nd, R.own⟩
theorem Rel.unwipeH {t : Option O} {s : Option V} {vs : List Nat} (R : Rel K φ (t :: e) (s :: L2.wipe σ vs) G H) (h : ∀ i ∈ vs, ∀ o, e[i]? ≠ some (some o)) : Rel K φ (t :: e) (s :: σ) G H := by
  have F := Rel.frame (ts := [t]) (vs := [s]) R rfl
  exact F.2 _ _ _ _ (F.1.unwipe h)
end
def lcL (x : XP) (t : WG) (c : WT) (b : WE) (vs : List Nat) : List D → List D → Env → (List D → Env → Prop) → Prop
  | [], acc, e, k => k acc e
  | d :: r, acc, e, k => t d e fun e1 => c x e1 fun y e2 => if y = true then b x e2 fun o e3 => lcL x t c b vs r (acc ++ [o.toD]) (wipeE e3 vs) k else lcL x t c b vs r acc (wipeE e2 vs) k
def vLc (w : WI) (t : WG) (c : WT) (b : WE) (vs : List Nat) : WE := fun x e post => w x e fun ds e1 => ds.length < sizeLine ∧ lcL x t c b vs ds [] (wipeE e1 vs) fun acc e2 => ∀ p, post (.ls p acc) e2
def vYes : WT := fun _ e post => post true e
theorem snd_yes {K : PySem.W.Frag} : SndT K tYes vYes := fun φ e σ G H x post Q R X t q => q true e G H t R
section
variable {K : PySem.W.Frag}
theorem lc_snd {J : It} {ds : List D} {g : TG} {t : WG} {ws vs : List Nat} {tt : TT} {c : WT} {te : TE} {b : WE} {φ : Fx} {e : Env} {σ : L2.St} {G H : Hp} {x : XP} {k : List D → Env → Prop} {Dl : Addr} {Qd : Hp → Prop}
    (hg : SndG K g t ws) (hw : ∀ i ∈ ws, i ∈ vs) (hc : SndT K tt c) (hb : SndE K te b) (R : Rel K φ e σ G H) (X : ExOk K φ x) (W : Walk K J ds G H (fpe e)) (hz : ds.length < sizeLine) (p : lcL x t c b vs ds [] (wipeE e vs) k) (hD : H Dl = none)
    (fin : ∀ acc e' G' H', k acc e' → Rel K φ (some (.ls Dl acc) :: e') (some (.ref Dl) :: σ) G' H' → Qd H') :
    ∃ W : Nat → Nat → Hp → Prop, (∃ m, W 0 m (upd H Dl (.lst []))) ∧ ∀ i m H, W i m H →
      (J.stop i H ∧ Qd H) ∨ (J.go i H ∧ ∃ Nx : Hp → Prop, (∀ H', Nx H' → ∃ m', m' < m ∧ W (i + 1) m' H') ∧ ∀ y H', J.yld i H y H' → g y (L2.wipe σ vs) H' fun σ2 H2 => L2.wipe σ2 vs = L2.wipe σ vs ∧ tt σ2 H2 fun b H3 =>
        if b = true then te σ2 H3 fun z H4 => ∃ acc, H4 Dl = some (.lst acc) ∧ acc.length < sizeLine ∧ Nx (upd H4 Dl (.lst (acc ++ [z]))) else Nx H3) := by
  have start : Rel K (rb φ e G H) (some (.ls Dl []) :: wipeE e vs) (some (.ref Dl) :: L2.wipe σ vs) G (upd H Dl (.lst [])) := (R.re.newLs hD Rps.nil).wipeH vs
  refine ⟨fun i m H' => m = ds.length - i ∧ i ≤ ds.length ∧ ∃ e' G' acc, Rel K (rb φ e G H) (some (.ls Dl acc) :: e') (some (.ref Dl) :: L2.wipe σ vs) G' H' ∧ acc.length ≤ i ∧ (∀ i ∈ vs, ∀ o, e'[i]? ≠ some (some o)) ∧ lcL x t c b vs (ds.drop i) acc e' k,
    ⟨ds.length, by simp, Nat.zero_le _, _, G, [], start, Nat.zero_le _, wipeE_none e vs, p⟩, ?_⟩
  rintro i m H1 ⟨rfl, hi, e1, G1, acc, S1, hacc, nn, p1⟩
  have w := W φ.E _ _ G1 H1 i S1
  by_cases hlt : i < ds.length
  · have hd : ds[i]? = some ds[i] := List.getElem?_eq_getElem hlt
    rw [List.drop_eq_getElem_cons hlt] at p1
    refine .inr ⟨(w.1 _ hd).1, fun H' => ∃ e' G' acc, Rel K (rb φ e G H) (some (.ls Dl acc) :: e') (some (.ref Dl) :: L2.wipe σ vs) G' H' ∧ acc.length ≤ i + 1 ∧ (∀ i ∈ vs, ∀ o, e'[i]? ≠ some (some o)) ∧ lcL x t c b vs (ds.drop (i + 1)) acc e' k,
      fun H' h' => ⟨ds.length - (i + 1), by omega, rfl, hlt, h'⟩, fun y H' hy => ?_⟩
    obtain ⟨G2, S2, r2⟩ := (w.1 _ hd).2 y H' hy
    have F := Rel.frame (ts := [some (.ls Dl acc)]) (vs := [some (.ref Dl)]) S2 rfl
    have Xr := ExOk.frame (ts := [some (.ls Dl acc)]) (vs := [some (.ref Dl)]) (X.re R) S2 rfl
    refine hg _ e1 _ G2 H' _ y _ _ F.1 r2 p1 fun e2 σ2 G3 H3 p2 S3 c3 => ?_
    have we := wipe_eq c3.1 c3.2 hw
    refine ⟨we, ?_⟩
    refine hc _ e2 σ2 G3 H3 x _ _ S3 ?_ p2 fun y2 e3 G4 H4 p3 S4 => ?_
    · exact Xr
    · cases y2 with
      | false =>
        have T0 : Rel K (rb φ e G H) (some (.ls Dl acc) :: e3) (some (.ref Dl) :: σ2) G4 H4 := F.2 _ _ _ _ S4
        have T := Rel.wipeH vs T0
        rw [we] at T
        exact ⟨_, G4, acc, T, by omega, wipeE_none e3 vs, p3⟩
      | true =>
        refine hb _ e3 σ2 G4 H4 x _ _ S4 Xr p3 fun o e4 v G5 H5 p4 S5 => ?_
        obtain ⟨G6, S6, _⟩ := S5.freeze
        have T : Rel K (rb φ e G H) (some (.ls Dl acc) :: some (.pu o.toD) :: e4) (some (.ref Dl) :: some v :: σ2) G6 H5 := F.2 _ _ _ _ S6
        have T2 : Rel K (rb φ e G H) (some (.pu o.toD) :: some (.ls Dl acc) :: e4) (some v :: some (.ref Dl) :: σ2) G6 H5 := Rel.swap T
        obtain ⟨_, _, xs, hx, hxs⟩ := T2.tail.headOAt.ls
        obtain ⟨_, _, T3⟩ := T2.tail.mutLs (Rps.app _ _ _ _ hxs (Rps.one T2.headRp))
        have T4 := Rel.wipeH vs T3
        rw [we] at T4
        refine ⟨xs, hx, ?_, _, G6, acc ++ [o.toD], T4, ?_, wipeE_none e4 vs, p4⟩
        · rw [Rps.len _ _ hxs]; omega
        · rw [List.length_append]; simp; omega
  · have e0 : i = ds.length := by omega
    subst e0
    rw [List.drop_length] at p1
    exact .inl ⟨w.2 (Nat.le_refl _), fin acc e1 G1 H1 p1 (Rel.unwipeH (R.back S1) nn)⟩
theorem snd_lc {wi : TI} {w : WI} {g : TG} {t : WG} {ws vs : List Nat} {tt : TT} {c : WT} {te : TE} {b : WE} (hi : SndI K wi w) (hg : SndG K g t ws) (hw : ∀ i ∈ ws, i ∈ vs) (hc : SndT K tt c) (hb : SndE K te b) : SndE K (tLc wi g tt te vs) (vLc w t c b vs) := fun φ e σ G H x post Q R X p q =>
  hi φ e σ G H x _ _ R X p fun ds e1 J G1 H1 p1 R1 W Dl hD => lc_snd hg hw hc hb R1 X W p1.1 p1.2 hD fun acc e' G' H' pk R' => q _ e' _ G' H' (pk Dl) R'
end
structure VTs (X : Cx) (ifs : List Expr) (tt : TT) (t : WT) : Prop where
  pts : PTs X ifs tt
  snd : SndT X.K tt t
theorem vts_nil {X : Cx} : VTs X [] tYes vYes := ⟨pts_nil, snd_yes⟩
theorem vts_one {X : Cx} {e : Expr} {tt : TT} {t : WT} (h : VT X e tt t) : VTs X [e] tt t := ⟨pts_one h.pt, h.snd⟩
section
variable {X : Cx} {elt tg iter : Expr} {ifs : List Expr} {scope : Scope} {own : List (Str × Nat)} {pos spos py : Pos} {wi : TI} {w : WI} {g : TG} {t : WG} {ws : List Nat} {tt : TT} {c : WT} {te : TE} {b : WE} {y : Str} {i : Nat}
theorem ve_lc (hc : X.calm = true) (hN : X.N.Nodup) (hi : VI X tg iter wi w) (ok : BlkOk X.N X.env.scope scope own)
    (hg : ∀ (s : Shared) (H : Hp) (C : Addr) (cl : List (Str × Addr)) (fp : List Addr), VG (X.blk s H scope (compEnvC scope cl C X.env) fp) tg g t ws) (hw : ∀ i ∈ ws, i ∈ own.map (·.2))
    (ht : ∀ (s : Shared) (H : Hp) (C : Addr) (cl : List (Str × Addr)) (fp : List Addr), VTs (X.blk s H scope (compEnvC scope cl C X.env) fp) ifs tt c)
    (he : ∀ (s : Shared) (H : Hp) (C : Addr) (cl : List (Str × Addr)) (fp : List Addr), VE (X.blk s H scope (compEnvC scope cl C X.env) fp) elt te b) (hs : ∀ x, foldedSetIterable iter X.env x = pure x := by intro _; rfl) :
    VE X (.ListComp elt [⟨tg, iter, ifs, 0⟩] scope pos) (tLc wi g tt te (own.map (·.2))) (vLc w t c b (own.map (·.2))) :=
  ⟨pe_lc hc hN hi.pi ok (fun s H C cl fp => (hg s H C cl fp).pg) (fun s H C cl fp => (ht s H C cl fp).pts) (fun s H C cl fp => (he s H C cl fp).pe) hs,
    snd_lc hi.snd (hg X.s_0 X.H_0 0 [] []).snd hw (ht X.s_0 X.H_0 0 [] []).snd (he X.s_0 X.H_0 0 [] []).snd⟩
theorem vs_setLc (hc : X.calm = true) (hN : X.N.Nodup) (hy : X.N[i]? = some y) (hyl : X.env.scope.names.lookup y = some .local) (hsw : swapsWith (.ListComp elt [⟨tg, iter, ifs, 0⟩] scope pos) (some (.Name y py)) spos.line X.env = pure true)
    (hi : VI X tg iter wi w) (ok : BlkOk X.N X.env.scope scope own)
    (hg : ∀ (s : Shared) (H : Hp) (C : Addr) (cl : List (Str × Addr)) (fp : List Addr), VG (X.blk s H scope (compEnvC scope cl C X.env) fp) tg g t ws) (hw : ∀ i ∈ ws, i ∈ own.map (·.2))
    (ht : ∀ (s : Shared) (H : Hp) (C : Addr) (cl : List (Str × Addr)) (fp : List Addr), VTs (X.blk s H scope (compEnvC scope cl C X.env) fp) ifs tt c)
    (he : ∀ (s : Shared) (H : Hp) (C : Addr) (cl : List (Str × Addr)) (fp : List Addr), VE (X.blk s H scope (compEnvC scope cl C X.env) fp) elt te b) (hs : ∀ x, foldedSetIterable iter X.env x = pure x := by intro _; rfl) :
    VS X (.Assign [.Name y py] (.ListComp elt [⟨tg, iter, ifs, 0⟩] scope pos) spos) (tAsg (tLc wi g tt te (own.map (·.2))) (gName i)) (vSet i (vLc w t c b (own.map (·.2)))) :=
  ⟨ps_setLc hc hN hy hyl hsw hi.pi ok (fun s H C cl fp => (hg s H C cl fp).pg) (fun s H C cl fp => (ht s H C cl fp).pts) (fun s H C cl fp => (he s H C cl fp).pe) hs,
    snd_set (snd_lc hi.snd (hg X.s_0 X.H_0 0 [] []).snd hw (ht X.s_0 X.H_0 0 [] []).snd (he X.s_0 X.H_0 0 [] []).snd)⟩
end

/-! ### defs -/
section
variable {K : PySem.W.Frag} {φ : Fx} {G H : Hp}
theorem Rel.rot {a b c : Env} {x y z : L2.St} (R : Rel K φ (a ++ (b ++ c)) (x ++ (y ++ z)) G H) (h1 : x.length = a.length) (h2 : y.length = b.length) : Rel K φ (b ++ (a ++ c)) (y ++ (x ++ z)) G H := by
  have p : (fpe (b ++ (a ++ c))).Perm (fpe (a ++ (b ++ c))) := by
    rw [fpe_app, fpe_app, fpe_app, fpe_app, ← List.append_assoc, ← List.append_assoc]
    exact List.Perm.append_right _ List.perm_append_comm
  obtain ⟨s1, s2, z1, z2, k1, k2⟩ := Slots.app a (b ++ c) _ R.slots
  obtain ⟨e1, e2⟩ := List.append_inj z1 (h1.trans z2.symm)
  subst e1 e2
  obtain ⟨s3, s4, z3, z4, k3, k4⟩ := Slots.app b c _ k2
  obtain ⟨e3, e4⟩ := List.append_inj z3 (h2.trans z4.symm)
  subst e3 e4
  exact ⟨R.frm, Slots.join b _ _ _ k3 (Slots.join a c _ _ k1 k4), p.symm.nodup R.nd, fun q hq => R.own q (p.mem_iff.mp hq)⟩
theorem Rel.headPart {a b : Env} {x y : L2.St} (R : Rel K φ (a ++ b) (x ++ y) G H) (h1 : x.length = a.length) : Rel K φ a x G H := by
  have h2 : y.length = b.length := by
    have := R.len
    rw [List.length_append, List.length_append] at this
    omega
  have R' : Rel K φ (a ++ (b ++ [])) (x ++ (y ++ [])) G H := by rw [List.append_nil, List.append_nil]; exact R
  have k := R'.rot h1 h2
  rw [List.append_nil, List.append_nil] at k
  exact k.unhead h2
end
abbrev WV := XP → Env → (List (O × Option Nat) → Env → Prop) → Prop
def argsE (ps : List (O × Option Nat)) : Env := ps.map fun p => some p.1
def SndV (K : PySem.W.Frag) (ta : TA) (t : WV) : Prop := ∀ φ e σ G H x (post : List (O × Option Nat) → Env → Prop) (Q : List V → Hp → Prop), Rel K φ e σ G H → ExOk K φ x → t x e post →
  (∀ os e' vs G' H', post os e' → Rel K φ (argsE os ++ e') (vs.map some ++ σ) G' H' → Paired (fun (p : O × Option Nat) v => ∀ i, p.2 = some i → σ[i]? = some (some v)) os vs → Q vs H') → ta σ H Q
structure VV (X : Cx) (es : List Expr) (ta : TA) (t : WV) : Prop where
  pa : PA X es ta
  snd : SndV X.K ta t
def vvNil : WV := fun _ e post => post [] e
def vvCons (a : WE) (r : WV) : WV := fun x e post => a x e fun o e1 => r x e1 fun os e2 => post ((o, none) :: os) e2
/-- a list, a dict of one's own, lent -/
def vvMv (i : Nat) (r : WV) : WV := fun x e post => onO (.pl i) e fun o => r x (e.set i none) fun os e2 => post ((o, some i) :: os) e2
theorem snd_vnil {K : PySem.W.Frag} : SndV K tNil vvNil := fun φ e σ G H x post Q R X t q => q [] e [] G H t R .nil
theorem snd_vcons {K : PySem.W.Frag} {te : TE} {a : WE} {ta : TA} {r : WV} (h : SndE K te a) (k : SndV K ta r) : SndV K (tCons te ta) (vvCons a r) := fun φ e σ G H x post Q R X t q => by
  refine h φ e σ G H x _ _ R X t fun o e1 v1 G1 H1 p1 R1 => ?_
  have F := Rel.frame (ts := [some o]) (vs := [some v1]) R1 rfl
  refine k _ e1 σ G1 H1 x _ _ F.1 (ExOk.frame (ts := [some o]) (vs := [some v1]) X R1 rfl) p1 fun os e2 vs G2 H2 p2 R2 l2 => ?_
  exact q ((o, none) :: os) e2 (v1 :: vs) G2 H2 p2 (F.2 _ _ _ _ R2) (.cons (fun _ z => nomatch z) l2)
theorem snd_vmv {K : PySem.W.Frag} {i : Nat} {ta : TA} {r : WV} (k : SndV K ta r) : SndV K (tCons (tVar i) ta) (vvMv i r) := fun φ e σ G H x post Q R X t q => by
  obtain ⟨o, g, t1⟩ := onO_iff.mp t
  have g' : eget e i = some o := g
  obtain ⟨v1, h1, h2⟩ := R.get (eget_some.mp g')
  refine ⟨v1, h1, ?_⟩
  have R1 := R.mvout (eget_some.mp g') h1
  have F := Rel.frame (ts := [some o]) (vs := [some v1]) R1 rfl
  refine k _ _ σ G H x _ _ F.1 (ExOk.frame (ts := [some o]) (vs := [some v1]) X R1 rfl) t1 fun os e2 vs G2 H2 p2 R2 l2 => ?_
  exact q ((o, some i) :: os) e2 (v1 :: vs) G2 H2 p2 (F.2 _ _ _ _ R2) (.cons (fun j z => by cases z; exact h1) l2)
theorem vv_nil {X : Cx} : VV X [] tNil vvNil := ⟨pa_nil, snd_vnil⟩
theorem vv_cons {X : Cx} {e : Expr} {es : List Expr} {te : TE} {t : WE} {ta : TA} {r : WV} (h : VE X e te t) (k : VV X es ta r) (hs : starEach (e :: es) X.env = (false, eval e X.env) :: starEach es X.env := by rfl) : VV X (e :: es) (tCons te ta) (vvCons t r) := ⟨pa_cons h.pe k.pa hs, snd_vcons h.snd k.snd⟩
theorem vv_mv {X : Cx} {e : Expr} {es : List Expr} {i : Nat} {ta : TA} {r : WV} (h : PE X e (tVar i)) (k : VV X es ta r) (hs : starEach (e :: es) X.env = (false, eval e X.env) :: starEach es X.env := by rfl) : VV X (e :: es) (tCons (tVar i) ta) (vvMv i r) := ⟨pa_cons h k.pa hs, snd_vmv k.snd⟩
/-- a def's promise over data: its arguments, what is wanted of its end and of what the arguments hold then -/
abbrev Ct := List O → (O → Env → Prop) → Prop
def spOf (K : PySem.W.Frag) (ct : Ct) : Sp := fun vs H Q _ => ∃ (os : List O) (G : Hp) (post : O → Env → Prop), vs.length = os.length ∧ (∀ E, Rel K ⟨G, H, fpe (os.map some), E⟩ (os.map some) (vs.map some) G H) ∧ ct os post ∧
  ∀ E res fin v σ' G' H', post res fin → Rel K ⟨G, H, fpe (os.map some), E⟩ (some res :: fin) (some v :: σ') G' H' → Q v H'
def O.root : O → Option Addr
  | .pu _ => none
  | .ls p _ => some p
  | .dc p _ => some p
  | .lsO p _ => some p
  | .dcO p _ => some p
  | .ob p _ _ _ => some p
/-- what a callee leaves in what was lent to it -/
def putBack : List (O × Option Nat) → Env → Env → Env
  | (o, some i) :: r, some f :: fs, e => if o.root.isSome = true ∧ f.root = o.root then putBack r fs (e.set i (some f)) else putBack r fs e
  | _ :: r, _ :: fs, e => putBack r fs e
  | _, _, e => e
def vCall (ct : Ct) (a : WV) : WE := fun x e post => a x e fun os e1 => ct (os.map (·.1)) fun res fin => post res (putBack os fin e1)
section
variable {K : PySem.W.Frag} {φ : Fx}
theorem root_V {G H : Hp} {o : O} {v : V} {p : Addr} (h : OAt K G H o v) (e : o.root = some p) : v = .ref p := by
  cases o with
  | pu d => cases e
  | ls q ds => cases e; unfold OAt at h; exact h.1
  | dc q ds => cases e; unfold OAt at h; exact h.1
  | lsO q ds => cases e; unfold OAt at h; exact h.1
  | dcO q ds => cases e; unfold OAt at h; exact h.1
  | ob q dx C fs => cases e; unfold OAt at h; exact h.1
theorem putBack_snd {G H : Hp} {res : O} {v : V} {σ : L2.St} : ∀ (os : List (O × Option Nat)) (vs : List V) (fin : Env) (σ' : L2.St) (e : Env), Rel K φ (some res :: (fin ++ e)) (some v :: (σ' ++ σ)) G H → σ'.length = fin.length →
    Paired (fun (p : O × Option Nat) v => (∀ q, p.1.root = some q → v = .ref q) ∧ ∀ i, p.2 = some i → σ[i]? = some (some v)) os vs → Rel K φ (some res :: putBack os fin e) (some v :: σ) G H
  | [], _, fin, σ', e, R, hl, _ => by
    have k := Rel.rot (a := fin) (b := [some res]) (c := e) (x := σ') (y := [some v]) (z := σ) (Rel.rot (a := [some res]) (b := fin) (c := e) (x := [some v]) (y := σ') (z := σ) R rfl hl) hl rfl
    have k2 := Rel.rot (a := [some res]) (b := fin) (c := e) (x := [some v]) (y := σ') (z := σ) R rfl hl
    have k3 : Rel K φ (some res :: e) (some v :: σ) G H := Rel.unhead (ts := fin) (vs := σ') k2 hl
    cases fin <;> exact k3
  | (o, b) :: os, _, [], σ', e, R, hl, _ => by
    have z : σ' = [] := List.length_eq_zero_iff.mp hl
    subst z
    cases b <;> exact R
  | (o, b) :: os, _ :: vs, f :: fin, σ', e, R, hl, .cons h t => by
    cases σ' with
    | nil => cases hl
    | cons s σ' =>
      have hl' : σ'.length = fin.length := by simpa using hl
      have drop : Rel K φ (some res :: (fin ++ e)) (some v :: (σ' ++ σ)) G H := by
        have k : Rel K φ ([f] ++ ([some res] ++ (fin ++ e))) ([s] ++ ([some v] ++ (σ' ++ σ))) G H := Rel.rot (a := [some res]) (b := [f]) (c := fin ++ e) (x := [some v]) (y := [s]) (z := σ' ++ σ) R rfl rfl
        exact Rel.tail k
      have skip := putBack_snd os vs fin σ' e drop hl' t
      cases b with
      | none => cases f <;> exact skip
      | some i =>
        cases f with
        | none => exact skip
        | some f =>
          unfold putBack
          by_cases hr : o.root.isSome = true ∧ f.root = o.root
          · rw [if_pos hr]
            obtain ⟨q, hq⟩ := Option.isSome_iff_exists.mp hr.1
            -- res, then the rest, then f ahead of e
            have k1 : Rel K φ ([some f] ++ ((some res :: fin) ++ e)) ([s] ++ ((some v :: σ') ++ σ)) G H := Rel.rot (a := [some res]) (b := [some f]) (c := fin ++ e) (x := [some v]) (y := [s]) (z := σ' ++ σ) R rfl rfl
            have k2 : Rel K φ ((some res :: fin) ++ ([some f] ++ e)) ((some v :: σ') ++ ([s] ++ σ)) G H := Rel.rot (a := [some f]) (b := some res :: fin) (c := e) (x := [s]) (y := some v :: σ') (z := σ) k1 rfl (by simp [hl'])
            have F := Rel.frame (ts := some res :: fin) (vs := some v :: σ') k2 (by simp [hl'])
            obtain ⟨w, rr, es, ha, _⟩ := F.1.slots
            have es' : s = some w := by cases es; rfl
            subst es'
            have ew := root_V ha (hr.2.trans hq)
            have hi := h.2 i rfl
            have e0 := h.1 q hq
            rw [e0, ← ew] at hi
            have k3 : Rel K (rb φ ([some f] ++ e) G H) (e.set i (some f)) σ G H := Rel.putback F.1 hi
            exact putBack_snd os vs fin σ' (e.set i (some f)) (F.2 _ _ _ _ k3) hl' t
          · rw [if_neg hr]
            exact skip
theorem args_root {G H : Hp} : ∀ (os : List (O × Option Nat)) (vs : List V), Slots K G H (argsE os) (vs.map some) → vs.length = os.length → ∀ {σ : L2.St}, Paired (fun (p : O × Option Nat) v => ∀ i, p.2 = some i → σ[i]? = some (some v)) os vs →
    Paired (fun (p : O × Option Nat) v => (∀ q, p.1.root = some q → v = .ref q) ∧ ∀ i, p.2 = some i → σ[i]? = some (some v)) os vs
  | [], _, _, _, _, .nil => .nil
  | p :: os, v :: vs, h, hl, σ, .cons a b => by
    obtain ⟨w, r, e, ha, hb⟩ := h
    cases e
    exact .cons ⟨fun q hq => root_V ha hq, a⟩ (args_root os vs hb (by simpa using hl) b)
theorem argsE_map (os : List (O × Option Nat)) : argsE os = (os.map (·.1)).map some := by unfold argsE; rw [List.map_map]; rfl
theorem snd_call {ct : Ct} {ta : TA} {a : WV} {E : XK} (h : SndV K ta a) : SndE K (tCall (spOf K ct) [] E ta) (vCall ct a) := fun φ e σ G H x post Q R X t q => by
  refine h φ e σ G H x _ _ R X t fun os e1 vs G1 H1 p1 R1 hb => ?_
  have hlen : (vs.map some).length = (argsE os).length := by
    have := hb.length
    unfold argsE
    simp [this]
  obtain ⟨s1, s2, z1, z2, k1, k2⟩ := Slots.app (argsE os) e1 _ R1.slots
  obtain ⟨e3, e4⟩ := List.append_inj z1 (hlen.trans z2.symm)
  have k1' := k1
  rw [← e3] at k1'
  have rot := Rel.rot (a := argsE os) (b := e1) (c := []) (x := vs.map some) (y := σ) (z := []) (by rw [List.append_nil, List.append_nil]; exact R1) hlen (by rw [← e4] at k2; exact Slots.len _ _ k2)
  rw [List.append_nil, List.append_nil] at rot
  have hσ : σ.length = e1.length := by rw [← e4] at k2; exact Slots.len _ _ k2
  have F := Rel.frame (ts := e1) (vs := σ) rot hσ
  rw [List.append_nil]
  refine ⟨os.map (·.1), G1, _, by rw [List.length_map]; exact hb.length.symm, fun E' => ?_, p1, fun E' res fin v σ' G' H' pr S => ?_⟩
  · have F1 := F.1
    rw [argsE_map] at F1
    exact ⟨.self F1.frm.sub, F1.slots, F1.nd, fun p hp => .inl hp⟩
  · have S' : Rel K (rb φ (argsE os) G1 H1) (some res :: fin) (some v :: σ') G' H' := by
      rw [argsE_map]
      exact ⟨⟨S.frm.up, S.frm.sub, S.frm.keep, S.frm.gk, S.frm.live⟩, S.slots, S.nd, S.own⟩
    have T := F.2 _ _ _ _ S'
    have lf : (some v :: σ').length = (some res :: fin).length := S.len
    have T1 := Rel.rot (a := e1) (b := some res :: fin) (c := []) (x := σ) (y := some v :: σ') (z := []) (by rw [List.append_nil, List.append_nil]; exact T) hσ lf
    rw [List.append_nil, List.append_nil] at T1
    exact q res _ v G' H' pr (putBack_snd os vs fin σ' e1 T1 (by simpa using lf) (args_root os vs k1' (hb.length.symm) hb))
end
section
variable {X : Cx} {k : Nat} {f : Addr} {fd : FuncData} {ps : List Str} {ct : Ct} {x : Str} {p pos : Pos} {e : Expr} {es : List Expr} {ta : TA} {a : WV}
theorem ve_call (F : FnOk X.prog X.w X.K X.mg X.base CX0 k f fd ps (spOf X.K ct)) (hr : Room k X.A) (hg : Gl X x) (hm : X.mg x = some (.ref f)) (hk : PySem.W.keepIn X.K (.ref f) = true) (hb : Binds X.K fd ps [])
    (ha : VV X (e :: es) ta a) (hdb : (x == ("__debug__" : Str)) = false := by decide) (he : starEach (e :: es) X.env = (false, eval e X.env) :: starEach es X.env := by rfl) (hpl : (backTo pos (starEach es X.env)).any (·.1) = false := by rfl) :
    VE X (.Call (.Name x p) (e :: es) [] pos) (tCall (spOf X.K ct) [] E0 ta) (vCall ct a) := ⟨pe_call F hr hg hm hk hb .nil pass0 ha.pa hdb he hpl, snd_call ha.snd⟩
end
def noX : XP := fun _ _ => False
theorem Slots.nones {K : PySem.W.Frag} {G H : Hp} : ∀ n : Nat, Slots K G H (List.replicate n none) (List.replicate n none)
  | 0 => rfl
  | n + 1 => ⟨none, _, rfl, Slots.nones n⟩
theorem fpe_nones : ∀ n : Nat, fpe (List.replicate n none) = []
  | 0 => rfl
  | n + 1 => fpe_nones n
/-- a def keeps its promise -/
theorem fn_ok {P : Program} {w : World} {K : PySem.W.Frag} {mg : Str → Option Value} {base : Heap} {x qual : Str} {st : Stmt} {f : Addr} {fd : FuncData} {N ps : List Str} {k : Nat} (ct : Ct) (F : Fun K x qual st f fd) (S : FnScope N ps (defScope st)) (hlen : ∀ os post, ct os post → os.length = ps.length) (rd : WS)
    (body : ∀ (cdv : Value) (A : Around) (outer : List PySem.Env) (s : Shared) (H : Hp) (E : XK), Room k (A.deeper (envOfC qual (defScope st) s.heap.objs.size f cdv)) → ∃ ts, VSs (cxOf CX0 P w K mg base N qual (defScope st) f cdv A outer s H E).nox (defBody st) ts rd)
    (pure : ∀ os post, ct os post → rd noX ⟨fun e => post (.pu .non) (List.take ps.length e), fun o e => post o (List.take ps.length e), fun _ => False, fun _ => False⟩ (os.map some ++ List.replicate (N.length - ps.length) none)) : FnOk P w K mg base CX0 (k + 1) f fd ps (spOf K ct) := by
  refine F.ok S (fun vs H Q E h => ?_) (fun cdv A outer s H vs Q E hr h => ?_)
  · obtain ⟨os, G, post, hl, _, c, _⟩ := h
    exact hl.trans (hlen os post c)
  · obtain ⟨os, G, post, hl, R, c, q⟩ := h
    obtain ⟨ts, Vb⟩ := body cdv A outer s H E hr
    refine ⟨ts, Vb.ps, ?_⟩
    have hps : os.length = ps.length := hlen os post c
    have R0 := R fun _ _ _ _ => False
    have R1 : Rel K ⟨G, H, fpe (os.map some), fun _ _ _ _ => False⟩ (os.map some ++ List.replicate (N.length - ps.length) none) (L2.start N vs) G H := by
      unfold L2.start
      have e1 : N.length - vs.length = N.length - ps.length := by omega
      rw [e1]
      refine ⟨R0.frm, Slots.join _ _ _ _ R0.slots (Slots.nones _), ?_, fun p hp => ?_⟩
      · rw [fpe_app, fpe_nones, List.append_nil]; exact R0.nd
      · rw [fpe_app, fpe_nones, List.append_nil] at hp; exact R0.own p hp
    have cutR : ∀ (o : O) (v : V) (e : Env) (σ : L2.St) (G' H' : Hp), Rel K ⟨G, H, fpe (os.map some), fun _ _ _ _ => False⟩ (some o :: e) (some v :: σ) G' H' → Rel K ⟨G, H, fpe (os.map some), fun _ _ _ _ => False⟩ (some o :: List.take ps.length e) (some v :: List.take ps.length σ) G' H' := fun o v e σ G' H' S => by
      have k : Rel K ⟨G, H, fpe (os.map some), fun _ _ _ _ => False⟩ ((some o :: List.take ps.length e) ++ List.drop ps.length e) ((some v :: List.take ps.length σ) ++ List.drop ps.length σ) G' H' := by
        rw [List.cons_append, List.cons_append, List.take_append_drop, List.take_append_drop]
        exact S
      refine k.headPart ?_
      have := S.tail.len
      simp [List.length_take, this]
    refine Vb.snd _ _ (L2.start N vs) G H noX _ _ R1 (fun _ _ _ _ _ _ _ z => z.elim) (pure os post c) ⟨fun e σ G' H' p S => ?_, fun o e v σ G' H' p S => ?_, fun _ _ _ _ p => p.elim, fun _ _ _ _ p => p.elim⟩
    · exact q _ _ _ _ _ _ _ p (cutR _ _ _ _ _ _ (S.consPu rp_non))
    · exact q _ _ _ _ _ _ _ p (cutR _ _ _ _ _ _ S)
/-- law's: a list of at most 63 ints is handed in, True comes out -/
def ctLaw : Ct := fun os post => ∃ ns : List Int, os = [.pu (.lst (ns.map D.int))] ∧ ns.length ≤ 63 ∧ ∀ fin, post (.pu (.bl true)) fin
def spLaw (K : PySem.W.Frag) : Sp := fun vs H Q _ => ∃ (a : Addr) (ns : List Int), vs = [.ref a] ∧ SqL K H a (ns.map V.int) ∧ ns.length ≤ 63 ∧ ∀ H', Q (.bl true) H'
theorem rps_ints {K : PySem.W.Frag} {G : Hp} : ∀ ns : List Int, Rps K G (ns.map D.int) (ns.map V.int)
  | [] => Rps.nil
  | _ :: r => Rps.cons rp_int (rps_ints r)
theorem law_of {P : Program} {w : World} {K : PySem.W.Frag} {mg : Str → Option Value} {base : Heap} {k : Nat} {f : Addr} {fd : FuncData} {ps : List Str} (F : FnOk P w K mg base CX0 k f fd ps (spOf K ctLaw)) : FnOk P w K mg base CX0 k f fd ps (spLaw K) := by
  refine F.imp fun vs H Q E ⟨a, ns, ev, hs, hl, q⟩ => ?_
  subst ev
  refine ⟨[.pu (.lst (ns.map D.int))], H, fun res _ => res = .pu (.bl true), rfl, fun E' => ?_, ⟨ns, rfl, hl, fun _ => rfl⟩, fun E' res fin v σ' G' H' er S => ?_⟩
  · have R0 : Rel K ⟨H, H, [], E'⟩ [] [] H H := ⟨.self (Sub.refl H), rfl, List.nodup_nil, fun _ z => nomatch z⟩
    refine R0.consPu ?_
    unfold Rp
    exact ⟨a, _, rfl, hs, rps_ints ns⟩
  · subst er
    cases S.headOAt.bl
    exact q H'
end Vl

namespace Vl
open PySem PySem.Spec PyProof.Rows L2

/-! ### a[lo:hi] -/
theorem ve_slice {X : Cx} {a : Expr} {lo hi : Option Expr} {ta : TE} {qa : WQ} {tl th : TO} {wl wh : WO} {pos p2 : Pos} (ha : VQ X a ta qa) (hl : VO X lo tl wl) (hh : VO X hi th wh) :
    VE X (.Subscript a (.Slice lo hi none p2) pos) (tSl (rSlAll X.K) ta tl th) (vSl qa wl wh) := ⟨pe_slice sl_all ha.pe hl.po hh.po, snd_sl ha.snd hl.snd hh.snd⟩

/-! ### x[i] as a target -/
def wSub (j : Nat) (b : WE) : WG := fun d e post => (∃ o, eget e j = some o) ∧ b noX e fun oi e2 => onI oi fun i => onO (.pl j) e2 fun oc => onLs oc fun p xs => onOpt (ixN xs.length i) fun k => post (e2.set j (some (.ls p (xs.set k d))))
theorem exNo {K : PySem.W.Frag} {φ : Fx} : ExOk K φ noX := fun _ _ _ _ _ _ _ z => z.elim
theorem snd_gSub {K : PySem.W.Frag} {j : Nat} {tb : TE} {b : WE} (hb : SndE K tb b) : SndG K (gSub (tVar j) tb rSetL) (wSub j b) [] := fun φ e σ G H d v post Q R r t q =>
  gSub_snd hb R exNo r t.1 t.2 fun e' G' H' p R' => q e' σ G' H' p R' ⟨rfl, fun _ _ => rfl⟩
theorem vg_sub {X : Cx} {o i : Expr} {j : Nat} {tb : TE} {b : WE} {pos : Pos} (ho : PE X o (tVar j)) (hi : VE X i tb b)
    (ha : ∀ v, assign (.Subscript o i pos) X.env v = (do
      let ov ← holding [v] (eval o X.env)
      let iv ← holding [v, ov] (eval i X.env)
      standAt pos
      holding [v, ov, iv] (setItem ov iv v)
      release [v, ov, iv] []) := by intro _; rfl) : VG X (.Subscript o i pos) (gSub (tVar j) tb rSetL) (wSub j b) [] := ⟨pg_sub ho hi.pe set_list ha, snd_gSub hi.snd⟩

/-! ### a * b: ints, a text so many times -/
def repL (xs : List Nat) (n : Int) : List Nat := (List.replicate n.toNat xs).flatten
def repS (x : Str) (n : Int) : Str := ⟨(repL x.cps.toList n).toArray⟩
theorem foldl_arr (xs : Array Nat) : ∀ (m : Nat) (acc : Array Nat), (List.replicate m xs).foldl (· ++ ·) acc = acc ++ (List.replicate m xs.toList).flatten.toArray
  | 0, acc => by simp
  | m + 1, acc => by
    rw [List.replicate_succ, List.foldl_cons, foldl_arr xs m, List.replicate_succ, List.flatten_cons]
    apply Array.ext'
    simp
theorem txt_mul (x : Str) (n : Int) : Txt.mul x n = repS x n := by
  unfold Txt.mul repS repL
  by_cases h : n < 1
  · rw [if_pos h]
    have : n.toNat = 0 := by omega
    rw [this]
    rfl
  · rw [if_neg h]
    by_cases h1 : (n == 1 || x.length == 0) = true
    · rw [if_pos h1]
      rcases (Bool.or_eq_true _ _).mp h1 with k | k
      · have : n = 1 := by simpa using k
        subst this
        simp
      · have k' : x.cps.size = 0 := by simpa [Str.length] using k
        have e : x.cps = #[] := Array.eq_empty_of_size_eq_zero k'
        have e2 : x = ⟨#[]⟩ := by cases x; simpa using e
        subst e2
        simp
    · rw [if_neg h1]
      have := foldl_arr x.cps n.toNat #[]
      rw [this]
      simp
def rRepS : R2 := fun x y H Q => ∃ i j, x = .str i ∧ y = .int j ∧ -(2 ^ 63) ≤ j ∧ j < 2 ^ 63 ∧ i.length * j.toNat ≤ sizeLine ∧ Q (.str (repS i j)) H
theorem op_repS {X : Cx} : OpR X (binaryOp .Mult) rRepS := by
  intro pins s σ H x y v u Q I rx ry h
  obtain ⟨i, j, rfl, rfl, h1, hb, h2, q⟩ := h
  obtain ⟨t, rfl⟩ := rx
  obtain ⟨t', rfl⟩ := ry
  by_cases hz : j < 1
  · refine PySem.P.mul_str_none hz (by omega) ⟨.str (repS i j), H, I.tok _, ⟨s.toks, ?_⟩, q⟩
    have : j.toNat = 0 := by omega
    unfold repS repL
    rw [this]
    rfl
  · have hs : (sizeLine : Nat) < 2 ^ 62 := by decide
    by_cases h0 : i.length = 0
    · refine SB.mul ⟨?_, fun _ c => ?_, fun _ c => ?_⟩ fun t' tk => ⟨.str (repS i j), H, I.tok _, ⟨_, by rw [txt_mul]⟩, q⟩
      · rw [decide_eq_false (by omega), decide_eq_false (by omega)]; rfl
      · rw [h0] at c; simp at c
      · rw [h0] at c; simp at c
    · have hj : j.toNat ≤ sizeLine := Nat.le_trans (Nat.le_mul_of_pos_left _ (by omega)) h2
      refine SB.mul ⟨?_, fun _ c => ?_, fun _ c => ?_⟩ fun t' tk => ⟨.str (repS i j), H, I.tok _, ⟨_, by rw [txt_mul]⟩, q⟩
      · rw [decide_eq_false (by omega), decide_eq_false (by omega)]; rfl
      · have e : (i.length : Int) * j ≤ 2 ^ 62 := by
          have : ((i.length * j.toNat : Nat) : Int) ≤ 2 ^ 62 := by omega
          rw [Int.natCast_mul] at this
          rwa [Int.toNat_of_nonneg (by omega)] at this
        have : (i.length : Int) ≤ (2 ^ 63 - 1) / j := (Int.le_ediv_iff_mul_le (by omega)).mpr (by omega)
        omega
      · unfold Builtin.Str.tooLong
        exact decide_eq_false (by omega)
/-- a * b -/
def gMul : G2 := fun o1 o2 post => match o1, o2 with
  | .pu (.int i), .pu (.int j) => CMul i j ∧ post (.pu (.int (i * j)))
  | .pu (.str i), .pu (.int j) => -(2 ^ 63) ≤ j ∧ j < 2 ^ 63 ∧ i.length * j.toNat ≤ sizeLine ∧ post (.pu (.str (repS i j)))
  | .ls _ xs, .pu (.int j) => -(2 ^ 63) ≤ j ∧ j < 2 ^ 63 ∧ xs.length * j.toNat ≤ sizeLine ∧ ∀ p, post (.ls p (List.replicate j.toNat xs).flatten)
  | _, _ => False
def rMulA : R2 := fun x y H Q => rI CMul (fun i j => .int (i * j)) x y H Q ∨ rRepS x y H Q ∨ rRep x y H Q
theorem op_mulA {X : Cx} : OpR X (binaryOp .Mult) rMulA := op_mul.or (OpR.or op_repS op_rep)
theorem Rps.flatRep {K : PySem.W.Frag} {G : Hp} {ds : List D} {vs : List V} (h : Rps K G ds vs) : ∀ n : Nat, Rps K G (List.replicate n ds).flatten (List.replicate n vs).flatten
  | 0 => Rps.nil
  | n + 1 => by
    rw [List.replicate_succ, List.replicate_succ, List.flatten_cons, List.flatten_cons]
    exact Rps.app _ _ _ _ h (Rps.flatRep h n)
theorem sr_mulA {K : PySem.W.Frag} : SndR2 K rMulA gMul := fun φ e σ G H o1 o2 v1 v2 post Q R a1 a2 p q => by
  unfold gMul at p
  split at p
  · exact .inl ⟨_, _, a1.int, a2.int, p.1, q _ _ G H p.2 (R.consPu rp_int)⟩
  · exact .inr (.inl ⟨_, _, a1.str, a2.int, p.1, p.2.1, p.2.2.1, q _ _ G H p.2.2.2 (R.consPu rp_str)⟩)
  · rename_i pp xs j
    obtain ⟨rfl, gp, ws, hp, hws⟩ := a1.ls
    refine .inr (.inr ⟨_, _, ws, rfl, a2.int, hp, p.1, p.2.1, by rw [Rps.len _ _ hws]; exact p.2.2.1, fun p' hp' => ?_⟩)
    exact q _ _ _ _ (p.2.2.2 p') (R.newLs hp' (Rps.flatRep hws _))
  · exact p.elim

/-! ### names for what is printed -/
def vPq (i : Nat) : WQ := fun x e post => ∃ o, eget e i = some o ∧ vPl i x e post
def vQ (a : WE) : WQ := fun x e post => a x e fun o e' => post (.val o) e'
theorem VE.qq {X : Cx} {e : Expr} {te : TE} {t : WE} (h : VE X e te t) : VQ X e te (vQ t) := h.q
theorem vq_at {X : Cx} (i : Nat) {x : Str} {pos : Pos} (hN : X.N[i]? = some x := by rfl) (hv : Vis X.env.scope x := by first | exact Or.inl rfl | exact Or.inr (Or.inl rfl) | exact Or.inr (Or.inr rfl)) (hd : (x == ("__debug__" : Str)) = false := by decide)
    (hcd : (x == ("__classdict__" : Str)) = false := by decide) : VQ X (.Name x pos) (tVar i) (vPq i) := vq_pl i hN hv hd hcd
def gMod : G2 := gI (fun _ j => 0 < j) fun i j => .int (i % j)
def gFdiv : G2 := gI CDiv fun i j => .int (i / j)
def gPow : G2 := gI CPow fun i j => .int (i ^ j.toNat)
def gSubI : G2 := gI0 fun i j => .int (i - j)
def gLt : G2 := gI0 fun i j => .bl (decide (i < j))
def gLe : G2 := gI0 fun i j => .bl (decide (i ≤ j))
def gGt : G2 := gI0 fun i j => .bl (decide (j < i))
def gGe : G2 := gI0 fun i j => .bl (decide (j ≤ i))
def gNeg : G1 := fun o post => onI o fun i => post (.pu (.int (-i)))
section
variable {X : Cx} {a b : Expr} {ta tb : TE} {qa qb : WQ} {pos : Pos}
theorem ve_sub (ha : VQ X a ta qa) (hb : VQ X b tb qb) : VE X (.BinOp a .Sub b pos) (tOp (rI0 fun i j => .int (i - j)) ta tb) (vOp2 gSubI qa qb) := ve_op op_sub (snd_rI0 fun _ _ _ => rp_int) ha hb
theorem ve_mod (ha : VQ X a ta qa) (hb : VQ X b tb qb) : VE X (.BinOp a .Mod b pos) (tOp (rI (fun _ j => 0 < j) fun i j => .int (i % j)) ta tb) (vOp2 gMod qa qb) := ve_op op_mod sr_mod ha hb
theorem ve_fdiv (ha : VQ X a ta qa) (hb : VQ X b tb qb) : VE X (.BinOp a .FloorDiv b pos) (tOp (rI CDiv fun i j => .int (i / j)) ta tb) (vOp2 gFdiv qa qb) := ve_op op_fdiv sr_fdiv ha hb
theorem ve_pow (ha : VQ X a ta qa) (hb : VQ X b tb qb) : VE X (.BinOp a .Pow b pos) (tOp (rI CPow fun i j => .int (i ^ j.toNat)) ta tb) (vOp2 gPow qa qb) := ve_op op_pow sr_pow ha hb
theorem ve_add (ha : VQ X a ta qa) (hb : VQ X b tb qb) : VE X (.BinOp a .Add b pos) (tOp (rAddA X.K) ta tb) (vOp2 gAdd qa qb) := ve_op op_addA sr_addA ha hb
theorem ve_mul (ha : VQ X a ta qa) (hb : VQ X b tb qb) : VE X (.BinOp a .Mult b pos) (tOp rMulA ta tb) (vOp2 gMul qa qb) := ve_op op_mulA sr_mulA ha hb
theorem ve_neg (ha : VQ X a ta qa) : VE X (.UnaryOp .USub a pos) (tUn (rU fun i => .int (-i)) ta) (vOp1 gNeg qa) := ⟨pe_un un_neg ha.pe, snd_op1 (r := rU fun i => .int (-i)) ha.snd fun φ e σ G H o1 v1 post Q R h p q => by
  obtain ⟨i, rfl, p⟩ := onI_iff.mp p
  exact ⟨i, h.int, q _ _ G H p (R.consPu rp_int)⟩⟩
end
/-- a def, as its callers see it -/
structure Callee (P : Program) (w : World) (K : PySem.W.Frag) (mg : Str → Option Value) (base : Heap) (x : Str) (k : Nat) (ps : List Str) (ct : Ct) : Prop where
  ex : ∃ f fd, FnOk P w K mg base CX0 k f fd ps (spOf K ct) ∧ mg x = some (.ref f) ∧ PySem.W.keepIn K (.ref f) = true ∧ Binds K fd ps []
section
variable {X : Cx} {j k : Nat} {ps : List Str} {ct : Ct} {x : Str} {p pos : Pos} {e : Expr} {es : List Expr} {ta : TA} {a : WV}
theorem ve_cal (c : Callee X.prog X.w X.K X.mg X.base x k ps ct) (hr : Room j X.A) (hk : k ≤ j) (hg : Gl X x) (ha : VV X (e :: es) ta a) (hdb : (x == ("__debug__" : Str)) = false := by decide) (he : starEach (e :: es) X.env = (false, eval e X.env) :: starEach es X.env := by rfl) (hpl : (backTo pos (starEach es X.env)).any (·.1) = false := by rfl) :
    VE X (.Call (.Name x p) (e :: es) [] pos) (tCall (spOf X.K ct) [] E0 ta) (vCall ct a) := by
  obtain ⟨f, fd, F, m, kp, b⟩ := c.ex
  exact ve_call F (hr.mono hk) hg m kp b ha hdb he hpl
end

/-! ### comprehensions: the block's parts once at one place (there the triples' texts are found), then at all -/
abbrev Cx.b0 (X : Cx) (scope : Scope) : Cx := X.blk X.s_0 X.H_0 scope (compEnvC scope [] 0 X.env) []
section
variable {X : Cx} {elt tg iter : Expr} {ifs : List Expr} {scope : Scope} {own : List (Str × Nat)} {pos spos py : Pos} {wi : TI} {w : WI} {g : TG} {t : WG} {ws : List Nat} {tt : TT} {c : WT} {te : TE} {b : WE} {y : Str} {i : Nat}
theorem ve_lcD (hc : X.calm = true) (hN : X.N.Nodup) (hi : VI X tg iter wi w) (ok : BlkOk X.N X.env.scope scope own) (hg0 : VG (Cx.b0 X scope) tg g t ws) (ht0 : VTs (Cx.b0 X scope) ifs tt c) (he0 : VE (Cx.b0 X scope) elt te b)
    (hg : ∀ (s : Shared) (H : Hp) (C : Addr) (cl : List (Str × Addr)) (fp : List Addr), VG (X.blk s H scope (compEnvC scope cl C X.env) fp) tg g t ws) (hw : ∀ i ∈ ws, i ∈ own.map (·.2))
    (ht : ∀ (s : Shared) (H : Hp) (C : Addr) (cl : List (Str × Addr)) (fp : List Addr), VTs (X.blk s H scope (compEnvC scope cl C X.env) fp) ifs tt c)
    (he : ∀ (s : Shared) (H : Hp) (C : Addr) (cl : List (Str × Addr)) (fp : List Addr), VE (X.blk s H scope (compEnvC scope cl C X.env) fp) elt te b) (hs : ∀ x, foldedSetIterable iter X.env x = pure x := by intro _; rfl) :
    VE X (.ListComp elt [⟨tg, iter, ifs, 0⟩] scope pos) (tLc wi g tt te (own.map (·.2))) (vLc w t c b (own.map (·.2))) := ve_lc hc hN hi ok hg hw ht he hs
theorem vs_setLcD (hc : X.calm = true) (hN : X.N.Nodup) (hy : X.N[i]? = some y) (hyl : X.env.scope.names.lookup y = some .local) (hsw : swapsWith (.ListComp elt [⟨tg, iter, ifs, 0⟩] scope pos) (some (.Name y py)) spos.line X.env = pure true)
    (hi : VI X tg iter wi w) (ok : BlkOk X.N X.env.scope scope own) (hg0 : VG (Cx.b0 X scope) tg g t ws) (ht0 : VTs (Cx.b0 X scope) ifs tt c) (he0 : VE (Cx.b0 X scope) elt te b)
    (hg : ∀ (s : Shared) (H : Hp) (C : Addr) (cl : List (Str × Addr)) (fp : List Addr), VG (X.blk s H scope (compEnvC scope cl C X.env) fp) tg g t ws) (hw : ∀ i ∈ ws, i ∈ own.map (·.2))
    (ht : ∀ (s : Shared) (H : Hp) (C : Addr) (cl : List (Str × Addr)) (fp : List Addr), VTs (X.blk s H scope (compEnvC scope cl C X.env) fp) ifs tt c)
    (he : ∀ (s : Shared) (H : Hp) (C : Addr) (cl : List (Str × Addr)) (fp : List Addr), VE (X.blk s H scope (compEnvC scope cl C X.env) fp) elt te b) (hs : ∀ x, foldedSetIterable iter X.env x = pure x := by intro _; rfl) :
    VS X (.Assign [.Name y py] (.ListComp elt [⟨tg, iter, ifs, 0⟩] scope pos) spos) (tAsg (tLc wi g tt te (own.map (·.2))) (gName i)) (vSet i (vLc w t c b (own.map (·.2)))) := vs_setLc hc hN hy hyl hsw hi ok hg hw ht he hs
end

/-! ### lent late: what later arguments do to it is seen -/
def vvLt (i : Nat) (r : WV) : WV := fun x e post => (∃ o, eget e i = some o) ∧ r x e fun os e2 => onO (.pl i) e2 fun o => post ((o, some i) :: os) (e2.set i none)
theorem snd_vlt {K : PySem.W.Frag} {i : Nat} {ta : TA} {r : WV} (k : SndV K ta r) : SndV K (tCons (tVar i) ta) (vvLt i r) := fun φ e σ G H x post Q R X t q => by
  obtain ⟨⟨o0, g0⟩, t1⟩ := t
  obtain ⟨v1, h1, _⟩ := R.get (eget_some.mp g0)
  refine ⟨v1, h1, ?_⟩
  refine k φ e σ G H x _ _ R X t1 fun os e2 vs G2 H2 p2 R2 l2 => ?_
  obtain ⟨o, g2, p3⟩ := onO_iff.mp p2
  have g2' : eget e2 i = some o := g2
  have hlen : (vs.map some).length = (argsE os).length := by
    have := l2.length
    unfold argsE
    simp [this]
  have F := Rel.frame (ts := argsE os) (vs := vs.map some) R2 hlen
  have M := Rel.mvout F.1 (eget_some.mp g2') h1
  have R3 := F.2 _ _ _ _ M
  have R4 := Rel.rot (a := argsE os) (b := [some o]) (c := e2.set i none) (x := vs.map some) (y := [some v1]) (z := σ) R3 hlen rfl
  exact q ((o, some i) :: os) _ (v1 :: vs) G2 H2 p3 R4 (.cons (fun j z => by cases z; exact h1) l2)
theorem vv_lt {X : Cx} {e : Expr} {es : List Expr} {i : Nat} {ta : TA} {r : WV} (h : PE X e (tVar i)) (k : VV X es ta r) (hs : starEach (e :: es) X.env = (false, eval e X.env) :: starEach es X.env := by rfl) : VV X (e :: es) (tCons (tVar i) ta) (vvLt i r) := ⟨pa_cons h k.pa hs, snd_vlt k.snd⟩
end Vl

namespace Vl
open PySem PySem.Spec PyProof.Rows L2

/-! ### readings, a step at a time (printed by mkv12.py) -/
theorem onAt_nat {α : Type} {xs : List α} {j : Nat} {v : α} {k : α → Prop} (h : xs[j]? = some v) : onAt xs (j : Int) k = k v := by
  unfold onAt
  rw [atI_nat h]
theorem onAt_of {α : Type} {xs : List α} {i : Int} {k : α → Prop} (h0 : 0 ≤ i) (h1 : i < xs.length) (h : ∀ (j : Nat) (hj : j < xs.length), (j : Int) = i → k xs[j]) : onAt xs i k := by
  have e : ((i.toNat : Nat) : Int) = i := by omega
  have hj : i.toNat < xs.length := by omega
  rw [← e, onAt_nat (List.getElem?_eq_getElem hj)]
  exact h _ hj e
theorem onAt_last {α : Type} {xs : List α} {k : α → Prop} (h0 : xs ≠ []) (h : k (xs.getLast h0)) : onAt xs (-1) k := by
  have e : xs = xs.dropLast ++ [xs.getLast h0] := (List.dropLast_concat_getLast h0).symm
  unfold onAt
  rw [e, atI_last]
  exact h
def kE (post : O → Env → Prop) (e : Env) (o : O) : Prop := post o e
def kOn : Option O → (O → Prop) → Prop
  | some o, k => k o
  | none, _ => False
def kVar (i : Nat) (e : Env) (post : O → Env → Prop) (o : O) : Prop := post (.pu o.toD) (e.set i (some (.pu o.toD)))
def kMv (i : Nat) (e : Env) (post : O → Env → Prop) (o : O) : Prop := post o (e.set i none)
def kPq (i : Nat) (e : Env) (post : Opnd → Env → Prop) (_ : O) : Prop := post (.pl i) e
def kQ (post : Opnd → Env → Prop) (o : O) (e : Env) : Prop := post (.val o) e
def kOp1g (g : G1) (post : O → Env → Prop) (e : Env) (o : O) : Prop := g o (kE post e)
def kOp1 (g : G1) (post : O → Env → Prop) (q : Opnd) (e : Env) : Prop := onO q e (kOp1g g post e)
def kOp2d (g : G2) (o1 : O) (post : O → Env → Prop) (e : Env) (o2 : O) : Prop := g o1 o2 (kE post e)
def kOp2c (g : G2) (q2 : Opnd) (post : O → Env → Prop) (e : Env) (o1 : O) : Prop := onO q2 e (kOp2d g o1 post e)
def kOp2b (g : G2) (q1 : Opnd) (post : O → Env → Prop) (q2 : Opnd) (e : Env) : Prop := onO q1 e (kOp2c g q2 post e)
def kOp2 (g : G2) (qb : WQ) (x : XP) (post : O → Env → Prop) (q1 : Opnd) (e : Env) : Prop := qb x e (kOp2b g q1 post)
def kPu (k : O → Prop) (d : D) : Prop := k (.pu d)
def kChar (k : O → Prop) (c : Nat) : Prop := k (.pu (.str ⟨#[c]⟩))
def kTest (post : Bool → Env → Prop) (o : O) (e : Env) : Prop := onB o fun b => post b e
def kAndT (b : WT) (x : XP) (post : Bool → Env → Prop) (c : Bool) (e : Env) : Prop := if c = true then b x e post else post false e
def kOrT (b : WT) (x : XP) (post : Bool → Env → Prop) (c : Bool) (e : Env) : Prop := if c = true then post true e else b x e post
def kNotT (post : Bool → Env → Prop) (c : Bool) (e : Env) : Prop := post (!c) e
def kIfE (a b : WE) (x : XP) (post : O → Env → Prop) (c : Bool) (e : Env) : Prop := if c = true then a x e post else b x e post
def kAndV (b : WE) (x : XP) (post : O → Env → Prop) (o : O) (e : Env) : Prop := onB o fun c => if c = true then b x e post else post (.pu (.bl false)) e
def kOrV (b : WE) (x : XP) (post : O → Env → Prop) (o : O) (e : Env) : Prop := onB o fun c => if c = true then post (.pu (.bl true)) e else b x e post
def kNotV (post : O → Env → Prop) (o : O) (e : Env) : Prop := onB o fun c => post (.pu (.bl (!c))) e
def kVp2 (post : List D → Env → Prop) (o : O) (ds : List D) (e : Env) : Prop := post (o.toD :: ds) e
def kVp (r : WP) (x : XP) (post : List D → Env → Prop) (o : O) (e : Env) : Prop := r x e (kVp2 post o)
def kTup (post : O → Env → Prop) (ds : List D) (e : Env) : Prop := ds.length ≤ sizeLine ∧ post (.pu (.tup ds)) e
def kLst (post : O → Env → Prop) (ds : List D) (e : Env) : Prop := ds.length ≤ sizeLine ∧ ∀ p, post (.ls p ds) e
def kSome2 (post : Option Int → Env → Prop) (e : Env) (i : Int) : Prop := post (some i) e
def kSome (post : Option Int → Env → Prop) (o : O) (e : Env) : Prop := onI o (kSome2 post e)
def kSl4 (lo hi : Option Int) (post : O → Env → Prop) (e : Env) (o : O) : Prop := gSl o lo hi (kE post e)
def kSl3 (post : O → Env → Prop) (q : Opnd) (lo hi : Option Int) (e : Env) : Prop := onO q e (kSl4 lo hi post e)
def kSl2 (wh : WO) (x : XP) (post : O → Env → Prop) (q : Opnd) (lo : Option Int) (e : Env) : Prop := wh x e (kSl3 post q lo)
def kSl (wl wh : WO) (x : XP) (post : O → Env → Prop) (q : Opnd) (e : Env) : Prop := wl x e (kSl2 wh x post q)
def kOs2 (k : List O → Prop) (o : O) (os : List O) : Prop := k (o :: os)
def kOs (qs : List Opnd) (e : Env) (k : List O → Prop) (o : O) : Prop := onOs qs e (kOs2 k o)
def kVa2 (post : List Opnd → Env → Prop) (q : Opnd) (qs : List Opnd) (e : Env) : Prop := post (q :: qs) e
def kVa (r : WA) (x : XP) (post : List Opnd → Env → Prop) (q : Opnd) (e : Env) : Prop := r x e (kVa2 post q)
def kCB2 (g : GN) (post : O → Env → Prop) (e : Env) (os : List O) : Prop := g os (kE post e)
def kCB (g : GN) (post : O → Env → Prop) (qs : List Opnd) (e : Env) : Prop := onOs qs e (kCB2 g post e)
def kIsi2 (T : String) (post : O → Env → Prop) (e : Env) (o : O) : Prop := match kitD o.toD T with
  | some b => post (.pu (.bl b)) e
  | none => False
def kIsi (T : String) (post : O → Env → Prop) (q : Opnd) (e : Env) : Prop := onO q e (kIsi2 T post e)
def kMt5 (g : GM) (post : O → Env → Prop) (o : O) (e : Env) (os : List O) : Prop := g o os (kE post e)
def kMt4 (g : GM) (post : O → Env → Prop) (qs : List Opnd) (e : Env) (o : O) : Prop := onOs qs e (kMt5 g post o e)
def kMt3 (g : GM) (post : O → Env → Prop) (q : Opnd) (qs : List Opnd) (e : Env) : Prop := onO q e (kMt4 g post qs e)
def kMt2 (T : String) (g : GM) (wa : WA) (x : XP) (post : O → Env → Prop) (q : Opnd) (e : Env) (o : O) : Prop := tyO o = T ∧ wa x e (kMt3 g post q)
def kMt (T : String) (g : GM) (wa : WA) (x : XP) (post : O → Env → Prop) (q : Opnd) (e : Env) : Prop := onO q e (kMt2 T g wa x post q e)
def kMut4 (i : Nat) (post : O → Env → Prop) (e : Env) (res o2 : O) : Prop := post res (e.set i (some o2))
def kMut3 (i : Nat) (g : GU) (post : O → Env → Prop) (ds : List D) (e : Env) (o : O) : Prop := g o ds (kMut4 i post e)
def kMut2 (i : Nat) (g : GU) (post : O → Env → Prop) (ds : List D) (e : Env) : Prop := onO (.pl i) e (kMut3 i g post ds e)
def kMut (T : String) (i : Nat) (g : GU) (wp : WP) (x : XP) (post : O → Env → Prop) (e : Env) (o : O) : Prop := tyO o = T ∧ wp x e (kMut2 i g post)
def kMut0 (T : String) (i : Nat) (g : GU) (post : O → Env → Prop) (e : Env) (o : O) : Prop := tyO o = T ∧ g o [] (kMut4 i post e)
def kExt3 (i : Nat) (post : O → Env → Prop) (e : Env) (ys : List D) (o : O) : Prop := onLs o fun p xs => xs.length + ys.length ≤ sizeLine ∧ post (.pu .non) (e.set i (some (.ls p (xs ++ ys))))
def kExt2 (i : Nat) (post : O → Env → Prop) (r : O) (e : Env) : Prop := onLs r fun _ ys => onO (.pl i) e (kExt3 i post e ys)
def kExt (i : Nat) (a : WE) (x : XP) (post : O → Env → Prop) (e : Env) (o : O) : Prop := tyO o = "list" ∧ a x e (kExt2 i post)
def kDrop (pd : Pd) (_ : O) (e : Env) : Prop := pd.nx e
def kIf (a b : WS) (x : XP) (pd : Pd) (c : Bool) (e : Env) : Prop := if c = true then a x pd e else b x pd e
def kSet (i : Nat) (pd : Pd) (o : O) (e : Env) : Prop := pd.nx (e.set i (some o))
def kAsg (t : WG) (pd : Pd) (o : O) (e : Env) : Prop := t o.toD e pd.nx
def kW (u : WGs) (r : List D) (post : Env → Prop) (e : Env) : Prop := u r e post
def kSub5 (j : Nat) (d : D) (post : Env → Prop) (e : Env) (p : Addr) (xs : List D) (k : Nat) : Prop := post (e.set j (some (.ls p (xs.set k d))))
def kSub3 (j : Nat) (d : D) (post : Env → Prop) (e : Env) (i : Int) (oc : O) : Prop := onLs oc fun p xs => onOpt (ixN xs.length i) (kSub5 j d post e p xs)
def kSub (j : Nat) (d : D) (post : Env → Prop) (oi : O) (e : Env) : Prop := onI oi fun i => onO (.pl j) e (kSub3 j d post e i)
def kSeq (lst : Bool) (post : List D → Env → Prop) (o : O) (e : Env) : Prop := match o.toD, lst with
  | .lst ds, true => post ds e
  | .tup ds, false => post ds e
  | _, _ => False
def kR1 (post : List D → Env → Prop) (ds : List D) (e : Env) : Prop := on1 ds fun d => onI (.pu d) fun j => -(2 ^ 62) ≤ j ∧ j < 2 ^ 62 ∧ post (rangeD 0 j.toNat) e
def kR2 (post : List D → Env → Prop) (ds : List D) (e : Env) : Prop := match ds with
  | [.int i, .int j] => (-(2 ^ 62) ≤ i ∧ i < 2 ^ 62 ∧ -(2 ^ 62) ≤ j ∧ j < 2 ^ 62) ∧ post (rangeD i (j - i).toNat) e
  | _ => False
def kBody (x : XP) (b : WS) (F : Env → Prop) (pd : Pd) (e : Env) : Prop := b x ⟨F, pd.rt, pd.nx, F⟩ e
def kLess (W : Nat → Env → Prop) (m : Nat) (e : Env) : Prop := ∃ m', m' < m ∧ W m' e
def kWh (b : WS) (x : XP) (pd : Pd) (F : Env → Prop) (c : Bool) (e : Env) : Prop := if c = true then b x ⟨F, pd.rt, pd.nx, F⟩ e else pd.nx e
def kLc2 (post : O → Env → Prop) (acc : List D) (e : Env) : Prop := ∀ p, post (.ls p acc) e
def kLc (t : WG) (c : WT) (b : WE) (vs : List Nat) (x : XP) (post : O → Env → Prop) (ds : List D) (e : Env) : Prop := ds.length < sizeLine ∧ lcL x t c b vs ds [] (wipeE e vs) (kLc2 post)
def kl3 (vs : List Nat) (F : List D → Env → Prop) (acc : List D) (o : O) (e : Env) : Prop := F (acc ++ [o.toD]) (wipeE e vs)
def kl2 (x : XP) (b : WE) (vs : List Nat) (F : List D → Env → Prop) (acc : List D) (y : Bool) (e : Env) : Prop := if y = true then b x e (kl3 vs F acc) else F acc (wipeE e vs)
def kl1 (x : XP) (c : WT) (b : WE) (vs : List Nat) (F : List D → Env → Prop) (acc : List D) (e : Env) : Prop := c x e (kl2 x b vs F acc)
def kVv2 (post : List (O × Option Nat) → Env → Prop) (o : O) (os : List (O × Option Nat)) (e : Env) : Prop := post ((o, none) :: os) e
def kVv (r : WV) (x : XP) (post : List (O × Option Nat) → Env → Prop) (o : O) (e : Env) : Prop := r x e (kVv2 post o)
def kMvv2 (i : Nat) (post : List (O × Option Nat) → Env → Prop) (o : O) (os : List (O × Option Nat)) (e : Env) : Prop := post ((o, some i) :: os) e
def kMvv (i : Nat) (r : WV) (x : XP) (post : List (O × Option Nat) → Env → Prop) (e : Env) (o : O) : Prop := r x (e.set i none) (kMvv2 i post o)
def kLt3 (i : Nat) (post : List (O × Option Nat) → Env → Prop) (os : List (O × Option Nat)) (e : Env) (o : O) : Prop := post ((o, some i) :: os) (e.set i none)
def kLt2 (i : Nat) (post : List (O × Option Nat) → Env → Prop) (os : List (O × Option Nat)) (e : Env) : Prop := onO (.pl i) e (kLt3 i post os e)
def kLt (i : Nat) (r : WV) (x : XP) (post : List (O × Option Nat) → Env → Prop) (e : Env) (_ : O) : Prop := r x e (kLt2 i post)
def kRet (post : O → Env → Prop) (os : List (O × Option Nat)) (e : Env) (res : O) (fin : Env) : Prop := post res (putBack os fin e)
def kCall (ct : Ct) (post : O → Env → Prop) (os : List (O × Option Nat)) (e : Env) : Prop := ct (os.map (·.1)) (kRet post os e)
theorem e_kE {post : O → Env → Prop} {e : Env} {o : O} : kE post e o = post o e := rfl
theorem e_on1 {o : O} {k : O → Prop} : kOn (some o) k = k o := rfl
theorem e_eg0 {a : Option O} {e : Env} : eget (a :: e) 0 = a := by cases a <;> rfl
theorem e_egS {a : Option O} {e : Env} {n : Nat} : eget (a :: e) (n + 1) = eget e n := rfl
theorem e_ov {o : O} {e : Env} {k : O → Prop} : onO (.val o) e k = k o := rfl
theorem e_op {i : Nat} {e : Env} {k : O → Prop} : onO (.pl i) e k = kOn (eget e i) k := by show (match eget e i with | some o => k o | none => False) = _; cases eget e i <;> rfl
theorem e_var {i : Nat} {x : XP} {e : Env} {post : O → Env → Prop} : vVar i x e post = kOn (eget e i) (kVar i e post) := by
  unfold vVar
  cases h : eget e i with
  | none => rfl
  | some o =>
    cases o with
    | pu d =>
      show post (.pu d) e = post (.pu d) (e.set i (some (.pu d)))
      have h1 := eget_some.mp h
      obtain ⟨hi, h2⟩ := List.getElem?_eq_some_iff.mp h1
      rw [← h2, List.set_getElem_self]
    | _ => rfl
theorem e_kvar {i : Nat} {e : Env} {post : O → Env → Prop} {o : O} : kVar i e post o = post (.pu o.toD) (e.set i (some (.pu o.toD))) := rfl
theorem e_mv {i : Nat} {x : XP} {e : Env} {post : O → Env → Prop} : vMv i x e post = kOn (eget e i) (kMv i e post) := by
  unfold vMv
  cases eget e i <;> rfl
theorem e_kmv {i : Nat} {e : Env} {post : O → Env → Prop} {o : O} : kMv i e post o = post o (e.set i none) := rfl
theorem e_pl {i : Nat} {x : XP} {e : Env} {post : Opnd → Env → Prop} : vPl i x e post = post (.pl i) e := rfl
theorem e_pq {i : Nat} {x : XP} {e : Env} {post : Opnd → Env → Prop} : vPq i x e post = kOn (eget e i) (kPq i e post) := by
  show (∃ o, eget e i = some o ∧ post (.pl i) e) = _
  cases eget e i with
  | none => simp [kOn]
  | some o => simp [kOn, kPq]
theorem e_kpq {i : Nat} {e : Env} {post : Opnd → Env → Prop} {o : O} : kPq i e post o = post (.pl i) e := rfl
theorem e_c {d : D} {x : XP} {e : Env} {post : O → Env → Prop} : vC d x e post = post (.pu d) e := rfl
theorem e_q {a : WE} {x : XP} {e : Env} {post : Opnd → Env → Prop} : a x e (fun o e' => post (.val o) e') = a x e (kQ post) := rfl
theorem e_Q {a : WE} {x : XP} {e : Env} {post : Opnd → Env → Prop} : vQ a x e post = a x e (kQ post) := rfl
theorem e_kq {post : Opnd → Env → Prop} {o : O} {e : Env} : kQ post o e = post (.val o) e := rfl
theorem e_onI {i : Int} {k : Int → Prop} : onI (.pu (.int i)) k = k i := rfl
theorem e_onB {i : Bool} {k : Bool → Prop} : onB (.pu (.bl i)) k = k i := rfl
theorem e_onS {i : Str} {k : Str → Prop} : onS (.pu (.str i)) k = k i := rfl
theorem e_onLst1 {ds : List D} {k : List D → Prop} : onLst (.pu (.lst ds)) k = k ds := rfl
theorem e_onLst2 {p : Addr} {ds : List D} {k : List D → Prop} : onLst (.ls p ds) k = k ds := rfl
theorem e_onLs {p : Addr} {ds : List D} {k : Addr → List D → Prop} : onLs (.ls p ds) k = k p ds := rfl
theorem e_onDc {p : Addr} {ds : List (Key × D)} {k : Addr → List (Key × D) → Prop} : onDc (.dc p ds) k = k p ds := rfl
theorem e_on1_ {α : Type} {a : α} {k : α → Prop} : on1 [a] k = k a := rfl
theorem e_opt {α : Type} {a : α} {k : α → Prop} : onOpt (some a) k = k a := rfl
theorem e_tdp {d : D} : O.toD (.pu d) = d := rfl
theorem e_tdl {p : Addr} {ds : List D} : O.toD (.ls p ds) = .lst ds := rfl
theorem e_tdd {p : Addr} {ds : List (Key × D)} : O.toD (.dc p ds) = .dct ds := rfl
theorem e_op1 {g : G1} {qa : WQ} {x : XP} {e : Env} {post : O → Env → Prop} : vOp1 g qa x e post = qa x e (kOp1 g post) := rfl
theorem e_kop1 {g : G1} {post : O → Env → Prop} {q : Opnd} {e : Env} : kOp1 g post q e = onO q e (kOp1g g post e) := rfl
theorem e_kop1g {g : G1} {post : O → Env → Prop} {e : Env} {o : O} : kOp1g g post e o = g o (kE post e) := rfl
theorem e_op2 {g : G2} {qa qb : WQ} {x : XP} {e : Env} {post : O → Env → Prop} : vOp2 g qa qb x e post = qa x e (kOp2 g qb x post) := rfl
theorem e_kop2 {g : G2} {qb : WQ} {x : XP} {post : O → Env → Prop} {q1 : Opnd} {e : Env} : kOp2 g qb x post q1 e = qb x e (kOp2b g q1 post) := rfl
theorem e_kop2b {g : G2} {post : O → Env → Prop} {q1 q2 : Opnd} {e : Env} : kOp2b g q1 post q2 e = onO q1 e (kOp2c g q2 post e) := rfl
theorem e_kop2c {g : G2} {post : O → Env → Prop} {q2 : Opnd} {e : Env} {o1 : O} : kOp2c g q2 post e o1 = onO q2 e (kOp2d g o1 post e) := rfl
theorem e_kop2d {g : G2} {post : O → Env → Prop} {e : Env} {o1 o2 : O} : kOp2d g o1 post e o2 = g o1 o2 (kE post e) := rfl
theorem e_gMod {i j : Int} {k : O → Prop} : gMod (.pu (.int i)) (.pu (.int j)) k = (0 < j ∧ k (.pu (.int (i % j)))) := rfl
theorem e_gFdiv {i j : Int} {k : O → Prop} : gFdiv (.pu (.int i)) (.pu (.int j)) k = (CDiv i j ∧ k (.pu (.int (i / j)))) := rfl
theorem e_gPow {i j : Int} {k : O → Prop} : gPow (.pu (.int i)) (.pu (.int j)) k = (CPow i j ∧ k (.pu (.int (i ^ j.toNat)))) := rfl
theorem e_gSubI {i j : Int} {k : O → Prop} : gSubI (.pu (.int i)) (.pu (.int j)) k = k (.pu (.int (i - j))) := rfl
theorem e_gLt {i j : Int} {k : O → Prop} : gLt (.pu (.int i)) (.pu (.int j)) k = k (.pu (.bl (decide (i < j)))) := rfl
theorem e_gLe {i j : Int} {k : O → Prop} : gLe (.pu (.int i)) (.pu (.int j)) k = k (.pu (.bl (decide (i ≤ j)))) := rfl
theorem e_gGt {i j : Int} {k : O → Prop} : gGt (.pu (.int i)) (.pu (.int j)) k = k (.pu (.bl (decide (j < i)))) := rfl
theorem e_gGe {i j : Int} {k : O → Prop} : gGe (.pu (.int i)) (.pu (.int j)) k = k (.pu (.bl (decide (j ≤ i)))) := rfl
theorem e_gNeg {i : Int} {k : O → Prop} : gNeg (.pu (.int i)) k = k (.pu (.int (-i))) := rfl
theorem e_gAdd1 {i j : Int} {k : O → Prop} : gAdd (.pu (.int i)) (.pu (.int j)) k = k (.pu (.int (i + j))) := rfl
theorem e_gAdd2 {i j : Str} {k : O → Prop} : gAdd (.pu (.str i)) (.pu (.str j)) k = (i.length + j.length ≤ sizeLine ∧ k (.pu (.str (i ++ j)))) := rfl
theorem e_gAdd3 {i j : List D} {k : O → Prop} : gAdd (.pu (.tup i)) (.pu (.tup j)) k = (i.length + j.length ≤ sizeLine ∧ k (.pu (.tup (i ++ j)))) := rfl
theorem e_gMul1 {i j : Int} {k : O → Prop} : gMul (.pu (.int i)) (.pu (.int j)) k = (CMul i j ∧ k (.pu (.int (i * j)))) := rfl
theorem e_gMul2 {i : Str} {j : Int} {k : O → Prop} : gMul (.pu (.str i)) (.pu (.int j)) k = (-(2 ^ 63) ≤ j ∧ j < 2 ^ 63 ∧ i.length * j.toNat ≤ sizeLine ∧ k (.pu (.str (repS i j)))) := rfl
theorem e_gMul3 {p : Addr} {xs : List D} {j : Int} {k : O → Prop} : gMul (.ls p xs) (.pu (.int j)) k = (-(2 ^ 63) ≤ j ∧ j < 2 ^ 63 ∧ xs.length * j.toNat ≤ sizeLine ∧ ∀ p, k (.ls p (List.replicate j.toNat xs).flatten)) := rfl
theorem e_kPu {k : O → Prop} {d : D} : kPu k d = k (.pu d) := rfl
theorem e_kChar {k : O → Prop} {c : Nat} : kChar k c = k (.pu (.str ⟨#[c]⟩)) := rfl
theorem e_gIx1 {ds : List D} {i : Int} {k : O → Prop} : gIx (.pu (.lst ds)) (.pu (.int i)) k = onAt ds i (kPu k) := rfl
theorem e_gIx2 {ds : List D} {p : Addr} {i : Int} {k : O → Prop} : gIx (.ls p ds) (.pu (.int i)) k = onAt ds i (kPu k) := rfl
theorem e_gIx3 {ds : List D} {i : Int} {k : O → Prop} : gIx (.pu (.tup ds)) (.pu (.int i)) k = onAt ds i (kPu k) := rfl
theorem e_gIx4 {s : Str} {i : Int} {k : O → Prop} : gIx (.pu (.str s)) (.pu (.int i)) k = (s.length ≤ sizeLine ∧ onAt s.cps.toList i (kChar k)) := rfl
theorem e_at0 {α : Type} {a : α} {r : List α} {k : α → Prop} : onAt (a :: r) (0 : Int) k = k a := onAt_nat (j := 0) rfl
theorem e_at1 {α : Type} {a b : α} {r : List α} {k : α → Prop} : onAt (b :: a :: r) (1 : Int) k = k a := onAt_nat (j := 1) rfl
theorem e_at2 {α : Type} {a b c : α} {r : List α} {k : α → Prop} : onAt (c :: b :: a :: r) (2 : Int) k = k a := onAt_nat (j := 2) rfl
theorem e_at3 {α : Type} {a b c d : α} {r : List α} {k : α → Prop} : onAt (d :: c :: b :: a :: r) (3 : Int) k = k a := onAt_nat (j := 3) rfl
theorem e_at4 {α : Type} {a b c d f : α} {r : List α} {k : α → Prop} : onAt (f :: d :: c :: b :: a :: r) (4 : Int) k = k a := onAt_nat (j := 4) rfl
theorem e_atm1 {α : Type} {a : α} {r : List α} {k : α → Prop} : onAt (r ++ [a]) (-1) k = k a := by unfold onAt; rw [atI_last]
theorem e_gEq {o1 o2 : O} {k : O → Prop} : gEq false o1 o2 k = (dep o1.toD ≤ 60 ∧ cmpb o1.toD o2.toD = true ∧ k (.pu (.bl (eqv o1.toD o2.toD)))) := by unfold gEq; simp
theorem e_gNe {o1 o2 : O} {k : O → Prop} : gEq true o1 o2 k = (dep o1.toD ≤ 60 ∧ cmpb o1.toD o2.toD = true ∧ notDct o1.toD = true ∧ k (.pu (.bl (!eqv o1.toD o2.toD)))) := by unfold gEq; simp
theorem e_isN1 {o : O} {k : O → Prop} : vIsN false o k = k (.pu (.bl o.isN)) := rfl
theorem e_isN2 {o : O} {k : O → Prop} : vIsN true o k = k (.pu (.bl (!o.isN))) := rfl
theorem e_test {t : WE} {x : XP} {e : Env} {post : Bool → Env → Prop} : vTest t x e post = t x e (kTest post) := rfl
theorem e_ktest {post : Bool → Env → Prop} {e : Env} {b : Bool} : kTest post (.pu (.bl b)) e = post b e := rfl
theorem e_andT {a b : WT} {x : XP} {e : Env} {post : Bool → Env → Prop} : vAndT a b x e post = a x e (kAndT b x post) := rfl
theorem e_kandT {b : WT} {x : XP} {e : Env} {post : Bool → Env → Prop} {c : Bool} : kAndT b x post c e = ((c = true → b x e post) ∧ (c = false → post false e)) := by cases c <;> simp [kAndT, onB]
theorem e_orT {a b : WT} {x : XP} {e : Env} {post : Bool → Env → Prop} : vOrT a b x e post = a x e (kOrT b x post) := rfl
theorem e_korT {b : WT} {x : XP} {e : Env} {post : Bool → Env → Prop} {c : Bool} : kOrT b x post c e = ((c = true → post true e) ∧ (c = false → b x e post)) := by cases c <;> simp [kOrT, onB]
theorem e_notT {a : WT} {x : XP} {e : Env} {post : Bool → Env → Prop} : vNotT a x e post = a x e (kNotT post) := rfl
theorem e_knotT {e : Env} {post : Bool → Env → Prop} {c : Bool} : kNotT post c e = post (!c) e := rfl
theorem e_ifE {c : WT} {a b : WE} {x : XP} {e : Env} {post : O → Env → Prop} : vIfE c a b x e post = c x e (kIfE a b x post) := rfl
theorem e_kifE {a b : WE} {x : XP} {e : Env} {post : O → Env → Prop} {c : Bool} : kIfE a b x post c e = ((c = true → a x e post) ∧ (c = false → b x e post)) := by cases c <;> simp [kIfE, onB]
theorem e_andV {a b : WE} {x : XP} {e : Env} {post : O → Env → Prop} : vAndV a b x e post = a x e (kAndV b x post) := rfl
theorem e_kandV {b : WE} {x : XP} {e : Env} {post : O → Env → Prop} {c : Bool} : kAndV b x post (.pu (.bl c)) e = ((c = true → b x e post) ∧ (c = false → post (.pu (.bl false)) e)) := by cases c <;> simp [kAndV, onB]
theorem e_orV {a b : WE} {x : XP} {e : Env} {post : O → Env → Prop} : vOrV a b x e post = a x e (kOrV b x post) := rfl
theorem e_korV {b : WE} {x : XP} {e : Env} {post : O → Env → Prop} {c : Bool} : kOrV b x post (.pu (.bl c)) e = ((c = true → post (.pu (.bl true)) e) ∧ (c = false → b x e post)) := by cases c <;> simp [kOrV, onB]
theorem e_notV {a : WE} {x : XP} {e : Env} {post : O → Env → Prop} : vNotV a x e post = a x e (kNotV post) := rfl
theorem e_knotV {e : Env} {post : O → Env → Prop} {c : Bool} : kNotV post (.pu (.bl c)) e = post (.pu (.bl (!c))) e := rfl
theorem e_yes {x : XP} {e : Env} {post : Bool → Env → Prop} : vYes x e post = post true e := rfl
theorem e_vpN {x : XP} {e : Env} {post : List D → Env → Prop} : vpNil x e post = post [] e := rfl
theorem e_vpC {a : WE} {r : WP} {x : XP} {e : Env} {post : List D → Env → Prop} : vpCons a r x e post = a x e (kVp r x post) := rfl
theorem e_kvp {r : WP} {x : XP} {e : Env} {post : List D → Env → Prop} {o : O} : kVp r x post o e = r x e (kVp2 post o) := rfl
theorem e_kvp2 {e : Env} {post : List D → Env → Prop} {o : O} {ds : List D} : kVp2 post o ds e = post (o.toD :: ds) e := rfl
theorem e_tup {w : WP} {x : XP} {e : Env} {post : O → Env → Prop} : vTup w x e post = w x e (kTup post) := rfl
theorem e_ktup {e : Env} {post : O → Env → Prop} {ds : List D} : kTup post ds e = (ds.length ≤ sizeLine ∧ post (.pu (.tup ds)) e) := rfl
theorem e_lst {w : WP} {x : XP} {e : Env} {post : O → Env → Prop} : vLst w x e post = w x e (kLst post) := rfl
theorem e_klst {e : Env} {post : O → Env → Prop} {ds : List D} : kLst post ds e = (ds.length ≤ sizeLine ∧ ∀ p, post (.ls p ds) e) := rfl
theorem e_voN {x : XP} {e : Env} {post : Option Int → Env → Prop} : voNone x e post = post none e := rfl
theorem e_voS {a : WE} {x : XP} {e : Env} {post : Option Int → Env → Prop} : voSome a x e post = a x e (kSome post) := rfl
theorem e_ksome {post : Option Int → Env → Prop} {i : Int} {e : Env} : kSome post (.pu (.int i)) e = post (some i) e := rfl
theorem e_sl {qa : WQ} {wl wh : WO} {x : XP} {e : Env} {post : O → Env → Prop} : vSl qa wl wh x e post = qa x e (kSl wl wh x post) := rfl
theorem e_ksl {wl wh : WO} {x : XP} {post : O → Env → Prop} {q : Opnd} {e : Env} : kSl wl wh x post q e = wl x e (kSl2 wh x post q) := rfl
theorem e_ksl2 {wh : WO} {x : XP} {post : O → Env → Prop} {q : Opnd} {lo : Option Int} {e : Env} : kSl2 wh x post q lo e = wh x e (kSl3 post q lo) := rfl
theorem e_ksl3 {post : O → Env → Prop} {q : Opnd} {lo hi : Option Int} {e : Env} : kSl3 post q lo hi e = onO q e (kSl4 lo hi post e) := rfl
theorem e_ksl4 {lo hi : Option Int} {post : O → Env → Prop} {e : Env} {o : O} : kSl4 lo hi post e o = gSl o lo hi (kE post e) := rfl
theorem e_gSl1 {ds : List D} {lo hi : Option Int} {k : O → Prop} : gSl (.pu (.lst ds)) lo hi k = ∀ p, k (.ls p (cut ds lo hi)) := rfl
theorem e_gSl2 {p : Addr} {ds : List D} {lo hi : Option Int} {k : O → Prop} : gSl (.ls p ds) lo hi k = ∀ p, k (.ls p (cut ds lo hi)) := rfl
theorem e_gSl3 {ds : List D} {lo hi : Option Int} {k : O → Prop} : gSl (.pu (.tup ds)) lo hi k = k (.pu (.tup (cut ds lo hi))) := rfl
theorem e_gSl4 {s : Str} {lo hi : Option Int} {k : O → Prop} : gSl (.pu (.str s)) lo hi k = (s.length ≤ sizeLine ∧ k (.pu (.str (cutS s lo hi)))) := rfl
theorem e_os0 {e : Env} {k : List O → Prop} : onOs [] e k = k [] := rfl
theorem e_osS {q : Opnd} {qs : List Opnd} {e : Env} {k : List O → Prop} : onOs (q :: qs) e k = onO q e (kOs qs e k) := rfl
theorem e_kos {qs : List Opnd} {e : Env} {k : List O → Prop} {o : O} : kOs qs e k o = onOs qs e (kOs2 k o) := rfl
theorem e_kos2 {k : List O → Prop} {o : O} {os : List O} : kOs2 k o os = k (o :: os) := rfl
theorem e_vaN {x : XP} {e : Env} {post : List Opnd → Env → Prop} : vaNil x e post = post [] e := rfl
theorem e_vaC {a : WQ} {r : WA} {x : XP} {e : Env} {post : List Opnd → Env → Prop} : vaCons a r x e post = a x e (kVa r x post) := rfl
theorem e_kva {r : WA} {x : XP} {post : List Opnd → Env → Prop} {q : Opnd} {e : Env} : kVa r x post q e = r x e (kVa2 post q) := rfl
theorem e_kva2 {post : List Opnd → Env → Prop} {q : Opnd} {qs : List Opnd} {e : Env} : kVa2 post q qs e = post (q :: qs) e := rfl
theorem e_cb {g : GN} {wa : WA} {x : XP} {e : Env} {post : O → Env → Prop} : vCB g wa x e post = wa x e (kCB g post) := rfl
theorem e_kcb {g : GN} {post : O → Env → Prop} {qs : List Opnd} {e : Env} : kCB g post qs e = onOs qs e (kCB2 g post e) := rfl
theorem e_kcb2 {g : GN} {post : O → Env → Prop} {e : Env} {os : List O} : kCB2 g post e os = g os (kE post e) := rfl
theorem e_g1 {g : G1} {o : O} {k : O → Prop} : g1 g [o] k = g o k := rfl
theorem e_g2 {g : G2} {a b : O} {k : O → Prop} : g2 g [a, b] k = g a b k := rfl
theorem e_gLen1 {ds : List D} {k : O → Prop} : gLen (.pu (.lst ds)) k = k (.pu (.int ds.length)) := rfl
theorem e_gList1 {ds : List D} {k : O → Prop} : gList (.pu (.lst ds)) k = ∀ p, k (.ls p ds) := rfl
theorem e_gTuple1 {ds : List D} {k : O → Prop} : gTuple (.pu (.lst ds)) k = k (.pu (.tup ds)) := rfl
theorem e_gLen2 {p : Addr} {ds : List D} {k : O → Prop} : gLen (.ls p ds) k = k (.pu (.int ds.length)) := rfl
theorem e_gList2 {p : Addr} {ds : List D} {k : O → Prop} : gList (.ls p ds) k = ∀ p, k (.ls p ds) := rfl
theorem e_gTuple2 {p : Addr} {ds : List D} {k : O → Prop} : gTuple (.ls p ds) k = k (.pu (.tup ds)) := rfl
theorem e_gLen3 {ds : List D} {k : O → Prop} : gLen (.pu (.tup ds)) k = k (.pu (.int ds.length)) := rfl
theorem e_gList3 {ds : List D} {k : O → Prop} : gList (.pu (.tup ds)) k = ∀ p, k (.ls p ds) := rfl
theorem e_gTuple3 {ds : List D} {k : O → Prop} : gTuple (.pu (.tup ds)) k = k (.pu (.tup ds)) := rfl
theorem e_gLen4 {ds : List (Key × D)} {k : O → Prop} : gLen (.pu (.dct ds)) k = k (.pu (.int ds.length)) := rfl
theorem e_gLen5 {p : Addr} {ds : List (Key × D)} {k : O → Prop} : gLen (.dc p ds) k = k (.pu (.int ds.length)) := rfl
theorem e_gLen6 {s : Str} {k : O → Prop} : gLen (.pu (.str s)) k = (s.length ≤ sizeLine ∧ k (.pu (.int s.length))) := rfl
theorem e_gAbs {i : Int} {k : O → Prop} : gAbs (.pu (.int i)) k = k (.pu (.int i.natAbs)) := by
  show k _ = k _
  congr 3
  split <;> omega
theorem e_gInt1 {i : Int} {k : O → Prop} : gInt (.pu (.int i)) k = k (.pu (.int i)) := rfl
theorem e_gInt2 {b : Bool} {k : O → Prop} : gInt (.pu (.bl b)) k = k (.pu (.int (if b = true then 1 else 0))) := rfl
theorem e_gMax {i j : Int} {k : O → Prop} : gMax2 (.pu (.int i)) (.pu (.int j)) k = k (.pu (.int (max i j))) := by
  show k _ = k _
  congr 3
  split <;> omega
theorem e_gMin {i j : Int} {k : O → Prop} : gMin2 (.pu (.int i)) (.pu (.int j)) k = k (.pu (.int (min i j))) := by
  show k _ = k _
  congr 3
  split <;> omega
theorem e_gDm {i j : Int} {k : O → Prop} : gDivmod (.pu (.int i)) (.pu (.int j)) k = (CDiv i j ∧ k (.pu (.tup [.int (i / j), .int (i % j)]))) := rfl
theorem e_isi {T : String} {qa : WQ} {x : XP} {e : Env} {post : O → Env → Prop} : vIsi T qa x e post = qa x e (kIsi T post) := rfl
theorem e_kisi {T : String} {post : O → Env → Prop} {q : Opnd} {e : Env} : kIsi T post q e = onO q e (kIsi2 T post e) := rfl
theorem e_isi_str12 {s : Str} {post : O → Env → Prop} {e : Env} : kIsi2 "str" post e (.pu (.str s)) = post (.pu (.bl true)) e := rfl
theorem e_isi_tuple12 {s : List D} {post : O → Env → Prop} {e : Env} : kIsi2 "tuple" post e (.pu (.tup s)) = post (.pu (.bl true)) e := rfl
theorem e_isi_list12 {s : List D} {post : O → Env → Prop} {e : Env} : kIsi2 "list" post e (.pu (.lst s)) = post (.pu (.bl true)) e := rfl
theorem e_isi_list7 {p : Addr} {s : List D} {post : O → Env → Prop} {e : Env} : kIsi2 "list" post e (.ls p s) = post (.pu (.bl true)) e := rfl
theorem e_isi_dict12 {s : List (Key × D)} {post : O → Env → Prop} {e : Env} : kIsi2 "dict" post e (.pu (.dct s)) = post (.pu (.bl true)) e := rfl
theorem e_isi_dict7 {p : Addr} {s : List (Key × D)} {post : O → Env → Prop} {e : Env} : kIsi2 "dict" post e (.dc p s) = post (.pu (.bl true)) e := rfl
theorem e_isi_int12 {s : Int} {post : O → Env → Prop} {e : Env} : kIsi2 "int" post e (.pu (.int s)) = post (.pu (.bl true)) e := rfl
theorem e_mt {T : String} {g : GM} {qa : WQ} {wa : WA} {x : XP} {e : Env} {post : O → Env → Prop} : vMt T g qa wa x e post = qa x e (kMt T g wa x post) := rfl
theorem e_kmt {T : String} {g : GM} {wa : WA} {x : XP} {post : O → Env → Prop} {q : Opnd} {e : Env} : kMt T g wa x post q e = onO q e (kMt2 T g wa x post q e) := rfl
theorem e_kmt2 {T : String} {g : GM} {wa : WA} {x : XP} {post : O → Env → Prop} {q : Opnd} {e : Env} {o : O} : kMt2 T g wa x post q e o = (tyO o = T ∧ wa x e (kMt3 g post q)) := rfl
theorem e_kmt3 {g : GM} {post : O → Env → Prop} {q : Opnd} {qs : List Opnd} {e : Env} : kMt3 g post q qs e = onO q e (kMt4 g post qs e) := rfl
theorem e_kmt4 {g : GM} {post : O → Env → Prop} {qs : List Opnd} {e : Env} {o : O} : kMt4 g post qs e o = onOs qs e (kMt5 g post o e) := rfl
theorem e_kmt5 {g : GM} {post : O → Env → Prop} {o : O} {e : Env} {os : List O} : kMt5 g post o e os = g o os (kE post e) := rfl
theorem e_tyS {s : Str} : (tyO (.pu (.str s)) = "str") = True := eq_true rfl
theorem e_tyL {p : Addr} {s : List D} : (tyO (.ls p s) = "list") = True := eq_true rfl
theorem e_tyL2 {s : List D} : (tyO (.pu (.lst s)) = "list") = True := eq_true rfl
theorem e_tyD {p : Addr} {s : List (Key × D)} : (tyO (.dc p s) = "dict") = True := eq_true rfl
theorem e_gSS {f : Str → Str → D} {a b : Str} {k : O → Prop} : gSS f (.pu (.str a)) [.pu (.str b)] k = k (.pu (f a b)) := rfl
theorem e_gJoin {a : Str} {o : O} {k : O → Prop} : gJoin (.pu (.str a)) [o] k = onLst o fun ds => onOpt (dStrs ds) fun ys => (ys.map (·.length)).sum + ys.length * a.length ≤ 16777216 ∧ k (.pu (.str (Txt.join a ys))) := rfl
theorem e_mut {T : String} {i : Nat} {g : GU} {wp : WP} {x : XP} {e : Env} {post : O → Env → Prop} : vMut T i g wp x e post = onO (.pl i) e (kMut T i g wp x post e) := rfl
theorem e_mut0 {T : String} {i : Nat} {g : GU} {x : XP} {e : Env} {post : O → Env → Prop} : vMut0 T i g x e post = onO (.pl i) e (kMut0 T i g post e) := rfl
theorem e_kmut {T : String} {i : Nat} {g : GU} {wp : WP} {x : XP} {post : O → Env → Prop} {e : Env} {o : O} : kMut T i g wp x post e o = (tyO o = T ∧ wp x e (kMut2 i g post)) := rfl
theorem e_kmut0 {T : String} {i : Nat} {g : GU} {post : O → Env → Prop} {e : Env} {o : O} : kMut0 T i g post e o = (tyO o = T ∧ g o [] (kMut4 i post e)) := rfl
theorem e_kmut2 {i : Nat} {g : GU} {post : O → Env → Prop} {ds : List D} {e : Env} : kMut2 i g post ds e = onO (.pl i) e (kMut3 i g post ds e) := rfl
theorem e_kmut3 {i : Nat} {g : GU} {post : O → Env → Prop} {ds : List D} {e : Env} {o : O} : kMut3 i g post ds e o = g o ds (kMut4 i post e) := rfl
theorem e_kmut4 {i : Nat} {post : O → Env → Prop} {e : Env} {res o2 : O} : kMut4 i post e res o2 = post res (e.set i (some o2)) := rfl
theorem e_gAppend {p : Addr} {xs : List D} {d : D} {k : O → O → Prop} : gAppend (.ls p xs) [d] k = (xs.length < sizeLine ∧ k (.pu .non) (.ls p (xs ++ [d]))) := rfl
theorem e_gClear {p : Addr} {xs : List D} {k : O → O → Prop} : gClear (.ls p xs) [] k = k (.pu .non) (.ls p []) := by show (([] : List D) = [] ∧ _) = _; simp
theorem e_ext {i : Nat} {a : WE} {x : XP} {e : Env} {post : O → Env → Prop} : vExtend i a x e post = onO (.pl i) e (kExt i a x post e) := rfl
theorem e_kext {i : Nat} {a : WE} {x : XP} {e : Env} {post : O → Env → Prop} {o : O} : kExt i a x post e o = (tyO o = "list" ∧ a x e (kExt2 i post)) := rfl
theorem e_kext2 {i : Nat} {post : O → Env → Prop} {e : Env} {p : Addr} {ys : List D} : kExt2 i post (.ls p ys) e = onO (.pl i) e (kExt3 i post e ys) := rfl
theorem e_kext3 {i : Nat} {post : O → Env → Prop} {e : Env} {p : Addr} {ys xs : List D} : kExt3 i post e ys (.ls p xs) = (xs.length + ys.length ≤ sizeLine ∧ post (.pu .non) (e.set i (some (.ls p (xs ++ ys))))) := rfl
theorem e_next {x : XP} {pd : Pd} {e : Env} : vNext x pd e = pd.nx e := rfl
theorem e_seq {a b : WS} {x : XP} {pd : Pd} {e : Env} : vSeq a b x pd e = a x ⟨b x pd, pd.rt, pd.bk, pd.ct⟩ e := rfl
theorem e_brk {x : XP} {pd : Pd} {e : Env} : vBreak x pd e = pd.bk e := rfl
theorem e_cnt {x : XP} {pd : Pd} {e : Env} : vCont x pd e = pd.ct e := rfl
theorem e_drop {a : WE} {x : XP} {pd : Pd} {e : Env} : vDrop a x pd e = a x e (kDrop pd) := rfl
theorem e_kdrop {pd : Pd} {o : O} {e : Env} : kDrop pd o e = pd.nx e := rfl
theorem e_ret {a : WE} {x : XP} {pd : Pd} {e : Env} : vRet a x pd e = a x e pd.rt := rfl
theorem e_retN {x : XP} {pd : Pd} {e : Env} : vRetN x pd e = pd.rt (.pu .non) e := rfl
theorem e_if {c : WT} {a b : WS} {x : XP} {pd : Pd} {e : Env} : vIf c a b x pd e = c x e (kIf a b x pd) := rfl
theorem e_kif {a b : WS} {x : XP} {pd : Pd} {e : Env} {c : Bool} : kIf a b x pd c e = ((c = true → a x pd e) ∧ (c = false → b x pd e)) := by cases c <;> simp [kIf, onB]
theorem e_set {i : Nat} {a : WE} {x : XP} {pd : Pd} {e : Env} : vSet i a x pd e = a x e (kSet i pd) := rfl
theorem e_kset {i : Nat} {pd : Pd} {o : O} {e : Env} : kSet i pd o e = pd.nx (e.set i (some o)) := rfl
theorem e_asg {a : WE} {t : WG} {x : XP} {pd : Pd} {e : Env} : vAsg a t x pd e = a x e (kAsg t pd) := rfl
theorem e_kasg {t : WG} {pd : Pd} {o : O} {e : Env} : kAsg t pd o e = t o.toD e pd.nx := rfl
theorem e_name {i : Nat} {d : D} {e : Env} {post : Env → Prop} : wName i d e post = post (e.set i (some (.pu d))) := rfl
theorem e_wnil {e : Env} {post : Env → Prop} : wNil [] e post = post e := by show (([] : List D) = [] ∧ _) = _; simp
theorem e_wcons {t : WG} {u : WGs} {d : D} {r : List D} {e : Env} {post : Env → Prop} : wCons t u (d :: r) e post = t d e (kW u r post) := rfl
theorem e_kw {u : WGs} {r : List D} {e : Env} {post : Env → Prop} : kW u r post e = u r e post := rfl
theorem e_wtup {n : Nat} {t : WGs} {ds : List D} {e : Env} {post : Env → Prop} : wTup n t (.tup ds) e post = (ds.length = n ∧ t ds e post) := rfl
theorem e_sub {j : Nat} {b : WE} {d : D} {e : Env} {post : Env → Prop} : wSub j b d e post = ((∃ o, eget e j = some o) ∧ b noX e (kSub j d post)) := rfl
theorem e_ksub {j : Nat} {d : D} {e : Env} {post : Env → Prop} {i : Int} : kSub j d post (.pu (.int i)) e = onO (.pl j) e (kSub3 j d post e i) := rfl
theorem e_ksub3 {j : Nat} {d : D} {e : Env} {post : Env → Prop} {i : Int} {p : Addr} {xs : List D} : kSub3 j d post e i (.ls p xs) = onOpt (ixN xs.length i) (kSub5 j d post e p xs) := rfl
theorem e_ksub5 {j : Nat} {d : D} {e : Env} {post : Env → Prop} {k : Nat} {p : Addr} {xs : List D} : kSub5 j d post e p xs k = post (e.set j (some (.ls p (xs.set k d)))) := rfl
theorem e_ex {o : O} : (∃ o', some o = some o') = True := eq_true ⟨o, rfl⟩
theorem e_ix1_0 : ixN 1 (0 : Int) = some 0 := rfl
theorem e_ix2_0 : ixN 2 (0 : Int) = some 0 := rfl
theorem e_ix2_1 : ixN 2 (1 : Int) = some 1 := rfl
theorem e_ix3_0 : ixN 3 (0 : Int) = some 0 := rfl
theorem e_ix3_1 : ixN 3 (1 : Int) = some 1 := rfl
theorem e_ix3_2 : ixN 3 (2 : Int) = some 2 := rfl
theorem e_ix4_0 : ixN 4 (0 : Int) = some 0 := rfl
theorem e_ix4_1 : ixN 4 (1 : Int) = some 1 := rfl
theorem e_ix4_2 : ixN 4 (2 : Int) = some 2 := rfl
theorem e_ix4_3 : ixN 4 (3 : Int) = some 3 := rfl
theorem e_ix5_0 : ixN 5 (0 : Int) = some 0 := rfl
theorem e_ix5_1 : ixN 5 (1 : Int) = some 1 := rfl
theorem e_ix5_2 : ixN 5 (2 : Int) = some 2 := rfl
theorem e_ix5_3 : ixN 5 (3 : Int) = some 3 := rfl
theorem e_ix5_4 : ixN 5 (4 : Int) = some 4 := rfl
theorem e_for {w : WI} {t : WG} {b : WS} {x : XP} {pd : Pd} {e : Env} : vFor w t b x pd e = w x e (forL x t b pd) := rfl
theorem e_wseq {lst : Bool} {a : WE} {x : XP} {e : Env} {post : List D → Env → Prop} : wSeq lst a x e post = a x e (kSeq lst post) := rfl
theorem e_kseq1 {ds : List D} {e : Env} {post : List D → Env → Prop} : kSeq true post (.pu (.lst ds)) e = post ds e := rfl
theorem e_kseq2 {p : Addr} {ds : List D} {e : Env} {post : List D → Env → Prop} : kSeq true post (.ls p ds) e = post ds e := rfl
theorem e_kseq3 {ds : List D} {e : Env} {post : List D → Env → Prop} : kSeq false post (.pu (.tup ds)) e = post ds e := rfl
theorem e_wr1 {a : WP} {x : XP} {e : Env} {post : List D → Env → Prop} : wRange1 a x e post = a x e (kR1 post) := rfl
theorem e_kr1 {j : Int} {e : Env} {post : List D → Env → Prop} : kR1 post [.int j] e = (-(2 ^ 62) ≤ j ∧ j < 2 ^ 62 ∧ post (rangeD 0 j.toNat) e) := rfl
theorem e_wr2 {a : WP} {x : XP} {e : Env} {post : List D → Env → Prop} : wRange2 a x e post = a x e (kR2 post) := rfl
theorem e_kr2 {i j : Int} {e : Env} {post : List D → Env → Prop} : kR2 post [.int i, .int j] e = ((-(2 ^ 62) ≤ i ∧ i < 2 ^ 62 ∧ -(2 ^ 62) ≤ j ∧ j < 2 ^ 62) ∧ post (rangeD i (j - i).toNat) e) := rfl
theorem e_body {x : XP} {b : WS} {F : Env → Prop} {pd : Pd} {e : Env} : kBody x b F pd e = b x ⟨F, pd.rt, pd.nx, F⟩ e := rfl
theorem e_kwh {b : WS} {x : XP} {pd : Pd} {F : Env → Prop} {e : Env} {c : Bool} : kWh b x pd F c e = ((c = true → b x ⟨F, pd.rt, pd.nx, F⟩ e) ∧ (c = false → pd.nx e)) := by cases c <;> simp [kWh, onB]
theorem e_lc {w : WI} {t : WG} {c : WT} {b : WE} {vs : List Nat} {x : XP} {e : Env} {post : O → Env → Prop} : vLc w t c b vs x e post = w x e (kLc t c b vs x post) := rfl
theorem e_klc {t : WG} {c : WT} {b : WE} {vs : List Nat} {x : XP} {e : Env} {post : O → Env → Prop} {ds : List D} : kLc t c b vs x post ds e = (ds.length < sizeLine ∧ lcL x t c b vs ds [] (wipeE e vs) (kLc2 post)) := rfl
theorem e_klc2 {post : O → Env → Prop} {acc : List D} {e : Env} : kLc2 post acc e = ∀ p, post (.ls p acc) e := rfl
theorem e_wp0 {e : Env} : wipeE e [] = e := rfl
theorem e_wp1 {e : Env} {v : Nat} {vs : List Nat} : wipeE e (v :: vs) = (wipeE e vs).set v none := rfl
theorem e_kl1 {x : XP} {cc : WT} {b : WE} {vs : List Nat} {F : List D → Env → Prop} {acc : List D} {e : Env} : kl1 x cc b vs F acc e = cc x e (kl2 x b vs F acc) := rfl
theorem e_kl2 {x : XP} {b : WE} {vs : List Nat} {F : List D → Env → Prop} {acc : List D} {c : Bool} {e : Env} : kl2 x b vs F acc c e = ((c = true → b x e (kl3 vs F acc)) ∧ (c = false → F acc (wipeE e vs))) := by cases c <;> simp [kl2, onB]
theorem e_kl3 {vs : List Nat} {F : List D → Env → Prop} {acc : List D} {o : O} {e : Env} : kl3 vs F acc o e = F (acc ++ [o.toD]) (wipeE e vs) := rfl
theorem e_vvN {x : XP} {e : Env} {post : List (O × Option Nat) → Env → Prop} : vvNil x e post = post [] e := rfl
theorem e_vvC {a : WE} {r : WV} {x : XP} {e : Env} {post : List (O × Option Nat) → Env → Prop} : vvCons a r x e post = a x e (kVv r x post) := rfl
theorem e_kvv {r : WV} {x : XP} {post : List (O × Option Nat) → Env → Prop} {o : O} {e : Env} : kVv r x post o e = r x e (kVv2 post o) := rfl
theorem e_kvv2 {post : List (O × Option Nat) → Env → Prop} {o : O} {os : List (O × Option Nat)} {e : Env} : kVv2 post o os e = post ((o, none) :: os) e := rfl
theorem e_vvM {i : Nat} {r : WV} {x : XP} {e : Env} {post : List (O × Option Nat) → Env → Prop} : vvMv i r x e post = onO (.pl i) e (kMvv i r x post e) := rfl
theorem e_kmvv {i : Nat} {r : WV} {x : XP} {post : List (O × Option Nat) → Env → Prop} {e : Env} {o : O} : kMvv i r x post e o = r x (e.set i none) (kMvv2 i post o) := rfl
theorem e_kmvv2 {i : Nat} {post : List (O × Option Nat) → Env → Prop} {o : O} {os : List (O × Option Nat)} {e : Env} : kMvv2 i post o os e = post ((o, some i) :: os) e := rfl
theorem e_vlt {i : Nat} {r : WV} {x : XP} {e : Env} {post : List (O × Option Nat) → Env → Prop} : vvLt i r x e post = kOn (eget e i) (kLt i r x post e) := by
  show ((∃ o, eget e i = some o) ∧ r x e (kLt2 i post)) = _
  cases eget e i with
  | none => simp [kOn]
  | some o => simp [kOn, kLt]
theorem e_klt {i : Nat} {r : WV} {x : XP} {post : List (O × Option Nat) → Env → Prop} {e : Env} {o : O} : kLt i r x post e o = r x e (kLt2 i post) := rfl
theorem e_klt2 {i : Nat} {post : List (O × Option Nat) → Env → Prop} {os : List (O × Option Nat)} {e : Env} : kLt2 i post os e = onO (.pl i) e (kLt3 i post os e) := rfl
theorem e_klt3 {i : Nat} {post : List (O × Option Nat) → Env → Prop} {os : List (O × Option Nat)} {e : Env} {o : O} : kLt3 i post os e o = post ((o, some i) :: os) (e.set i none) := rfl
theorem e_call {ct : Ct} {a : WV} {x : XP} {e : Env} {post : O → Env → Prop} : vCall ct a x e post = a x e (kCall ct post) := rfl
theorem e_kcall {ct : Ct} {post : O → Env → Prop} {os : List (O × Option Nat)} {e : Env} : kCall ct post os e = ct (os.map (·.1)) (kRet post os e) := rfl
theorem e_kret {post : O → Env → Prop} {os : List (O × Option Nat)} {e : Env} {res : O} {fin : Env} : kRet post os e res fin = post res (putBack os fin e) := rfl
theorem e_pb0 {fin e : Env} : putBack [] fin e = e := by cases fin <;> rfl
theorem e_pb1 {o : O} {r : List (O × Option Nat)} {f : Option O} {fs e : Env} : putBack ((o, none) :: r) (f :: fs) e = putBack r fs e := by cases f <;> rfl
theorem e_pbE {r : List (O × Option Nat)} {e : Env} : putBack r [] e = e := by cases r with
  | nil => rfl
  | cons a r => obtain ⟨o, b⟩ := a; cases b <;> rfl
theorem e_pb2 {p : Addr} {a b : List D} {i : Nat} {r : List (O × Option Nat)} {fs e : Env} : putBack ((.ls p a, some i) :: r) (some (.ls p b) :: fs) e = putBack r fs (e.set i (some (.ls p b))) := by
  show (if _ then _ else _) = _
  rw [if_pos ⟨rfl, rfl⟩]
theorem e_pb3 {p : Addr} {a b : List (Key × D)} {i : Nat} {r : List (O × Option Nat)} {fs e : Env} : putBack ((.dc p a, some i) :: r) (some (.dc p b) :: fs) e = putBack r fs (e.set i (some (.dc p b))) := by
  show (if _ then _ else _) = _
  rw [if_pos ⟨rfl, rfl⟩]
theorem forL_ind {x : XP} {t : WG} {b : WS} {pd : Pd} (P : List D → Env → Prop) (h0 : ∀ e, P [] e → pd.nx e) (hs : ∀ d r e, P (d :: r) e → ∀ F : Env → Prop, (∀ e', P r e' → F e') → t d e (kBody x b F pd)) : ∀ ds e, P ds e → forL x t b pd ds e
  | [], e, h => h0 e h
  | d :: r, e, h => hs d r e h _ fun e' h' => forL_ind P h0 hs r e' h'
theorem lcL_ind {x : XP} {t : WG} {c : WT} {b : WE} {vs : List Nat} {k : List D → Env → Prop} (P : List D → List D → Env → Prop) (h0 : ∀ acc e, P [] acc e → k acc e) (hs : ∀ d r acc e, P (d :: r) acc e → ∀ F : List D → Env → Prop, (∀ acc' e', P r acc' e' → F acc' e') → t d e (kl1 x c b vs F acc)) : ∀ ds acc e, P ds acc e → lcL x t c b vs ds acc e k
  | [], acc, e, h => h0 acc e h
  | d :: r, acc, e, h => hs d r acc e h _ fun acc' e' h' => lcL_ind P h0 hs r acc' e' h'
theorem if_by {c : WT} {a b : WS} {x : XP} {pd : Pd} {e : Env} (M : Env → Prop) (hn : ∀ e, M e → pd.nx e) (h : ∀ N : Env → Prop, (∀ e, M e → N e) → vIf c a b x ⟨N, pd.rt, pd.bk, pd.ct⟩ e) : vIf c a b x pd e := h pd.nx hn
theorem wh_ind {c : WT} {b : WS} {x : XP} {pd : Pd} {e : Env} (W : Nat → Env → Prop) (m0 : Nat) (h0 : W m0 e) (hs : ∀ m e, W m e → ∀ F : Env → Prop, (∀ m' e', m' < m → W m' e' → F e') → c x e (kWh b x pd F)) : vWhile c b x pd e :=
  ⟨W, ⟨m0, h0⟩, fun m e h => hs m e h (fun e' => ∃ m', m' < m ∧ W m' e') fun m' e' hm hw => ⟨m', hm, hw⟩⟩
theorem popAt_of {p : Addr} {xs : List D} {i : Int} {k : O → O → Prop} (hl : xs.length < 2 ^ 62) (h0 : 0 ≤ i) (h1 : i < xs.length) (h : ∀ (j : Nat) (hj : j < xs.length), (j : Int) = i → k (.pu xs[j]) (.ls p (xs.eraseIdx j))) : gPopAt (.ls p xs) [.int i] k := by
  have hj : i.toNat < xs.length := by omega
  have e : ixN xs.length i = some i.toNat := by
    unfold ixN
    rw [if_pos h0, if_pos (by omega)]
  show -(2 ^ 63) ≤ i ∧ i < 2 ^ 63 ∧ onOpt (ixN xs.length i) _
  refine ⟨by omega, by omega, ?_⟩
  rw [e]
  show onOpt xs[i.toNat]? _
  rw [List.getElem?_eq_getElem hj]
  exact h _ hj (by omega)
theorem pop_of {p : Addr} {xs : List D} {k : O → O → Prop} (h0 : xs ≠ []) (h : k (.pu (xs.getLast h0)) (.ls p xs.dropLast)) : gPop (.ls p xs) [] k := by
  have hj : xs.length - 1 < xs.length := by have := List.length_pos_iff.mpr h0; omega
  show onOpt xs[xs.length - 1]? _
  rw [List.getElem?_eq_getElem hj]
  rw [List.getLast_eq_getElem] at h
  exact ⟨rfl, h⟩
end Vl

namespace Vl
open PySem PySem.Spec PyProof.Rows L2

/-! ### plain facts: texts -/
theorem pb1n {o1 : O} {fin e : Env} : putBack [(o1, none)] fin e = e := by cases fin <;> simp [putBack]
theorem pb2n {o1 o2 : O} {fin e : Env} : putBack [(o1, none), (o2, none)] fin e = e := by
  cases fin with
  | nil => rfl
  | cons f r => rw [e_pb1]; exact pb1n
theorem pb3n {o1 o2 o3 : O} {fin e : Env} : putBack [(o1, none), (o2, none), (o3, none)] fin e = e := by
  cases fin with
  | nil => rfl
  | cons f r => rw [e_pb1]; exact pb2n
theorem pb4n {o1 o2 o3 o4 : O} {fin e : Env} : putBack [(o1, none), (o2, none), (o3, none), (o4, none)] fin e = e := by
  cases fin with
  | nil => rfl
  | cons f r => rw [e_pb1]; exact pb3n
theorem pb5n {o1 o2 o3 o4 o5 : O} {fin e : Env} : putBack [(o1, none), (o2, none), (o3, none), (o4, none), (o5, none)] fin e = e := by
  cases fin with
  | nil => rfl
  | cons f r => rw [e_pb1]; exact pb4n
theorem pb6n {o1 o2 o3 o4 o5 o6 : O} {fin e : Env} : putBack [(o1, none), (o2, none), (o3, none), (o4, none), (o5, none), (o6, none)] fin e = e := by
  cases fin with
  | nil => rfl
  | cons f r => rw [e_pb1]; exact pb5n
theorem sl_len (s : Str) : s.length = s.cps.toList.length := by simp [Str.length]
theorem sl_app (a b : Str) : (a ++ b).length = a.length + b.length := by
  show (a.cps ++ b.cps).size = _
  rw [Array.size_append]; rfl
theorem sl_appL (a b : Str) : (a ++ b).cps.toList = a.cps.toList ++ b.cps.toList := by
  show (a.cps ++ b.cps).toList = _
  rw [Array.toList_append]
theorem sl_one (c : Nat) : (⟨#[c]⟩ : Str).length = 1 := rfl
theorem str_ext {a b : Str} (h : a.cps.toList = b.cps.toList) : a = b := by
  cases a; cases b
  exact congrArg Str.mk (Array.ext' h)
theorem sl_cut (z : Str) (lo hi : Option Int) : (cutS z lo hi).cps.toList = cut z.cps.toList lo hi := by
  unfold cutS cut
  rw [sl_len]
theorem sl_cutl (z : Str) (lo hi : Option Int) : (cutS z lo hi).length ≤ z.length := by
  rw [sl_len, sl_cut, sl_len]
  unfold cut
  rw [List.length_take, List.length_drop]
  omega
theorem cut_len {α : Type} (z : List α) (lo hi : Option Int) : (cut z lo hi).length ≤ z.length := by
  unfold cut
  rw [List.length_take, List.length_drop]
  omega
theorem sl_rep (x : Str) (n : Int) : (repS x n).length = n.toNat * x.length := by
  show (repL x.cps.toList n).toArray.size = _
  unfold repL
  rw [List.size_toArray, List.length_flatten, List.map_replicate, List.sum_replicate_nat, sl_len]
theorem eqv_str (a b : Str) : eqv (.str a) (.str b) = decide (a = b) := by
  unfold eqv
  by_cases h : a = b <;> simp [h]
theorem eqv_int (a b : Int) : eqv (.int a) (.int b) = decide (a = b) := by
  unfold eqv
  by_cases h : a = b <;> simp [h]
theorem join_len (ys : List Str) : (Txt.join ⟨#[]⟩ ys).length = (ys.map (·.length)).sum := by
  unfold Txt.join Builtin.Str.glued
  have h : ∀ (r : List Str) (acc : Array Nat), (r.foldl (fun acc p => acc ++ (⟨#[]⟩ : Str).cps ++ p.cps) acc).size = acc.size + (r.map (·.length)).sum := fun r => by
    induction r with
    | nil => intro acc; simp
    | cons a r ih =>
      intro acc
      rw [List.foldl_cons, ih]
      simp [Str.length]
      omega
  cases ys with
  | nil => rfl
  | cons a r =>
    show Array.size (List.foldl _ _ _) = _
    rw [List.drop_one, List.tail_cons, h]
    simp [Str.length]

/-! ### plain facts: comparing data -/
mutual
def noD : D → Bool
  | .lst a => noDs a
  | .tup a => noDs a
  | .dct _ => false
  | .tupN _ => false
  | .opq => false
  | _ => true
def noDs : List D → Bool
  | [] => true
  | x :: r => noD x && noDs r
end
mutual
theorem eqv_refl : ∀ d : D, noD d = true → eqv d d = true
  | .non, _ => by unfold eqv; rfl
  | .bl _, _ => by unfold eqv; simp
  | .int _, _ => by unfold eqv; simp
  | .str _, _ => by unfold eqv; simp
  | .lst a, h => by unfold eqv; exact eqvs_refl a (by unfold noD at h; exact h)
  | .tup a, h => by unfold eqv; exact eqvs_refl a (by unfold noD at h; exact h)
  | .dct _, h => by unfold noD at h; cases h
  | .tupN _, h => by unfold noD at h; cases h
  | .opq, h => by unfold noD at h; cases h
theorem eqvs_refl : ∀ a : List D, noDs a = true → eqvs a a = true
  | [], _ => by unfold eqvs; rfl
  | x :: r, h => by
    unfold noDs at h
    have h' := Bool.and_eq_true_iff.mp h
    unfold eqvs
    rw [eqv_refl x h'.1, eqvs_refl r h'.2]
    rfl
end
mutual
theorem cmpb_refl : ∀ d : D, noD d = true → cmpb d d = true
  | .non, _ => by unfold cmpb; rfl
  | .bl _, _ => by unfold cmpb; rfl
  | .int _, _ => by unfold cmpb; rfl
  | .str _, _ => by unfold cmpb; rfl
  | .lst a, h => by unfold cmpb; exact cmpbs_refl a (by unfold noD at h; exact h)
  | .tup a, h => by unfold cmpb; exact cmpbs_refl a (by unfold noD at h; exact h)
  | .dct _, h => by unfold noD at h; cases h
  | .tupN _, h => by unfold noD at h; cases h
  | .opq, h => by unfold noD at h; cases h
theorem cmpbs_refl : ∀ a : List D, noDs a = true → cmpbs a a = true
  | [], _ => by unfold cmpbs; rfl
  | x :: r, h => by
    unfold noDs at h
    have h' := Bool.and_eq_true_iff.mp h
    unfold cmpbs
    rw [cmpb_refl x h'.1, cmpbs_refl r h'.2]
    rfl
end
theorem noDs_all {ds : List D} (h : ∀ d ∈ ds, noD d = true) : noDs ds = true := by
  induction ds with
  | nil => unfold noDs; rfl
  | cons a r ih =>
    unfold noDs
    rw [h a List.mem_cons_self, ih fun d hd => h d (List.mem_cons_of_mem _ hd)]
    rfl
theorem noD_lst {ds : List D} (h : ∀ d ∈ ds, noD d = true) : noD (.lst ds) = true := by unfold noD; exact noDs_all h
theorem noD_tup {ds : List D} (h : ∀ d ∈ ds, noD d = true) : noD (.tup ds) = true := by unfold noD; exact noDs_all h
theorem deps_max {n : Nat} {ds : List D} (h : ∀ d ∈ ds, dep d ≤ n) : deps ds ≤ n := by
  induction ds with
  | nil => unfold deps; omega
  | cons a r ih =>
    unfold deps
    have h1 := h a List.mem_cons_self
    have h2 := ih fun d hd => h d (List.mem_cons_of_mem _ hd)
    omega
theorem dep_lst {n : Nat} {ds : List D} (h : ∀ d ∈ ds, dep d ≤ n) : dep (.lst ds) ≤ n + 1 := by
  unfold dep
  have := deps_max h
  omega
theorem dep_tup {n : Nat} {ds : List D} (h : ∀ d ∈ ds, dep d ≤ n) : dep (.tup ds) ≤ n + 1 := by
  unfold dep
  have := deps_max h
  omega
theorem cmpb_nil (ds : List D) : cmpb (.lst ds) (.lst []) = true := by
  unfold cmpb
  cases ds <;> (unfold cmpbs; rfl)
theorem eqv_nil (ds : List D) : eqv (.lst ds) (.lst []) = decide (ds = []) := by
  unfold eqv
  cases ds <;> (unfold eqvs; simp)
theorem cmpb_str (a b : Str) : cmpb (.str a) (.str b) = true := by unfold cmpb; rfl
theorem cmpb_int (a b : Int) : cmpb (.int a) (.int b) = true := by unfold cmpb; rfl
theorem cmpb_bl (a b : Bool) : cmpb (.bl a) (.bl b) = true := by unfold cmpb; rfl
theorem eqv_bl (a b : Bool) : eqv (.bl a) (.bl b) = (a == b) := by unfold eqv; rfl
theorem dep_str (a : Str) : dep (.str a) = 0 := by unfold dep; rfl
theorem dep_int (a : Int) : dep (.int a) = 0 := by unfold dep; rfl
theorem dep_bl (a : Bool) : dep (.bl a) = 0 := by unfold dep; rfl
theorem dep_non : dep .non = 0 := by unfold dep; rfl
theorem dep_nil : dep (.lst []) = 1 := by unfold dep deps; rfl
theorem nd_lst (a : List D) : notDct (.lst a) = true := rfl
theorem nd_tup (a : List D) : notDct (.tup a) = true := rfl
theorem nd_str (a : Str) : notDct (.str a) = true := rfl
theorem nd_int (a : Int) : notDct (.int a) = true := rfl
theorem nd_bl (a : Bool) : notDct (.bl a) = true := rfl
theorem nd_non : notDct .non = true := rfl
theorem rangeD_mem {lo : Int} {n : Nat} {d : D} (h : d ∈ rangeD lo n) : ∃ i : Int, d = .int i ∧ lo ≤ i ∧ i < lo + n := by
  unfold rangeD at h
  obtain ⟨i, hi, rfl⟩ := List.mem_map.mp h
  have := List.mem_range.mp hi
  exact ⟨_, rfl, by omega, by omega⟩
theorem sum_ones {ys : List Str} {n : Nat} (h : ∀ y ∈ ys, y.length ≤ n) : (ys.map (·.length)).sum ≤ n * ys.length := by
  induction ys with
  | nil => simp
  | cons a r ih =>
    have h1 := h a List.mem_cons_self
    have h2 := ih fun d hd => h d (List.mem_cons_of_mem _ hd)
    simp only [List.map_cons, List.sum_cons, List.length_cons, Nat.mul_add]
    omega
theorem sum_one1 {ys : List Str} (h : ∀ y ∈ ys, y.length = 1) : (ys.map (·.length)).sum = ys.length := by
  induction ys with
  | nil => simp
  | cons a r ih =>
    have h1 := h a List.mem_cons_self
    have h2 := ih fun d hd => h d (List.mem_cons_of_mem _ hd)
    simp only [List.map_cons, List.sum_cons, List.length_cons]
    omega
theorem txt_empty : (Str.ofString "" : Str) = ⟨#[]⟩ := by decide +kernel
theorem onAt_int2 {a b i : Int} {k : D → Prop} (h0 : 0 ≤ i) (h1 : i < 2) (h : ∀ v : Int, (v = a ∨ v = b) → k (.int v)) : onAt [.int a, .int b] i k := by
  refine onAt_of h0 (by simpa using h1) fun j hj _ => ?_
  match j, hj with
  | 0, _ => exact h _ (by simp)
  | 1, _ => exact h _ (by simp)
theorem onAt_int3 {a b c i : Int} {k : D → Prop} (h0 : 0 ≤ i) (h1 : i < 3) (h : ∀ v : Int, (v = a ∨ v = b ∨ v = c) → k (.int v)) : onAt [.int a, .int b, .int c] i k := by
  refine onAt_of h0 (by simpa using h1) fun j hj _ => ?_
  match j, hj with
  | 0, _ => exact h _ (by simp)
  | 1, _ => exact h _ (by simp)
  | 2, _ => exact h _ (by simp)
theorem onAt_int4 {a b c d i : Int} {k : D → Prop} (h0 : 0 ≤ i) (h1 : i < 4) (h : ∀ v : Int, (v = a ∨ v = b ∨ v = c ∨ v = d) → k (.int v)) : onAt [.int a, .int b, .int c, .int d] i k := by
  refine onAt_of h0 (by simpa using h1) fun j hj _ => ?_
  match j, hj with
  | 0, _ => exact h _ (by simp)
  | 1, _ => exact h _ (by simp)
  | 2, _ => exact h _ (by simp)
  | 3, _ => exact h _ (by simp)
theorem onAt_int5 {a b c d f i : Int} {k : D → Prop} (h0 : 0 ≤ i) (h1 : i < 5) (h : ∀ v : Int, (v = a ∨ v = b ∨ v = c ∨ v = d ∨ v = f) → k (.int v)) : onAt [.int a, .int b, .int c, .int d, .int f] i k := by
  refine onAt_of h0 (by simpa using h1) fun j hj _ => ?_
  match j, hj with
  | 0, _ => exact h _ (by simp)
  | 1, _ => exact h _ (by simp)
  | 2, _ => exact h _ (by simp)
  | 3, _ => exact h _ (by simp)
  | 4, _ => exact h _ (by simp)
theorem onAt_int6 {a b c d f g i : Int} {k : D → Prop} (h0 : 0 ≤ i) (h1 : i < 6) (h : ∀ v : Int, (v = a ∨ v = b ∨ v = c ∨ v = d ∨ v = f ∨ v = g) → k (.int v)) : onAt [.int a, .int b, .int c, .int d, .int f, .int g] i k := by
  refine onAt_of h0 (by simpa using h1) fun j hj _ => ?_
  match j, hj with
  | 0, _ => exact h _ (by simp)
  | 1, _ => exact h _ (by simp)
  | 2, _ => exact h _ (by simp)
  | 3, _ => exact h _ (by simp)
  | 4, _ => exact h _ (by simp)
  | 5, _ => exact h _ (by simp)
theorem onAt_mem {xs : List D} {i : Int} {k : D → Prop} (h0 : 0 ≤ i) (h1 : i < xs.length) (h : ∀ d ∈ xs, k d) : onAt xs i k := onAt_of h0 h1 fun j hj _ => h _ (List.getElem_mem hj)
theorem all_map {α : Type} {f : α → D} {p : α → Prop} : ∀ r : List D, (∀ d ∈ r, ∃ a, p a ∧ d = f a) → ∃ as : List α, r = as.map f ∧ ∀ a ∈ as, p a
  | [], _ => ⟨[], rfl, fun _ h => nomatch h⟩
  | d :: r, h => by
    obtain ⟨a, ha, rfl⟩ := h d List.mem_cons_self
    obtain ⟨as, rfl, hs⟩ := all_map r fun d hd => h d (List.mem_cons_of_mem _ hd)
    refine ⟨a :: as, rfl, fun b hb => ?_⟩
    rcases List.mem_cons.mp hb with rfl | hb
    · exact ha
    · exact hs b hb
theorem cut_mem {α : Type} {xs : List α} {lo hi : Option Int} {d : α} (h : d ∈ cut xs lo hi) : d ∈ xs := List.mem_of_mem_drop (List.mem_of_mem_take h)
theorem sl_cut_at (s : Str) (i j : Int) (h0 : 0 ≤ i) (h1 : i ≤ j) (h2 : j ≤ s.length) : ((cutS s (some i) (some j)).length : Int) = j - i := by
  have e1 : i = (i.toNat : Int) := by omega
  have e2 : j = (j.toNat : Int) := by omega
  rw [sl_len, sl_cut]
  unfold cut
  rw [e1, e2, HT.sIx_nat, HT.sIx_nat, List.length_take, List.length_drop, ← sl_len]
  omega
end Vl

namespace PySem.SeqAt
open PySem Builtin AutoSeq1
theorem vl_add_PL (l : Addr) (items : Array Value) (n : Nat) (sl1 : Array (Option Value)) (b : Addr) (items2 : Array Value) (n2 : Nat) (sl2 : Array (Option Value)) (hc0 : items.size + items2.size ≤ sizeLine) :
    Meets (Builtin.«list.__add__» ⟨[.ref l, .ref b], []⟩) (fun _ R s => s.heap.get? l = some { cls := .type "list", dict := none, data := .seq items n, slots := sl1 } ∧ s.heap.get? b = some { cls := .type "list", dict := none, data := .seq items2 n2, slots := sl2 } ∧ R (.ok (.ret (Value.ref s.heap.objs.size))) { s with heap := s.heap.push { cls := Value.type "list", data := Data.seq (items ++ items2) }, toks := s.toks }) :=
  .of_wp fun prog w A R s h => by
    obtain ⟨hp, g, d, tk, os⟩ := s; obtain ⟨hl, hb, h⟩ := h
    have f1 := idx_int; have f2 := sub_tuple_tuple; have f3 := sub_list_list; have f4 := sub_tuple_list; have f5 := sub_list_tuple
    wp_walk using wpAny_loadPart' hl, wpAny_loadPart' hb
    exact ⟨_, rfl, h⟩
end PySem.SeqAt
namespace Vl
open PySem PySem.Spec PyProof.Rows L2

/-! ### list + list, whatever lists they are -/
def rCatP (K : PySem.W.Frag) : R2 := fun x y H Q => ∃ l b xs zs, x = .ref l ∧ y = .ref b ∧ SqL K H l xs ∧ SqL K H b zs ∧ xs.length + zs.length ≤ sizeLine ∧ ∀ p, H p = none → Q (.ref p) (upd H p (.lst (xs ++ zs)))
theorem op_catP {X : Cx} : OpR X (binaryOp .Add) (rCatP X.K) := by
  intro pins s σ H x y v u Q I rx ry h
  obtain ⟨l, b, xs, zs, rfl, rfl, hH, hB, hz, q⟩ := h
  cases rx
  cases ry
  obtain ⟨its, r, ⟨o, n, e, c1, c2, c3⟩, _⟩ := I.list hH
  obtain ⟨its2, r2, ⟨o2, n2, e2, d1, d2, d3⟩, _⟩ := I.list hB
  obtain ⟨oc, od, odt, osl⟩ := o
  obtain ⟨oc2, od2, odt2, osl2⟩ := o2
  cases c1; cases c2; cases c3; cases d1; cases d2; cases d3
  have hl := r.length
  have hl2 := r2.length
  refine concat_meets ⟨_, e, rfl⟩ ⟨_, e2, rfl⟩ noFill_list_add seq_list_add PySem.F.slot_list_add PySem.F.entry_list_add (PySem.F.args_list_add_2 _ _) (PySem.SeqAt.vl_add_PL l its.toArray n osl b its2.toArray n2 osl2 (by rw [List.size_toArray, List.size_toArray]; omega)) ⟨e, e2, ?_⟩
  have ea : its.toArray ++ its2.toArray = (its ++ its2).toArray := by simp
  rw [ea]
  exact ⟨.ref _, _, I.lnew (t' := s.toks) (r.append r2) (by rw [List.length_append]; omega), rfl, q _ I.fresh⟩
def seqL : O → Option (List D)
  | .pu (.lst ds) => some ds
  | .ls _ ds => some ds
  | _ => none
theorem seqL_at {K : PySem.W.Frag} {G H : Hp} {o : O} {v : V} {ds : List D} (s : Sub G H) (h : OAt K G H o v) (e : seqL o = some ds) : ∃ a vs, v = .ref a ∧ SqL K H a vs ∧ Rps K G ds vs := by
  unfold seqL at e
  split at e
  · cases e; exact h.lst s (.inl rfl)
  · cases e; exact h.lst s (.inr ⟨_, rfl⟩)
  · cases e
/-- a + b: ints, texts, tuples, lists -/
def gAddL : G2 := fun o1 o2 post => gAdd o1 o2 post ∨ ∃ a b, seqL o1 = some a ∧ seqL o2 = some b ∧ a.length + b.length ≤ sizeLine ∧ ∀ p, post (.ls p (a ++ b))
def rAddL (K : PySem.W.Frag) : R2 := fun x y H Q => rAddA K x y H Q ∨ rCatP K x y H Q
theorem ve_addL {X : Cx} {a b : Expr} {ta tb : TE} {qa qb : WQ} {pos : Pos} (ha : VQ X a ta qa) (hb : VQ X b tb qb) : VE X (.BinOp a .Add b pos) (tOp (rAddL X.K) ta tb) (vOp2 gAddL qa qb) :=
  ve_op (op_addA.or op_catP) (fun φ e σ G H o1 o2 v1 v2 post Q R a1 a2 p q => by
    rcases p with p | ⟨a, b, ea, eb, hl, p⟩
    · exact .inl (sr_addA φ e σ G H o1 o2 v1 v2 post Q R a1 a2 p q)
    · obtain ⟨x, vs, rfl, hs, hv⟩ := seqL_at R.sub a1 ea
      obtain ⟨y, us, rfl, ht, hu⟩ := seqL_at R.sub a2 eb
      have l1 := Rps.len _ _ hv
      have l2 := Rps.len _ _ hu
      exact .inr ⟨x, y, vs, us, rfl, rfl, hs, ht, by omega, fun p' hp => q _ _ _ _ (p p') (R.newLs hp (Rps.app _ _ _ _ hv hu))⟩) ha hb
/-- a < b: ints, texts -/
def gLtA : G2 := fun o1 o2 post => match o1, o2 with
  | .pu (.int i), .pu (.int j) => post (.pu (.bl (decide (i < j))))
  | .pu (.str i), .pu (.str j) => post (.pu (.bl (decide (i.cps.toList < j.cps.toList))))
  | _, _ => False
def rLtA : R2 := fun x y H Q => rI0 (fun i j => .bl (decide (i < j))) x y H Q ∨ rLtS x y H Q
theorem op_ltA {X : Cx} : OpR X (compareOp .Lt) rLtA := op_lt.or op_lt_str
theorem sr_ltA {K : PySem.W.Frag} : SndR2 K rLtA gLtA := fun φ e σ G H o1 o2 v1 v2 post Q R a1 a2 p q => by
  unfold gLtA at p
  split at p
  · exact .inl ⟨_, _, a1.int, a2.int, q _ _ G H p (R.consPu rp_bl)⟩
  · exact .inr ⟨_, _, a1.str, a2.str, q _ _ G H p (R.consPu rp_bl)⟩
  · exact p.elim

/-! ### {}, d[k] = v, dict(d) -/
def vDict0 : WE := fun _ e post => ∀ p, post (.dc p []) e
theorem ve_dict0 {X : Cx} {pos : Pos} : VE X (.Dict [] [] pos) tDNewK vDict0 := ⟨pe_dnewK, fun φ e σ G H x post Q R X t q => by
  intro p hp
  exact q _ e _ _ _ (t p) (R.newDc hp (by unfold Rpk; rfl))⟩
def putD (ks : List (Key × D)) (k : Key) (d : D) : List (Key × D) :=
  if (ks.any fun kv => decide (kv.1 = k)) = true then ks.map (fun kv => if kv.1 = k then (kv.1, d) else kv) else ks ++ [(k, d)]
section
variable {K : PySem.W.Frag} {G : Hp}
theorem Rpk.anyK : ∀ (ks : List (Key × D)) (vs : List (Key × V)) (k : Key), Rpk K G ks vs → (vs.any fun kv => decide (kv.1 = k)) = (ks.any fun kv => decide (kv.1 = k))
  | [], _, k, h => by unfold Rpk at h; subst h; rfl
  | (k', d) :: ks, _, k, h => by
    unfold Rpk at h
    obtain ⟨v, r, e, a, b⟩ := h
    subst e
    rw [List.any_cons, List.any_cons, Rpk.anyK ks r k b]
theorem Rpk.mapK {d : D} {v : V} (hv : Rp K G d v) (k : Key) : ∀ (ks : List (Key × D)) (vs : List (Key × V)), Rpk K G ks vs → Rpk K G (ks.map fun kv => if kv.1 = k then (kv.1, d) else kv) (vs.map fun kv => if kv.1 = k then (kv.1, v) else kv)
  | [], _, h => by unfold Rpk at h; subst h; unfold Rpk; rfl
  | (k', d') :: ks, _, h => by
    unfold Rpk at h
    obtain ⟨v', r, e, a, b⟩ := h
    subst e
    rw [List.map_cons, List.map_cons]
    by_cases hk : k' = k
    · subst hk
      simp only [if_true]
      unfold Rpk
      exact ⟨v, _, rfl, hv, Rpk.mapK hv k' ks r b⟩
    · simp only [if_neg hk]
      unfold Rpk
      exact ⟨v', _, rfl, a, Rpk.mapK hv k ks r b⟩
theorem Rpk.app : ∀ (ks : List (Key × D)) (vs : List (Key × V)) (k : Key) (d : D) (v : V), Rpk K G ks vs → Rp K G d v → Rpk K G (ks ++ [(k, d)]) (vs ++ [(k, v)])
  | [], _, k, d, v, h, r => by unfold Rpk at h; subst h; show Rpk K G [(k, d)] [(k, v)]; unfold Rpk; exact ⟨v, [], rfl, r, by unfold Rpk; rfl⟩
  | (k', d') :: ks, _, k, d, v, h, r => by
    unfold Rpk at h
    obtain ⟨v', t, e, a, b⟩ := h
    subst e
    show Rpk K G ((k', d') :: (ks ++ [(k, d)])) ((k', v') :: (t ++ [(k, v)]))
    unfold Rpk
    exact ⟨v', _, rfl, a, Rpk.app ks t k d v b r⟩
theorem Rpk.put {ks : List (Key × D)} {vs : List (Key × V)} {k : Key} {d : D} {v : V} (h : Rpk K G ks vs) (r : Rp K G d v) : Rpk K G (putD ks k d) (putK vs k v) := by
  unfold putD putK
  rw [Rpk.anyK ks vs k h]
  split
  · exact Rpk.mapK r k ks vs h
  · exact Rpk.app ks vs k d v h r
end
section
variable {K : PySem.W.Frag}
theorem onKey_iff {o : O} {k : Key → Prop} : onKey o k ↔ ∃ y, oKey o = some y ∧ k y := by
  unfold onKey
  cases oKey o with
  | none => exact ⟨fun h => h.elim, fun ⟨y, z, _⟩ => nomatch z⟩
  | some y => exact ⟨fun h => ⟨y, rfl, h⟩, fun ⟨y', z, h⟩ => by cases z; exact h⟩
theorem Rel.mutDc {φ : Fx} {e : Env} {σ : L2.St} {G H : Hp} {p : Addr} {ds ds' : List (Key × D)} {v : V} {vs' : List (Key × V)} (R : Rel K φ (some (.dc p ds) :: e) (some v :: σ) G H) (h : Rpk K G ds' vs') : v = .ref p ∧ (∃ vs, H p = some (.dK vs) ∧ Rpk K G ds vs) ∧ Rel K φ (some (.dc p ds') :: e) (some v :: σ) G (upd H p (.dK vs')) := by
  have a := R.headOAt
  unfold OAt at a
  obtain ⟨rfl, gn, vs, hp, hv⟩ := a
  refine ⟨rfl, ⟨vs, hp, hv⟩, R.mut (o' := .dc p ds') List.mem_cons_self (List.Sublist.refl _) ?_⟩
  unfold OAt
  exact ⟨rfl, gn, vs', upd_same, h⟩
def wKey (j : Nat) (b : WE) : WG := fun d e post => (∃ o, eget e j = some o) ∧ b noX e fun oi e2 => onKey oi fun k => onO (.pl j) e2 fun oc => onDc oc fun p ks => ks.length < sizeLine ∧ post (e2.set j (some (.dc p (putD ks k d))))
theorem snd_gKey {j : Nat} {tb : TE} {b : WE} (hb : SndE K tb b) : SndG K (gSub (tVar j) tb rSetD) (wKey j b) [] := fun φ e σ G H d v post Q R r t q => by
  obtain ⟨⟨o, ho⟩, t⟩ := t
  obtain ⟨w, h1, h2⟩ := R.get (eget_some.mp ho)
  refine ⟨w, h1, ?_⟩
  have T := R.consPu r
  have F := Rel.frame (ts := [some (.pu d)]) (vs := [some v]) T rfl
  refine hb _ e σ G H noX _ _ F.1 exNo t fun oi e2 u G2 H2 p2 R2 => ?_
  obtain ⟨k, hk, p3⟩ := onKey_iff.mp p2
  obtain ⟨oc, g2, p4⟩ := onO_iff.mp p3
  obtain ⟨p, ks, rfl, p5⟩ := onDc_iff.mp p4
  have e0 := oKey_V R2.headOAt hk
  subst e0
  have R3 := F.2 _ _ _ _ R2.tail
  have rv : Rp K G2 d v := Rel.headRp R3
  have R4 : Rel K φ e2 σ G2 H2 := Rel.tail R3
  have g2' : eget e2 j = some (.dc p ks) := g2
  have M := R4.mvout (eget_some.mp g2') h1
  obtain ⟨rfl, gp, ws, hp, hws⟩ := M.headOAt.dc
  obtain ⟨_, _, R5⟩ := M.mutDc (Rpk.put (k := k) hws rv)
  have R6 := R5.putback h1
  rw [List.set_set] at R6
  exact ⟨p, _, rfl, DPut.k hp (by rw [Rpk.len _ _ hws]; exact p5.1), q _ _ _ _ p5.2 R6 ⟨rfl, fun _ _ => rfl⟩⟩
theorem vg_key {X : Cx} {o i : Expr} {j : Nat} {tb : TE} {b : WE} {pos : Pos} (hu : X.A.units + 1 < cLine) (ho : PE X o (tVar j)) (hi : VE X i tb b)
    (ha : ∀ v, assign (.Subscript o i pos) X.env v = (do
      let ov ← holding [v] (eval o X.env)
      let iv ← holding [v, ov] (eval i X.env)
      standAt pos
      holding [v, ov, iv] (setItem ov iv v)
      release [v, ov, iv] []) := by intro _; rfl) : VG X (.Subscript o i pos) (gSub (tVar j) tb rSetD) (wKey j b) [] := ⟨pg_sub ho hi.pe (set_dict hu) ha, snd_gKey hi.snd⟩
/-- dict(d): a new one -/
def gDictD : G1 := fun o post => match o with
  | .pu (.dct ks) => ∀ p, post (.dc p ks)
  | .dc _ ks => ∀ p, post (.dc p ks)
  | _ => False
def rDictD : List V → Hp → VK → Prop := fun xs H Q => ∃ (a : Addr) (kvs : List (Key × V)), xs = [.ref a] ∧ Rd H a (.dK kvs) ∧ ∀ p, H p = none → Q (.ref p) (upd H p (.dK kvs))
theorem call_dictDD {X : Cx} : CallR X (.type "dict") rDictD := call_dictD
theorem sr_dictD : SndRN K rDictD (g1 gDictD) := snd_g1 fun φ e σ G H o1 v1 post Q R a p q => by
  have key : ∀ ks, (o1 = .pu (.dct ks) ∨ ∃ p, o1 = .dc p ks) → (∀ p, post (.dc p ks)) → rDictD [v1] H Q := fun ks ho p => by
    obtain ⟨a', vs, rfl, hs, hv⟩ := a.dct R.sub ho
    exact ⟨a', vs, rfl, hs, fun p' hp => q _ _ _ _ (p p') (R.newDc hp hv)⟩
  unfold gDictD at p
  split at p
  · exact key _ (.inl rfl) p
  · exact key _ (.inr ⟨_, rfl⟩) p
  · exact p.elim
end

/-! ### enumerate, zip, reversed: walks over lists of pure things -/
section
variable {K : PySem.W.Frag}
theorem walk_enum {a : Addr} {ds : List D} {vs : List V} {G H : Hp} {l : List Addr} (h : SqL K G a vs) (hs : Rps K G ds vs) : Walk K (Ite K a) (ds.zipIdx.map fun p => D.tup [.int (p.2 : Nat), p.1]) G H l := fun E e σ G' H' i R => by
  have q : SqL K H' a vs := R.sub.sqL (R.frm.up.sqL h)
  have hs' := Rps.mono R.frm.up ds vs hs
  refine ⟨fun d hd => ?_, fun hi => ⟨vs, q, by rw [Rps.len ds vs hs]; simpa using hi⟩⟩
  rw [List.getElem?_map, List.getElem?_zipIdx] at hd
  cases hc : ds[i]? with
  | none => rw [hc] at hd; cases hd
  | some d0 =>
    rw [hc] at hd
    cases hd
    obtain ⟨v, hv, rv⟩ := Rps.get ds vs i d0 hs' hc
    refine ⟨⟨vs, v, q, hv⟩, fun y H2 hy => ?_⟩
    obtain ⟨T, x, rfl, hT, rfl, f⟩ := hy
    have ev : x = v := Option.some.inj ((f vs q).symm.trans hv)
    subst ev
    have N := R.newTup (ds := [.int (i : Nat), d0]) (vs := [.int (i : Nat), x]) hT (Rps.cons rp_int (Rps.one rv))
    refine ⟨_, N.tail, ?_⟩
    have hr := N.headRp
    simpa using hr
def wEnum (a : WP) : WI := fun x e post => a x e fun ds e1 => on1 ds fun d => match d with
  | .lst xs => post (xs.zipIdx.map fun p => D.tup [.int (p.2 : Nat), p.1]) e1
  | _ => False
theorem snd_iEnum {ta : TA} {a : WP} (h : SndP K ta a) : SndI K (iEnum K ta) (wEnum a) := fun φ e σ G H x post Q R X t q => by
  refine h φ e σ G H x _ _ R X t fun ds e1 vs G1 H1 p R1 hs => ?_
  obtain ⟨d, rfl, p1⟩ := on1_iff.mp p
  obtain ⟨v, rfl, rv⟩ := hs.un1
  split at p1
  · unfold Rp at rv
    obtain ⟨l, ws, rfl, hl, hw⟩ := rv
    exact ⟨l, ws, rfl, R1.sub.sqL hl, q _ e1 _ G1 H1 p1 R1 (walk_enum hl hw)⟩
  · exact p1.elim
theorem vi_enum {X : Cx} {e : Expr} {ta : TA} {wp : WP} {p pos tpos : Pos} {elts : List Expr} {kk : Nat} (hg : Gl X "enumerate") (hm : X.mg "enumerate" = none) (ha : VP X [e] ta wp) (hs : starEach [e] X.env = [(false, eval e X.env)] := by rfl) :
    VI X (.Tuple elts kk tpos) (.Call (.Name "enumerate" p) [e] [] pos) (iEnum X.K ta) (wEnum wp) := ⟨pi_enum hg hm ha.pa hs, snd_iEnum ha.snd⟩
theorem walk_rev {a : Addr} {ds : List D} {vs : List V} {G H : Hp} {l : List Addr} (h : SqL K G a vs) (hs : Rps K G ds vs) : Walk K (Itv K a vs.length) ds.reverse G H l := fun E e σ G' H' i R => by
  have q : SqL K H' a vs := R.sub.sqL (R.frm.up.sqL h)
  have hs' := Rps.mono R.frm.up ds vs hs
  have hl := Rps.len ds vs hs
  refine ⟨fun d hd => ?_, fun hi => by show vs.length ≤ i; rw [hl]; simpa using hi⟩
  have hi : i < ds.length := by
    have := (List.getElem?_eq_some_iff.mp hd).1
    simpa using this
  rw [List.getElem?_reverse hi] at hd
  obtain ⟨v, hv, rv⟩ := Rps.get ds vs _ d hs' hd
  rw [← hl] at hv
  refine ⟨⟨by rw [hl]; exact hi, vs, v, q, hv⟩, fun y H2 hy => ?_⟩
  obtain ⟨rfl, f⟩ := hy
  have ev : y = v := Option.some.inj ((f vs q).symm.trans hv)
  subst ev
  exact ⟨G', R, rv⟩
def wRev (a : WP) : WI := fun x e post => a x e fun ds e1 => on1 ds fun d => match d with
  | .lst xs => post xs.reverse e1
  | _ => False
theorem snd_iRev {ta : TA} {a : WP} (h : SndP K ta a) : SndI K (iRev K ta) (wRev a) := fun φ e σ G H x post Q R X t q => by
  refine h φ e σ G H x _ _ R X t fun ds e1 vs G1 H1 p R1 hs => ?_
  obtain ⟨d, rfl, p1⟩ := on1_iff.mp p
  obtain ⟨v, rfl, rv⟩ := hs.un1
  split at p1
  · unfold Rp at rv
    obtain ⟨l, ws, rfl, hl, hw⟩ := rv
    exact ⟨l, ws, rfl, R1.sub.sqL hl, q _ e1 _ G1 H1 p1 R1 (walk_rev hl hw)⟩
  · exact p1.elim
theorem vi_rev {X : Cx} {tg e : Expr} {ta : TA} {wp : WP} {p pos : Pos} (hg : Gl X "reversed") (hm : X.mg "reversed" = none) (ha : VP X [e] ta wp) (hs : starEach [e] X.env = [(false, eval e X.env)] := by rfl) :
    VI X tg (.Call (.Name "reversed" p) [e] [] pos) (iRev X.K ta) (wRev wp) := ⟨pi_reversed hg hm ha.pa hs, snd_iRev ha.snd⟩
theorem walk_zip {a b : Addr} {ds es : List D} {vs us : List V} {G H : Hp} {l : List Addr} (h : SqL K G a vs) (hs : Rps K G ds vs) (k : SqL K G b us) (ks : Rps K G es us) : Walk K (Itz K a b) ((ds.zip es).map fun p => D.tup [p.1, p.2]) G H l := fun E e σ G' H' i R => by
  have q : SqL K H' a vs := R.sub.sqL (R.frm.up.sqL h)
  have q2 : SqL K H' b us := R.sub.sqL (R.frm.up.sqL k)
  have hs' := Rps.mono R.frm.up ds vs hs
  have ks' := Rps.mono R.frm.up es us ks
  refine ⟨fun d hd => ?_, fun hi => ⟨vs, us, q, q2, by rw [Rps.len ds vs hs, Rps.len es us ks]; simp at hi; omega⟩⟩
  rw [List.getElem?_map, Option.map_eq_some_iff] at hd
  obtain ⟨pr, hp, rfl⟩ := hd
  rw [List.getElem?_zip_eq_some] at hp
  obtain ⟨v, hv, rv⟩ := Rps.get ds vs i _ hs' hp.1
  obtain ⟨u, hu, ru⟩ := Rps.get es us i _ ks' hp.2
  refine ⟨⟨vs, us, v, u, q, q2, hv, hu⟩, fun y H2 hy => ?_⟩
  obtain ⟨T, x, z, rfl, hT, rfl, f, g⟩ := hy
  have ev : x = v := Option.some.inj ((f vs q).symm.trans hv)
  have eu : z = u := Option.some.inj ((g us q2).symm.trans hu)
  subst ev eu
  have N := R.newTup (ds := [pr.1, pr.2]) (vs := [x, z]) hT (Rps.cons rv (Rps.one ru))
  exact ⟨_, N.tail, N.headRp⟩
end
end Vl

namespace RT
open PySem PySem.Spec PyProof.Rows L2
section
variable {prog : Program} {w : World} {A : Around} {E : Value → Shared → Prop} {s : Shared}
theorem vl_init_rev {R : Result → Shared → Prop} {it l : Addr} {items : Array Value} (hh : A.handled = none) (hit : s.heap.IsRevIter it l ((items.size : Int) - 1)) (hl : s.heap.IsList l items) (hne : l ≠ it) (hn : items.size ≤ sizeLine)
    (S : Addr) (hSi : S ≠ it) (hSl : S ≠ l) (hS : s.heap.get? S = some { cls := .type "list", data := .seq #[] })
    (hR : ∀ h' tk acc' c', (∀ b o, b ≠ S → b ≠ it → s.heap.get? b = some o → h'.get? b = some o) → h'.get? S = some { cls := .type "list", dict := none, data := .seq acc' c', slots := #[] } → ItemsOf (fun i v => items[items.size - 1 - i]? = some v) acc' items.size → R (.ok (.ret .none)) { s with heap := h', toks := tk }) :
    wpAny (model prog w) A.in1 (Builtin.«list.__init__» ⟨[.ref S, .ref it], []⟩)
      (fun fin s' => match fin with | .done f => R (.ok f) s' | .again c' => c'.quiet = true ∧ codeAny (model prog w) A c' R s') (fun e s' => R (.error e) s') s := by
  show wpAny _ _ (do let old ← Builtin.List.listItems (.ref S); Builtin.List.listUpdate (.ref S) (fun _ => #[]); letGo old.toList.reverse; Builtin.List.listExtendWith (.ref S) (.ref it) .none) _ _ s
  refine wpAny_bind ?_
  unfold Builtin.List.listItems
  refine wpAny_bind (wpAny_seqItems hS rfl (wpAny_pure ?_))
  show wpAny _ _ (updateSeq S (fun _ => #[]) >>= fun _ => letGo (#[] : Array Value).toList.reverse >>= fun _ => Builtin.List.listExtendWith (.ref S) (.ref it) .none) _ _ s
  refine wpAny_bind (wpAny_updateSeq hS rfl ?_)
  have hS₂ := Heap.get?_update_self (Obj.mapSeq (fun _ => (#[] : Array Value))) hS rfl
  have oth : ∀ b o, b ≠ S → s.heap.get? b = some o → (s.heap.update S (Obj.mapSeq (fun _ => (#[] : Array Value)))).get? b = some o :=
    fun b o hb e => (Heap.get?_update_other _ _ (Ne.symm hb)).trans e
  refine wpAny_bind (wpAny_letGo ?_)
  have W := (Walks.listRev (prog := prog) (w := w) (A := A.in1) hh it l hne items).toS
  have hSf : S ∉ [it, l] := by simp only [List.mem_cons, List.not_mem_nil, or_false, not_or]; exact ⟨hSi, hSl⟩
  have hit1 : (s.heap.update S (Obj.mapSeq (fun _ => (#[] : Array Value)))).IsRevIter it l ((items.size : Int) - 1) := hit.at fun o e => oth it o hSi.symm e
  have hl1 : (s.heap.update S (Obj.mapSeq (fun _ => (#[] : Array Value)))).IsList l items := by
    obtain ⟨o, h1, h2⟩ := hl
    exact ⟨o, oth l o hSl.symm h1, h2⟩
  generalize hhp : s.heap.update S (Obj.mapSeq (fun _ => (#[] : Array Value))) = hp at *
  have hT : ({ s with heap := hp } : Shared).TypeIs (.ref it) "list_reverseiterator" := Heap.IsRevIter.typeIs (s := { s with heap := hp }) hit1
  have h1 : Builtin.List.listSameRef (.ref S) (.ref it) = false := by simp [Builtin.List.listSameRef, hSi]
  unfold Builtin.List.listExtendWith
  refine wpAny_bind (wpAny_typeOf hT ?_)
  rw [if_neg (by rw [h1]; decide)]
  refine wpAny_bind (wpAny_pyIter_revIter (s := { s with heap := hp }) hit1 ?_)
  refine wpAny_bind (wpAny_holding ?_)
  unfold Builtin.List.listLengthHint
  refine wpAny_bind (wpAny_specialOf hT nolen_lri ?_)
  show wpAny _ A.in1 (specialOf (Value.ref it) (Str.ofString "__length_hint__") >>= _) _ _ _
  refine wpAny_bind (wpAny_specialOf hT hint_lri ?_)
  generalize hid : ("list_reverseiterator.__length_hint__" : String) = id0
  wp_delta
  rw [show splitId id0 = some ("list_reverseiterator", "__length_hint__") from by subst hid; decide +kernel]
  subst hid
  refine wpAny_bind (wpAny_isInstance (b := true) hT (by rw [isSubtype_type]; kernel_rfl) ?_)
  refine wpAny_pure ?_
  rw [if_neg (by decide)]
  have e0 : ((items.size : Nat) : Int) - 1 - ((0 : Nat) : Int) = (items.size : Int) - 1 := by omega
  refine wpAny_pure ⟨plainId_quiet F.plain_extend_loop _, codeAny_extend_loopS W hn _ hSf _ items.size 0 _ _ _ rfl (Nat.zero_le _) ⟨Nat.zero_le _, by rw [e0]; exact hit1, hl1⟩ hS₂ (ItemsOf.nil _) fun s' acc' c' hm hS' hacc => ?_⟩
  rw [Moved.eq_with hm]
  refine hR s'.heap s'.toks acc' c' (fun b o hb hb2 e => hm.heap b o (fun hmem => ?_) (oth b o hb e)) hS' hacc
  rcases List.mem_cons.mp hmem with e' | hmem
  · exact hb e'
  · exact hb2 (List.mem_singleton.mp hmem)
theorem vl_list_rev {Q : Value → Shared → Prop} {it l : Addr} {items : Array Value} (hh : A.handled = none) (hit : s.heap.IsRevIter it l ((items.size : Int) - 1)) (hl : s.heap.IsList l items) (hne : l ≠ it) (hn : items.size ≤ sizeLine)
    (hQ : ∀ h' tk acc' c', (∀ b o, b ≠ it → s.heap.get? b = some o → h'.get? b = some o) → h'.get? s.heap.objs.size = some { cls := .type "list", dict := none, data := .seq acc' c', slots := #[] } → ItemsOf (fun i v => items[items.size - 1 - i]? = some v) acc' items.size → Q (.ref s.heap.objs.size) { s with heap := h', toks := tk }) :
    wpAny (model prog w) A (call (.type "list") [.ref it]) Q E s := by
  refine callType_codes (Q₁ := fun obj s₁ => obj = .ref s.heap.objs.size ∧ s₁ = { s with heap := s.heap.push { cls := .type "list", data := .seq #[] } }) PySem.F.called_list (PySem.F.typeCall_list_1 _) PySem.F.entry_list_init
    (code_list_new _ ⟨rfl, rfl⟩) fun obj s₁ h₁ => ?_
  obtain ⟨rfl, rfl⟩ := h₁
  have hS : (s.heap.push { cls := .type "list", data := .seq #[] }).get? s.heap.objs.size = some { cls := .type "list", data := .seq #[] } := Heap.get?_push_size _ rfl
  obtain ⟨oi, hoi, _⟩ := id hit
  obtain ⟨ol, hol, _⟩ := id hl
  have hSi : s.heap.objs.size ≠ it := Nat.ne_of_gt (Heap.lt_size hoi)
  have hSl : s.heap.objs.size ≠ l := Nat.ne_of_gt (Heap.lt_size hol)
  refine ⟨⟨_, hS, rfl⟩, PySem.F.args_list_init_2 _ _, vl_init_rev (s := { s with heap := s.heap.push { cls := .type "list", data := .seq #[] } }) (A := A.in1) hh (hit.at fun o e => Heap.get?_push_of_some _ e) (hl.push _) hne hn _ hSi hSl hS fun h' tk acc' c' hk hS' hacc => ?_⟩
  exact ⟨rfl, hQ h' tk acc' c' (fun b o hb e => hk b o (Nat.ne_of_lt (Heap.lt_size e)) hb (Heap.get?_push_of_some _ e)) hS' hacc⟩
end
end RT
namespace Vl
open PySem PySem.Spec PyProof.Rows L2
/-- list(reversed(x)), x a list: a new list -/
def tListRev (K : PySem.W.Frag) (te : TE) : TE := fun σ H Q => te σ H fun v H1 => ∃ (a : Addr) (xs : List V), v = .ref a ∧ SqL K H1 a xs ∧ ∀ q, H1 q = none → Q (.ref q) (upd H1 q (.lst xs.reverse))
theorem pe_listRev {X : Cx} {e : Expr} {te : TE} {p p2 pos pos2 : Pos} (hc : X.calm = true) (hg : Gl X "list") (hm : X.mg "list" = none) (hg2 : Gl X "reversed") (hm2 : X.mg "reversed" = none) (he : PE X e te)
    (hs : starEach [e] X.env = (false, eval e X.env) :: starEach [] X.env := by rfl)
    (hs2 : starEach [.Call (.Name "reversed" p2) [e] [] pos2] X.env = (false, eval (.Call (.Name "reversed" p2) [e] [] pos2) X.env) :: starEach [] X.env := by rfl) :
    PE X (.Call (.Name "list" p) [.Call (.Name "reversed" p2) [e] [] pos2] [] pos) (tListRev X.K te) := by
  refine ⟨fun pins s σ H Q I h => ?_⟩
  refine Call_ (ld_blt I hg hm boot_list (PyProof.Rows.callWith_type1 (args_cons (Call_ (ld_blt I hg2 hm2 PyProof.Rows.boot_reversed (PyProof.Rows.callWith_type1 (args_cons (thn (he.run pins s σ H _ I h) fun u s1 ⟨v, H1, I1, r1, q1⟩ => args_nil ?_) hs) hs rfl))) hs2) hs2 rfl))
  obtain ⟨a, xs, ev, hq, q⟩ := q1
  subst ev
  obtain rfl : u = Value.ref a := r1
  obtain ⟨its, rv, p', hz⟩ := I1.list hq
  refine call_reversed_list p'.isList (args_nil ?_)
  have hl := p'.isList
  obtain ⟨ol, hol, _⟩ := id hl
  have hne : a ≠ s1.heap.objs.size := Nat.ne_of_lt (Heap.lt_size hol)
  have hn : its.toArray.size ≤ sizeLine := by rw [List.size_toArray, ← rv.length]; exact hz
  refine RT.vl_list_rev (s := { s1 with heap := s1.heap.push (revObj a ((its.toArray.size : Int) - 1)) }) (I1.ok.hd hc) ⟨_, Heap.get?_push_size _ rfl, rfl, rfl⟩ (hl.push _) hne hn fun h' tk acc c hk hS hi => ?_
  have sz : (s1.heap.push (revObj a ((its.toArray.size : Int) - 1))).objs.size = s1.heap.objs.size + 1 := by simp [Heap.push]
  have keep : ∀ b o, s1.heap.get? b = some o → h'.get? b = some o := fun b o e => hk b o (Nat.ne_of_lt (Heap.lt_size e)) (Heap.get?_push_of_some _ e)
  have new : ObjOk X.prog X.w (upd H1 (s1.heap.push (revObj a ((its.toArray.size : Int) - 1))).objs.size (.lst xs.reverse)) h' (s1.heap.push (revObj a ((its.toArray.size : Int) - 1))).objs.size (.lst xs.reverse) := by
    refine ⟨by rw [List.length_reverse]; exact hz, acc.toList, c, RT.vals_rev rv hi, ?_⟩
    rw [Array.toArray_toList]
    exact hS
  exact ⟨.ref _, _, I1.laid keep (by rw [sz]; omega) new, rfl, q _ (I1.hok.fresh (by rw [sz]; omega))⟩
def vListRev (a : WE) : WE := fun x e post => a x e fun o e1 => match seqL o with
  | some ds => ∀ p, post (.ls p ds.reverse) e1
  | none => False
theorem Rps.rev {K : PySem.W.Frag} {G : Hp} : ∀ (ds : List D) (vs : List V), Rps K G ds vs → Rps K G ds.reverse vs.reverse
  | [], _, h => by unfold Rps at h; subst h; exact Rps.nil
  | d :: ds, _, h => by
    unfold Rps at h
    obtain ⟨v, r, e, a, b⟩ := h
    subst e
    rw [List.reverse_cons, List.reverse_cons]
    exact Rps.app _ _ _ _ (Rps.rev ds r b) (Rps.one a)
theorem snd_listRev {K : PySem.W.Frag} {te : TE} {a : WE} (h : SndE K te a) : SndE K (tListRev K te) (vListRev a) := fun φ e σ G H x post Q R X t q => by
  refine h φ e σ G H x _ _ R X t fun o e1 v G1 H1 p R1 => ?_
  cases hs : seqL o with
  | none => rw [hs] at p; exact p.elim
  | some ds =>
    rw [hs] at p
    obtain ⟨a, vs, rfl, hl, hv⟩ := seqL_at R1.sub R1.headOAt hs
    exact ⟨a, vs, rfl, hl, fun p' hp => q _ e1 _ _ _ (p p') (R1.tail.newLs hp (Rps.rev _ _ hv))⟩
theorem ve_listRev {X : Cx} {e : Expr} {te : TE} {a : WE} {p p2 pos pos2 : Pos} (hc : X.calm = true) (hg : Gl X "list") (hm : X.mg "list" = none) (hg2 : Gl X "reversed") (hm2 : X.mg "reversed" = none) (he : VE X e te a)
    (hs : starEach [e] X.env = (false, eval e X.env) :: starEach [] X.env := by rfl)
    (hs2 : starEach [.Call (.Name "reversed" p2) [e] [] pos2] X.env = (false, eval (.Call (.Name "reversed" p2) [e] [] pos2) X.env) :: starEach [] X.env := by rfl) :
    VE X (.Call (.Name "list" p) [.Call (.Name "reversed" p2) [e] [] pos2] [] pos) (tListRev X.K te) (vListRev a) := ⟨pe_listRev hc hg hm hg2 hm2 he.pe hs hs2, snd_listRev he.snd⟩
end Vl

namespace Vl
open PySem PySem.Spec PyProof.Rows L2

/-! ### the readings of V14, V15 (printed by mk16.py) -/
def kKey3 (j : Nat) (d : D) (post : Env → Prop) (e : Env) (k : Key) (oc : O) : Prop := onDc oc fun p ks => ks.length < sizeLine ∧ post (e.set j (some (.dc p (putD ks k d))))
def kKey (j : Nat) (d : D) (post : Env → Prop) (oi : O) (e : Env) : Prop := onKey oi fun k => onO (.pl j) e (kKey3 j d post e k)
def kEnum (post : List D → Env → Prop) (ds : List D) (e : Env) : Prop := on1 ds fun d => match d with
  | .lst xs => post (xs.zipIdx.map fun p => D.tup [.int (p.2 : Nat), p.1]) e
  | _ => False
def kRev (post : List D → Env → Prop) (ds : List D) (e : Env) : Prop := on1 ds fun d => match d with
  | .lst xs => post xs.reverse e
  | _ => False
def kLrev (post : O → Env → Prop) (o : O) (e : Env) : Prop := match seqL o with
  | some ds => ∀ p, post (.ls p ds.reverse) e
  | none => False
def kLook (o : Option D) (k : O → Prop) : Prop := match o with
  | some d => k (.pu d)
  | none => False
theorem e_dict0 {x : XP} {e : Env} {post : O → Env → Prop} : vDict0 x e post = ∀ p, post (.dc p []) e := rfl
theorem e_gAddL1 {i j : Int} {k : O → Prop} : gAddL (.pu (.int i)) (.pu (.int j)) k = k (.pu (.int (i + j))) := by simp [gAddL, gAdd, seqL]
theorem e_gAddL2 {i j : Str} {k : O → Prop} : gAddL (.pu (.str i)) (.pu (.str j)) k = (i.length + j.length ≤ sizeLine ∧ k (.pu (.str (i ++ j)))) := by simp [gAddL, gAdd, seqL]
theorem e_gAddL3 {i j : List D} {k : O → Prop} : gAddL (.pu (.tup i)) (.pu (.tup j)) k = (i.length + j.length ≤ sizeLine ∧ k (.pu (.tup (i ++ j)))) := by simp [gAddL, gAdd, seqL]
theorem e_gAddL4  {i j : List D} {k : O → Prop} : gAddL (.pu (.lst i)) (.pu (.lst j)) k = (i.length + j.length ≤ sizeLine ∧ ∀ p, k (.ls p (i ++ j))) := by simp [gAddL, gAdd, seqL]
theorem e_gAddL5  {q : Addr} {i j : List D} {k : O → Prop} : gAddL (.pu (.lst i)) (.ls q j) k = (i.length + j.length ≤ sizeLine ∧ ∀ p, k (.ls p (i ++ j))) := by simp [gAddL, gAdd, seqL]
theorem e_gAddL6  {p : Addr} {i j : List D} {k : O → Prop} : gAddL (.ls p i) (.pu (.lst j)) k = (i.length + j.length ≤ sizeLine ∧ ∀ p, k (.ls p (i ++ j))) := by simp [gAddL, gAdd, seqL]
theorem e_gAddL7  {p : Addr} {q : Addr} {i j : List D} {k : O → Prop} : gAddL (.ls p i) (.ls q j) k = (i.length + j.length ≤ sizeLine ∧ ∀ p, k (.ls p (i ++ j))) := by simp [gAddL, gAdd, seqL]
theorem e_gLtA1 {i j : Int} {k : O → Prop} : gLtA (.pu (.int i)) (.pu (.int j)) k = k (.pu (.bl (decide (i < j)))) := rfl
theorem e_gLtA2 {i j : Str} {k : O → Prop} : gLtA (.pu (.str i)) (.pu (.str j)) k = k (.pu (.bl (decide (i.cps.toList < j.cps.toList)))) := rfl
theorem e_key {j : Nat} {b : WE} {d : D} {e : Env} {post : Env → Prop} : wKey j b d e post = ((∃ o, eget e j = some o) ∧ b noX e (kKey j d post)) := rfl
theorem e_kkey1 {j : Nat} {d : D} {e : Env} {post : Env → Prop} {s : Str} : kKey j d post (.pu (.str s)) e = onO (.pl j) e (kKey3 j d post e (.inr s)) := rfl
theorem e_kkey2 {j : Nat} {d : D} {e : Env} {post : Env → Prop} {s : Int} : kKey j d post (.pu (.int s)) e = onO (.pl j) e (kKey3 j d post e (.inl s)) := rfl
theorem e_kkey3 {j : Nat} {d : D} {e : Env} {post : Env → Prop} {k : Key} {p : Addr} {ks : List (Key × D)} : kKey3 j d post e k (.dc p ks) = (ks.length < sizeLine ∧ post (e.set j (some (.dc p (putD ks k d))))) := rfl
theorem e_gDictD1 {ks : List (Key × D)} {k : O → Prop} : gDictD (.pu (.dct ks)) k = ∀ p, k (.dc p ks) := rfl
theorem e_gDictD2 {p : Addr} {ks : List (Key × D)} {k : O → Prop} : gDictD (.dc p ks) k = ∀ p, k (.dc p ks) := rfl
theorem e_enum {a : WP} {x : XP} {e : Env} {post : List D → Env → Prop} : wEnum a x e post = a x e (kEnum post) := rfl
theorem e_kenum {xs : List D} {e : Env} {post : List D → Env → Prop} : kEnum post [.lst xs] e = post (xs.zipIdx.map fun p => D.tup [.int (p.2 : Nat), p.1]) e := rfl
theorem e_rev {a : WP} {x : XP} {e : Env} {post : List D → Env → Prop} : wRev a x e post = a x e (kRev post) := rfl
theorem e_krev {xs : List D} {e : Env} {post : List D → Env → Prop} : kRev post [.lst xs] e = post xs.reverse e := rfl
theorem e_lrev {a : WE} {x : XP} {e : Env} {post : O → Env → Prop} : vListRev a x e post = a x e (kLrev post) := rfl
theorem e_klrev1 {ds : List D} {e : Env} {post : O → Env → Prop} : kLrev post (.pu (.lst ds)) e = ∀ p, post (.ls p ds.reverse) e := rfl
theorem e_klrev2 {p : Addr} {ds : List D} {e : Env} {post : O → Env → Prop} : kLrev post (.ls p ds) e = ∀ p, post (.ls p ds.reverse) e := rfl
theorem e_isi_bool {b : Bool} {post : O → Env → Prop} {e : Env} : kIsi2 "bool" post e (.pu (.bl b)) = post (.pu (.bl true)) e := rfl
theorem e_gIxD1  {ks : List (Key × D)} {s : Str} {k : O → Prop} : gIx (.pu (.dct ks)) (.pu (.str s)) k = kLook (lookK ks (.inr s)) k := rfl
theorem e_gIxDi1  {ks : List (Key × D)} {s : Int} {k : O → Prop} : gIx (.pu (.dct ks)) (.pu (.int s)) k = kLook (lookK ks (.inl s)) k := rfl
theorem e_gInD1false  {ks : List (Key × D)} {s : Str} {k : O → Prop} : gIn false (.pu (.str s)) (.pu (.dct ks)) k = k (.pu (.bl ((lookK ks (.inr s)).isSome))) := rfl
theorem e_gInD1true  {ks : List (Key × D)} {s : Str} {k : O → Prop} : gIn true (.pu (.str s)) (.pu (.dct ks)) k = k (.pu (.bl (!(lookK ks (.inr s)).isSome))) := rfl
theorem e_gIxD2  {p : Addr} {ks : List (Key × D)} {s : Str} {k : O → Prop} : gIx (.dc p ks) (.pu (.str s)) k = kLook (lookK ks (.inr s)) k := rfl
theorem e_gIxDi2  {p : Addr} {ks : List (Key × D)} {s : Int} {k : O → Prop} : gIx (.dc p ks) (.pu (.int s)) k = kLook (lookK ks (.inl s)) k := rfl
theorem e_gInD2false  {p : Addr} {ks : List (Key × D)} {s : Str} {k : O → Prop} : gIn false (.pu (.str s)) (.dc p ks) k = k (.pu (.bl ((lookK ks (.inr s)).isSome))) := rfl
theorem e_gInD2true  {p : Addr} {ks : List (Key × D)} {s : Str} {k : O → Prop} : gIn true (.pu (.str s)) (.dc p ks) k = k (.pu (.bl (!(lookK ks (.inr s)).isSome))) := rfl
theorem e_look {d : D} {k : O → Prop} : kLook (some d) k = k (.pu d) := rfl
theorem e_gInL1false  {ds : List D} {a : O} {k : O → Prop} : gIn false a (.pu (.lst ds)) k = (flatD a.toD = true ∧ ds.all flatD = true ∧ k (.pu (.bl (inD a.toD ds)))) := rfl
theorem e_gInL1true  {ds : List D} {a : O} {k : O → Prop} : gIn true a (.pu (.lst ds)) k = (flatD a.toD = true ∧ ds.all flatD = true ∧ k (.pu (.bl (!inD a.toD ds)))) := rfl
theorem e_gInL2false  {p : Addr} {ds : List D} {a : O} {k : O → Prop} : gIn false a (.ls p ds) k = (flatD a.toD = true ∧ ds.all flatD = true ∧ k (.pu (.bl (inD a.toD ds)))) := rfl
theorem e_gInL2true  {p : Addr} {ds : List D} {a : O} {k : O → Prop} : gIn true a (.ls p ds) k = (flatD a.toD = true ∧ ds.all flatD = true ∧ k (.pu (.bl (!inD a.toD ds)))) := rfl
theorem e_gInL3false  {ds : List D} {a : O} {k : O → Prop} : gIn false a (.pu (.tup ds)) k = (flatD a.toD = true ∧ ds.all flatD = true ∧ k (.pu (.bl (inD a.toD ds)))) := rfl
theorem e_gInL3true  {ds : List D} {a : O} {k : O → Prop} : gIn true a (.pu (.tup ds)) k = (flatD a.toD = true ∧ ds.all flatD = true ∧ k (.pu (.bl (!inD a.toD ds)))) := rfl
/-! ### what is found in a dict -/
theorem look_put (ks : List (Key × D)) (k k' : Key) (d : D) : lookK (putD ks k d) k' = if k = k' then some d else lookK ks k' := by
  have h1 : ∀ ks : List (Key × D), lookK (ks.map fun kv => if kv.1 = k then (kv.1, d) else kv) k' = if k = k' then (if (ks.any fun kv => decide (kv.1 = k)) = true then some d else none) else lookK ks k' := fun ks => by
    induction ks with
    | nil => unfold lookK; simp
    | cons a r ih =>
      obtain ⟨ka, da⟩ := a
      unfold lookK at ih ⊢
      by_cases h : ka = k
      · subst h
        by_cases h2 : ka = k'
        · subst h2
          simp
        · simp [h2] at ih ⊢
          exact ih
      · by_cases h2 : k = k'
        · subst h2
          have hd : decide (ka = k) = false := decide_eq_false h
          rw [List.map_cons, List.any_cons, hd, Bool.false_or]
          simp only [if_neg h]
          rw [List.find?_cons_of_neg (by simp [h])]
          rw [if_pos rfl] at ih
          rw [if_pos trivial]
          exact ih
        · by_cases h3 : ka = k'
          · subst h3
            simp [h, h2]
          · simp [h, h2, h3] at ih ⊢
            exact ih
  unfold putD
  by_cases h : (ks.any fun kv => decide (kv.1 = k)) = true
  · rw [if_pos h, h1, h]
    simp
  · rw [if_neg h]
    have h2 : (ks.find? fun kv => decide (kv.1 = k)) = none := by
      rw [List.find?_eq_none]
      intro x hx
      have := (List.any_eq_true (l := ks) (p := fun kv => decide (kv.1 = k)))
      intro hc
      exact h (this.mpr ⟨x, hx, hc⟩)
    unfold lookK
    rw [List.find?_append]
    by_cases h3 : k = k'
    · subst h3
      rw [h2]
      simp
    · simp [h3]
/-! ### data with dicts whose keys are all different -/
mutual
def wf : D → Bool
  | .lst a => wfs a
  | .tup a => wfs a
  | .dct ks => decide ((ks.map (·.1)).Nodup) && wfk ks
  | .tupN _ => false
  | .opq => false
  | _ => true
def wfs : List D → Bool
  | [] => true
  | x :: r => wf x && wfs r
def wfk : List (Key × D) → Bool
  | [] => true
  | (_, x) :: r => wf x && wfk r
end
theorem look_mem : ∀ (ks : List (Key × D)) (k : Key) (d : D), (ks.map (·.1)).Nodup → (k, d) ∈ ks → lookK ks k = some d
  | (k', d') :: r, k, d, hn, h => by
    rw [List.map_cons, List.nodup_cons] at hn
    unfold lookK
    by_cases hk : k' = k
    · subst hk
      rcases List.mem_cons.mp h with e | h
      · cases e; simp
      · exact absurd (List.mem_map.mpr ⟨(k', d), h, rfl⟩) hn.1
    · rcases List.mem_cons.mp h with e | h
      · cases e; exact absurd rfl hk
      · have ih := look_mem r k d hn.2 h
        unfold lookK at ih
        rw [List.find?_cons_of_neg (by simp [hk])]
        exact ih
mutual
theorem eqv_wf : ∀ d : D, wf d = true → eqv d d = true
  | .non, _ => by unfold eqv; rfl
  | .bl _, _ => by unfold eqv; simp
  | .int _, _ => by unfold eqv; simp
  | .str _, _ => by unfold eqv; simp
  | .lst a, h => by unfold eqv; exact eqvs_wf a (by unfold wf at h; exact h)
  | .tup a, h => by unfold eqv; exact eqvs_wf a (by unfold wf at h; exact h)
  | .tupN _, h => by unfold wf at h; cases h
  | .opq, h => by unfold wf at h; cases h
  | .dct ks, h => by
    unfold wf at h
    have h' := Bool.and_eq_true_iff.mp h
    unfold eqv
    rw [beq_self_eq_true, Bool.true_and]
    exact eqvk_wf ks ks h'.2 (of_decide_eq_true h'.1) fun _ q => q
theorem eqvs_wf : ∀ a : List D, wfs a = true → eqvs a a = true
  | [], _ => by unfold eqvs; rfl
  | x :: r, h => by
    unfold wfs at h
    have h' := Bool.and_eq_true_iff.mp h
    unfold eqvs
    rw [eqv_wf x h'.1, eqvs_wf r h'.2]
    rfl
theorem eqvk_wf : ∀ (a b : List (Key × D)), wfk a = true → (b.map (·.1)).Nodup → (∀ p ∈ a, p ∈ b) → eqvk a b = true
  | [], _, _, _, _ => by unfold eqvk; rfl
  | (k, x) :: r, b, h, hn, hs => by
    unfold wfk at h
    have h' := Bool.and_eq_true_iff.mp h
    unfold eqvk
    rw [look_mem b k x hn (hs _ List.mem_cons_self), eqvk_wf r b h'.2 hn fun p hp => hs p (List.mem_cons_of_mem _ hp)]
    show (eqv x x && true) = true
    rw [eqv_wf x h'.1]
    rfl
end
mutual
theorem cmpb_wf : ∀ d : D, wf d = true → cmpb d d = true
  | .non, _ => by unfold cmpb; rfl
  | .bl _, _ => by unfold cmpb; rfl
  | .int _, _ => by unfold cmpb; rfl
  | .str _, _ => by unfold cmpb; rfl
  | .lst a, h => by unfold cmpb; exact cmpbs_wf a (by unfold wf at h; exact h)
  | .tup a, h => by unfold cmpb; exact cmpbs_wf a (by unfold wf at h; exact h)
  | .tupN _, h => by unfold wf at h; cases h
  | .opq, h => by unfold wf at h; cases h
  | .dct ks, h => by
    unfold wf at h
    have h' := Bool.and_eq_true_iff.mp h
    unfold cmpb
    exact cmpbk_wf ks ks h'.2 (of_decide_eq_true h'.1) fun _ q => q
theorem cmpbs_wf : ∀ a : List D, wfs a = true → cmpbs a a = true
  | [], _ => by unfold cmpbs; rfl
  | x :: r, h => by
    unfold wfs at h
    have h' := Bool.and_eq_true_iff.mp h
    unfold cmpbs
    rw [cmpb_wf x h'.1, cmpbs_wf r h'.2]
    rfl
theorem cmpbk_wf : ∀ (a b : List (Key × D)), wfk a = true → (b.map (·.1)).Nodup → (∀ p ∈ a, p ∈ b) → cmpbk a b = true
  | [], _, _, _, _ => by unfold cmpbk; rfl
  | (k, x) :: r, b, h, hn, hs => by
    unfold wfk at h
    have h' := Bool.and_eq_true_iff.mp h
    unfold cmpbk
    rw [look_mem b k x hn (hs _ List.mem_cons_self), cmpbk_wf r b h'.2 hn fun p hp => hs p (List.mem_cons_of_mem _ hp)]
    show (cmpb x x && true) = true
    rw [cmpb_wf x h'.1]
    rfl
end
theorem wfs_all {ds : List D} (h : ∀ d ∈ ds, wf d = true) : wfs ds = true := by
  induction ds with
  | nil => unfold wfs; rfl
  | cons a r ih =>
    unfold wfs
    rw [h a List.mem_cons_self, ih fun d hd => h d (List.mem_cons_of_mem _ hd)]
    rfl
theorem wf_lst {ds : List D} (h : ∀ d ∈ ds, wf d = true) : wf (.lst ds) = true := by unfold wf; exact wfs_all h
theorem wf_tup {ds : List D} (h : ∀ d ∈ ds, wf d = true) : wf (.tup ds) = true := by unfold wf; exact wfs_all h
theorem wfk_all {ks : List (Key × D)} (h : ∀ p ∈ ks, wf p.2 = true) : wfk ks = true := by
  induction ks with
  | nil => unfold wfk; rfl
  | cons a r ih =>
    obtain ⟨k, x⟩ := a
    unfold wfk
    rw [h _ List.mem_cons_self, ih fun d hd => h d (List.mem_cons_of_mem _ hd)]
    rfl
theorem wf_dct {ks : List (Key × D)} (hn : (ks.map (·.1)).Nodup) (h : ∀ p ∈ ks, wf p.2 = true) : wf (.dct ks) = true := by
  unfold wf
  rw [decide_eq_true hn, wfk_all h]
  rfl
theorem wf_str (s : Str) : wf (.str s) = true := by unfold wf; rfl
theorem wf_int (s : Int) : wf (.int s) = true := by unfold wf; rfl
theorem wf_bl (s : Bool) : wf (.bl s) = true := by unfold wf; rfl
theorem depk_max {n : Nat} {ks : List (Key × D)} (h : ∀ p ∈ ks, dep p.2 ≤ n) : depk ks ≤ n := by
  induction ks with
  | nil => unfold depk; omega
  | cons a r ih =>
    obtain ⟨k, x⟩ := a
    unfold depk
    have h1 := h _ List.mem_cons_self
    have h2 := ih fun d hd => h d (List.mem_cons_of_mem _ hd)
    have h3 : dep x ≤ n := h1
    omega
theorem dep_dct {n : Nat} {ks : List (Key × D)} (h : ∀ p ∈ ks, dep p.2 ≤ n) : dep (.dct ks) ≤ n + 1 := by
  unfold dep
  have := depk_max h
  omega
theorem put_keys (ks : List (Key × D)) (k : Key) (d : D) : (k ∈ ks.map (·.1) → (putD ks k d).map (·.1) = ks.map (·.1)) ∧ (k ∉ ks.map (·.1) → (putD ks k d).map (·.1) = ks.map (·.1) ++ [k]) := by
  have e : ((ks.any fun kv => decide (kv.1 = k)) = true) ↔ k ∈ ks.map (·.1) := by
    rw [List.any_eq_true, List.mem_map]
    constructor
    · rintro ⟨x, hx, h⟩; exact ⟨x, hx, of_decide_eq_true h⟩
    · rintro ⟨x, hx, h⟩; exact ⟨x, hx, decide_eq_true h⟩
  unfold putD
  constructor
  · intro h
    rw [if_pos (e.mpr h), List.map_map]
    apply List.map_congr_left
    intro x hx
    show (if x.1 = k then (x.1, d) else x).1 = x.1
    split <;> rfl
  · intro h
    rw [if_neg fun z => h (e.mp z), List.map_append]
    rfl
theorem put_nodup {ks : List (Key × D)} {k : Key} {d : D} (h : (ks.map (·.1)).Nodup) : ((putD ks k d).map (·.1)).Nodup := by
  have e := put_keys ks k d
  by_cases hk : k ∈ ks.map (·.1)
  · rw [e.1 hk]; exact h
  · rw [e.2 hk, List.nodup_append]
    refine ⟨h, by simp, fun a ha b hb => ?_⟩
    rw [List.mem_singleton.mp hb]
    rintro rfl
    exact hk ha
theorem put_mem {ks : List (Key × D)} {k : Key} {d : D} {p : Key × D} (h : p ∈ putD ks k d) : p ∈ ks ∨ p = (k, d) := by
  unfold putD at h
  split at h
  · obtain ⟨q, hq, rfl⟩ := List.mem_map.mp h
    by_cases e : q.1 = k
    · right
      rw [if_pos e, e]
    · left
      rw [if_neg e]
      exact hq
  · rcases List.mem_append.mp h with h | h
    · exact .inl h
    · exact .inr (List.mem_singleton.mp h)
end Vl

namespace Vl
open PySem PySem.Spec PyProof.Rows L2

/-! ### a dict walked: locked while it is walked -/
section
variable {K : PySem.W.Frag} {φ : Fx} {e : Env} {σ : L2.St} {G H : Hp} {d : Addr} {u : HO} {od : Obj}
theorem g_of (s : Sub G H) (hg : Rd G d u) (hd : H d = some u) (hm : ∀ o w, u ≠ .frz o w) : G d = some u := by
  rcases hg with h | ⟨o, h⟩
  · exact h
  · rcases s d (.frz o u) (.inl h) with k | ⟨o', k⟩
    · rw [hd] at k
      exact absurd (Option.some.inj k) (hm _ _)
    · rw [hd] at k
      exact absurd (Option.some.inj k) (hm _ _)
theorem Rel.lock (R : Rel K φ e σ G H) (hg : Rd G d u) (hd : H d = some u) (hm : ∀ o w, u ≠ .frz o w) : Rel K (rb φ e G (upd H d (.frz od u))) e σ G (upd H d (.frz od u)) := by
  have gd := g_of R.sub hg hd hm
  have c := Slots.cell e σ R.slots
  have ne : ∀ p ∈ fpe e, p ≠ d := fun p hp z => by
    have := (c p hp).1
    rw [z, gd] at this
    cases this
  have sub : Sub G (upd H d (.frz od u)) := fun a w h => by
    by_cases z : a = d
    · subst z
      rcases R.sub a w h with k | ⟨o, k⟩
      · rw [hd] at k
        cases k
        exact .inr ⟨od, upd_same⟩
      · rw [hd] at k
        exact absurd (Option.some.inj k) (hm _ _)
    · rcases R.sub a w h with k | ⟨o, k⟩
      · exact .inl (by rw [upd_ne z]; exact k)
      · exact .inr ⟨o, by rw [upd_ne z]; exact k⟩
  exact ⟨.self sub, Slots.mono (Sub.refl G) e σ (fun p hp => ⟨upd_ne (ne p hp), rfl⟩) R.slots, R.nd, fun p hp => .inl hp⟩
theorem Rel.unlock (R : Rel K φ e σ G H) (hg : Rd G d u) (hd : H d = some u) (hm : ∀ o w, u ≠ .frz o w) {e2 : Env} {σ2 : L2.St} {G2 H2 : Hp} (S : Rel K (rb φ e G (upd H d (.frz od u))) e2 σ2 G2 H2) : H2 d = some (.frz od u) ∧ Rel K φ e2 σ2 G2 (upd H2 d u) := by
  have gd := g_of R.sub hg hd hm
  have c := Slots.cell e σ R.slots
  have dn : d ∉ fpe e := fun hp => by
    have := (c d hp).1
    rw [gd] at this
    cases this
  have h2 : H2 d = some (.frz od u) := S.frm.keep d _ upd_same dn
  have g2 : G2 d = some u := (S.frm.gk d _ upd_same dn).trans gd
  refine ⟨h2, R.back (?_ : Rel K (rb φ e G H) e2 σ2 G2 (upd H2 d u))⟩
  have c2 := Slots.cell e2 σ2 S.slots
  have ne : ∀ p ∈ fpe e2, p ≠ d := fun p hp z => by
    have := (c2 p hp).1
    rw [z, g2] at this
    cases this
  have up : Sub G G2 := S.frm.up
  refine ⟨⟨up, fun a w h => ?_, fun b o hb nb => ?_, fun b o hb nb => ?_, fun b o hb => ?_⟩, Slots.mono (Sub.refl G2) e2 σ2 (fun p hp => ⟨upd_ne (ne p hp), rfl⟩) S.slots, S.nd, fun p hp => ?_⟩
  · by_cases z : a = d
    · subst z
      rcases h with h | ⟨o, h⟩
      · rw [g2] at h
        cases h
        exact .inl upd_same
      · rw [g2] at h
        exact absurd (Option.some.inj h) (hm _ _)
    · rcases S.frm.sub a w h with k | ⟨o, k⟩
      · exact .inl (by rw [upd_ne z]; exact k)
      · exact .inr ⟨o, by rw [upd_ne z]; exact k⟩
  · by_cases z : b = d
    · subst z
      have hb' : H b = some o := hb
      rw [hd] at hb'
      cases hb'
      exact upd_same
    · rw [upd_ne z]
      exact S.frm.keep b o (by show upd H d _ b = some o; rw [upd_ne z]; exact hb) nb
  · by_cases z : b = d
    · subst z
      exact S.frm.gk b _ upd_same nb
    · exact S.frm.gk b o (by show upd H d _ b = some o; rw [upd_ne z]; exact hb) nb
  · by_cases z : b = d
    · subst z
      exact ⟨u, upd_same⟩
    · obtain ⟨o', h'⟩ := S.frm.live b o (by show upd H d _ b = some o; rw [upd_ne z]; exact hb)
      exact ⟨o', by rw [upd_ne z]; exact h'⟩
  · rcases S.own p hp with h | h
    · exact .inl h
    · right
      have h' : upd H d (.frz od u) p = none := h
      rw [upd_ne (ne p hp)] at h'
      exact h'
end
/-- a statement, an expression, with or without the lock -/
def tLk (t : TS) : TS := fun D σ H => tLock t D σ H ∨ t D σ H
def tLkE (t : TE) : TE := fun σ H Q => tLockE t σ H Q ∨ t σ H Q
theorem ps_lk {X : Cx} {st : Stmt} {t : TS} (h : PS X st t) : PS X st (tLk t) := ⟨fun pins s σ H D I hw => hw.elim ((ps_lock h).run pins s σ H D I) (h.run pins s σ H D I)⟩
theorem pe_lk {X : Cx} {e : Expr} {t : TE} (h : PE X e t) : PE X e (tLkE t) := ⟨fun pins s σ H Q I hw => hw.elim ((pe_lock h).run pins s σ H Q I) (h.run pins s σ H Q I)⟩

/-- what is walked of the dict in slot i -/
structure DWk (K : PySem.W.Frag) (wi : Nat → TI) (f : List (Key × D) → List D) : Prop where
  go : ∀ (i : Nat) (σ : L2.St) (G H : Hp) (d : Addr) (o : Obj) (kvs : List (Key × V)) (ks : List (Key × D)) (l : List Addr) (R : It → Hp → Prop), σ[i]? = some (some (.ref d)) → H d = some (.frz o (.dK kvs)) → Rpk K G ks kvs → d ∉ l → (∀ J, Walk K J (f ks) G H l → R J H) → wi i σ H R
def fKeys (ks : List (Key × D)) : List D := ks.map fun kv => kD kv.1
def fVals (ks : List (Key × D)) : List D := ks.map fun kv => kv.2
def fItems (ks : List (Key × D)) : List D := ks.map fun kv => .tup [kD kv.1, kv.2]
section
variable {K : PySem.W.Frag}
theorem rp_kD {G : Hp} (k : Key) : Rp K G (kD k) (kV k) := by
  cases k with
  | inl i => exact rp_int
  | inr x => exact rp_str
theorem Rpk.get {G : Hp} : ∀ (ks : List (Key × D)) (vs : List (Key × V)) (i : Nat) (k : Key) (d : D), Rpk K G ks vs → ks[i]? = some (k, d) → ∃ v, vs[i]? = some (k, v) ∧ Rp K G d v
  | [], _, i, k, d, h, e => by cases e
  | (k', d') :: ks, _, 0, k, d, h, e => by
    unfold Rpk at h
    obtain ⟨v, r, e1, a, b⟩ := h
    subst e1
    cases e
    exact ⟨v, rfl, a⟩
  | (k', d') :: ks, _, i + 1, k, d, h, e => by
    unfold Rpk at h
    obtain ⟨v, r, e1, a, b⟩ := h
    subst e1
    exact Rpk.get ks r i k d b e
theorem dwk_keys : DWk K (fun i => iKeys (tVar i)) fKeys where
  go := fun i σ G H d o kvs ks l R h1 hd hk hl q => by
    refine ⟨_, h1, d, o, rfl, .inl ⟨kvs, hd, q _ ?_⟩⟩
    intro E e σ' G' H' j S
    have hd' : H' d = some (.frz o (.dK kvs)) := S.frm.keep d _ hd hl
    have hk' := Rpk.mono S.frm.up ks kvs hk
    refine ⟨fun x hx => ?_, fun hj => ⟨hd', by rw [Rpk.len _ _ hk]; simpa [fKeys] using hj⟩⟩
    unfold fKeys at hx
    rw [List.getElem?_map, Option.map_eq_some_iff] at hx
    obtain ⟨⟨k, d0⟩, hx, rfl⟩ := hx
    obtain ⟨v, hv, rv⟩ := Rpk.get ks kvs j k d0 hk' hx
    refine ⟨⟨hd', (List.getElem?_eq_some_iff.mp hv).1⟩, fun y H2 hy => ?_⟩
    obtain ⟨rfl, k2, v2, e2, rfl⟩ := hy
    rw [hv] at e2
    cases e2
    exact ⟨G', S, rp_kD k⟩
theorem dwk_vals {wi : Nat → TI} (hw : ∀ i σ H d o kvs (R : It → Hp → Prop), σ[i]? = some (some (.ref d)) → H d = some (.frz o (.dK kvs)) → R (Itd d o kvs) H → wi i σ H R) : DWk K wi fVals where
  go := fun i σ G H d o kvs ks l R h1 hd hk hl q => by
    refine hw i σ H d o kvs R h1 hd (q _ ?_)
    intro E e σ' G' H' j S
    have hd' : H' d = some (.frz o (.dK kvs)) := S.frm.keep d _ hd hl
    have hk' := Rpk.mono S.frm.up ks kvs hk
    refine ⟨fun x hx => ?_, fun hj => ⟨hd', by rw [Rpk.len _ _ hk]; simpa [fVals] using hj⟩⟩
    unfold fVals at hx
    rw [List.getElem?_map, Option.map_eq_some_iff] at hx
    obtain ⟨⟨k, d0⟩, hx, rfl⟩ := hx
    obtain ⟨v, hv, rv⟩ := Rpk.get ks kvs j k d0 hk' hx
    refine ⟨⟨hd', (List.getElem?_eq_some_iff.mp hv).1⟩, fun y H2 hy => ?_⟩
    obtain ⟨rfl, k2, e2⟩ := hy
    rw [hv] at e2
    cases e2
    exact ⟨G', S, rv⟩
theorem dwk_items : DWk K (fun i => iItems (tVar i)) fItems where
  go := fun i σ G H d o kvs ks l R h1 hd hk hl q => by
    refine ⟨_, h1, d, o, kvs, rfl, hd, q _ ?_⟩
    intro E e σ' G' H' j S
    have hd' : H' d = some (.frz o (.dK kvs)) := S.frm.keep d _ hd hl
    have hk' := Rpk.mono S.frm.up ks kvs hk
    refine ⟨fun x hx => ?_, fun hj => ⟨hd', by rw [Rpk.len _ _ hk]; simpa [fItems] using hj⟩⟩
    unfold fItems at hx
    rw [List.getElem?_map, Option.map_eq_some_iff] at hx
    obtain ⟨⟨k, d0⟩, hx, rfl⟩ := hx
    obtain ⟨v, hv, rv⟩ := Rpk.get ks kvs j k d0 hk' hx
    refine ⟨⟨hd', (List.getElem?_eq_some_iff.mp hv).1⟩, fun y H2 hy => ?_⟩
    obtain ⟨T, k2, v2, e2, rfl, hT, rfl⟩ := hy
    rw [hv] at e2
    cases e2
    have N := S.newTup (ds := [kD k, d0]) (vs := [kV k, v]) hT (Rps.cons (rp_kD k) (Rps.one rv))
    exact ⟨_, N.tail, N.headRp⟩
/-- for over a dict -/
def vForD (i : Nat) (f : List (Key × D) → List D) (t : WG) (b : WS) : WS := fun x pd e => vVar i x e fun o e1 => onDct o fun ks => forL noX t b pd (f ks) e1
theorem dct_open {φ : Fx} {e : Env} {σ : L2.St} {G H : Hp} {x : XP} {i : Nat} {post : List (Key × D) → Env → Prop} (R : Rel K φ e σ G H) (X : ExOk K φ x) (t : vVar i x e fun o e1 => onDct o fun ks => post ks e1) :
    ∃ d vs ks e1 G1, σ[i]? = some (some (.ref d)) ∧ Rd G1 d (.dK vs) ∧ Rpk K G1 ks vs ∧ Rel K φ e1 σ G1 H ∧ post ks e1 := by
  have key := snd_var (K := K) (i := i) φ e σ G H x _ (fun v H' => ∃ o e1 G1, (onDct o fun ks => post ks e1) ∧ Rel K φ (some o :: e1) (some v :: σ) G1 H') R X t fun o e' v G' H' p S => ⟨o, e', G', p, S⟩
  obtain ⟨v, h1, o, e1, G1, p, S⟩ := key
  obtain ⟨ks, ho, p⟩ := onDct_iff.mp p
  obtain ⟨G2, S2, _⟩ := S.freeze
  have hr := S2.headRp
  have hks : o.toD = .dct ks := by
    rcases ho with rfl | ⟨_, rfl⟩ <;> rfl
  rw [hks] at hr
  unfold Rp at hr
  obtain ⟨d, vs, rfl, hd, hk⟩ := hr
  exact ⟨d, vs, ks, e1, G2, h1, hd, hk, S2.tail, p⟩
theorem notIn {φ : Fx} {e : Env} {σ : L2.St} {G H : Hp} {d : Addr} {u : HO} (R : Rel K φ e σ G H) (hg : Rd G d u) : d ∉ fpe e := fun hp => by
  have := (Slots.cell e σ R.slots d hp).1
  rcases hg with h | ⟨o, h⟩
  · rw [this] at h; cases h
  · rw [this] at h; cases h
theorem snd_forD {wi : Nat → TI} {f : List (Key × D) → List D} {i : Nat} {g : TG} {t : WG} {ws : List Nat} {tb : TS} {b : WS} (hw : DWk K wi f) (hg : SndG K g t ws) (hb : SndS K tb b) : SndS K (tLk (tFor (wi i) g tb)) (vForD i f t b) := fun φ e σ G H x pd D R X p E => by
  obtain ⟨d, vs, ks, e1, G1, h1, hd, hk, R1, p1⟩ := dct_open R X p
  rcases R1.sub d _ hd with hH | ⟨o, hH⟩
  · refine .inl ⟨d, _, hH, trivial, fun od => ?_⟩
    have R2 := R1.lock (od := od) hd hH (fun o w z => nomatch z)
    refine hw.go i σ G1 _ d od vs ks (fpe e1) _ h1 upd_same hk (notIn R1 hd) fun J W => ?_
    refine loop_snd hg hb R2 exNo W p1 ⟨fun e' σ' G' H' p S => ?_, fun o e' v σ' G' H' p S => ?_, fun e' σ' G' H' p S => ?_, fun e' σ' G' H' p S => ?_⟩
    · obtain ⟨a, S'⟩ := R1.unlock hd hH (fun o w z => nomatch z) S
      exact ⟨a, E.nx _ _ _ _ p S'⟩
    · obtain ⟨a, S'⟩ := R1.unlock hd hH (fun o w z => nomatch z) S
      exact ⟨a, E.rt _ _ _ _ _ _ p S'⟩
    · obtain ⟨a, S'⟩ := R1.unlock hd hH (fun o w z => nomatch z) S
      exact ⟨a, E.bk _ _ _ _ p S'⟩
    · obtain ⟨a, S'⟩ := R1.unlock hd hH (fun o w z => nomatch z) S
      exact ⟨a, E.ct _ _ _ _ p S'⟩
  · refine .inr ?_
    refine hw.go i σ G1 H d o vs ks (fpe e1) _ h1 hH hk (notIn R1 hd) fun J W => ?_
    exact loop_snd hg hb R1 exNo W p1 E
/-- [.. for .. in a dict ..] -/
def vLcD (i : Nat) (f : List (Key × D) → List D) (t : WG) (c : WT) (b : WE) (vs : List Nat) : WE := fun x e post => vVar i x e fun o e1 => onDct o fun ks => (f ks).length < sizeLine ∧ lcL noX t c b vs (f ks) [] (wipeE e1 vs) fun acc e2 => ∀ p, post (.ls p acc) e2
theorem snd_lcD {wi : Nat → TI} {f : List (Key × D) → List D} {i : Nat} {g : TG} {t : WG} {ws vs : List Nat} {tt : TT} {c : WT} {te : TE} {b : WE} (hw : DWk K wi f) (hg : SndG K g t ws) (hws : ∀ i ∈ ws, i ∈ vs) (hc : SndT K tt c) (hb : SndE K te b) :
    SndE K (tLkE (tLc (wi i) g tt te vs)) (vLcD i f t c b vs) := fun φ e σ G H x post Q R X p q => by
  obtain ⟨d, kvs, ks, e1, G1, h1, hd, hk, R1, p1⟩ := dct_open R X p
  rcases R1.sub d _ hd with hH | ⟨o, hH⟩
  · refine .inl ⟨d, _, hH, trivial, fun od => ?_⟩
    have R2 := R1.lock (od := od) hd hH (fun o w z => nomatch z)
    refine hw.go i σ G1 _ d od kvs ks (fpe e1) _ h1 upd_same hk (notIn R1 hd) fun J W => ?_
    intro Dl hD
    refine lc_snd hg hws hc hb R2 exNo W p1.1 p1.2 hD fun acc e' G' H' pk S => ?_
    obtain ⟨a, S'⟩ := R1.unlock hd hH (fun o w z => nomatch z) S
    exact ⟨a, q _ _ _ _ _ (pk Dl) S'⟩
  · refine .inr ?_
    refine hw.go i σ G1 H d o kvs ks (fpe e1) _ h1 hH hk (notIn R1 hd) fun J W => ?_
    intro Dl hD
    exact lc_snd hg hws hc hb R1 exNo W p1.1 p1.2 hD fun acc e' G' H' pk S => q _ _ _ _ _ (pk Dl) S
theorem snd_setLcD {wi : Nat → TI} {f : List (Key × D) → List D} {i y : Nat} {g : TG} {t : WG} {ws vs : List Nat} {tt : TT} {c : WT} {te : TE} {b : WE} (hw : DWk K wi f) (hg : SndG K g t ws) (hws : ∀ i ∈ ws, i ∈ vs) (hc : SndT K tt c) (hb : SndE K te b) :
    SndS K (tLk (tAsg (tLc (wi i) g tt te vs) (gName y))) (vSet y (vLcD i f t c b vs)) := fun φ e σ G H x pd D R X p E => by
  obtain ⟨d, kvs, ks, e1, G1, h1, hd, hk, R1, p1⟩ := dct_open (post := fun ks e1 => (f ks).length < sizeLine ∧ lcL noX t c b vs (f ks) [] (wipeE e1 vs) fun acc e2 => ∀ p, pd.nx (e2.set y (some (.ls p acc)))) R X p
  rcases R1.sub d _ hd with hH | ⟨o, hH⟩
  · refine .inl ⟨d, _, hH, trivial, fun od => ?_⟩
    have R2 := R1.lock (od := od) hd hH (fun o w z => nomatch z)
    refine hw.go i σ G1 _ d od kvs ks (fpe e1) _ h1 upd_same hk (notIn R1 hd) fun J W => ?_
    intro Dl hD
    refine lc_snd hg hws hc hb R2 exNo W p1.1 p1.2 hD fun acc e' G' H' pk S => ?_
    obtain ⟨a, S'⟩ := R1.unlock hd hH (fun o w z => nomatch z) S
    exact ⟨a, E.nx _ _ _ _ (pk Dl) (S'.putin y)⟩
  · refine .inr ?_
    refine hw.go i σ G1 H d o kvs ks (fpe e1) _ h1 hH hk (notIn R1 hd) fun J W => ?_
    intro Dl hD
    exact lc_snd hg hws hc hb R1 exNo W p1.1 p1.2 hD fun acc e' G' H' pk S => E.nx _ _ _ _ (pk Dl) (S.putin y)
end
section
variable {X : Cx} {tg iter elt : Expr} {ifs : List Expr} {body : List Stmt} {wi : Nat → TI} {f : List (Key × D) → List D} {i y : Nat} {g : TG} {t : WG} {ws : List Nat} {tb : TS} {b : WS} {pos spos py : Pos} {scope : Scope} {own : List (Str × Nat)} {tt : TT} {c : WT} {te : TE} {be : WE} {yn : Str}
theorem vs_forD (hp : PassesOwn (model X.prog X.w) X.A X.env X.xe) (hc : X.calm = true) (hi : PI X tg iter (wi i)) (hw : DWk X.K wi f) (hg : VG X tg g t ws) (hb : VSs X body tb b) (hs : ∀ x, foldedSetIterable iter X.env x = pure x := by intro _; rfl) :
    VS X (.For tg iter body [] pos) (tLk (tFor (wi i) g tb)) (vForD i f t b) := ⟨ps_lk (ps_for hp hc hi hg.pg hb.ps hs), snd_forD hw hg.snd hb.snd⟩
theorem ve_lcDk (hc : X.calm = true) (hN : X.N.Nodup) (hi : PI X tg iter (wi i)) (hwk : DWk X.K wi f) (ok : BlkOk X.N X.env.scope scope own) (hg0 : VG (Cx.b0 X scope) tg g t ws) (ht0 : VTs (Cx.b0 X scope) ifs tt c) (he0 : VE (Cx.b0 X scope) elt te be)
    (hg : ∀ (s : Shared) (H : Hp) (C : Addr) (cl : List (Str × Addr)) (fp : List Addr), VG (X.blk s H scope (compEnvC scope cl C X.env) fp) tg g t ws) (hw : ∀ i ∈ ws, i ∈ own.map (·.2))
    (ht : ∀ (s : Shared) (H : Hp) (C : Addr) (cl : List (Str × Addr)) (fp : List Addr), VTs (X.blk s H scope (compEnvC scope cl C X.env) fp) ifs tt c)
    (he : ∀ (s : Shared) (H : Hp) (C : Addr) (cl : List (Str × Addr)) (fp : List Addr), VE (X.blk s H scope (compEnvC scope cl C X.env) fp) elt te be) (hs : ∀ x, foldedSetIterable iter X.env x = pure x := by intro _; rfl) :
    VE X (.ListComp elt [⟨tg, iter, ifs, 0⟩] scope pos) (tLkE (tLc (wi i) g tt te (own.map (·.2)))) (vLcD i f t c be (own.map (·.2))) :=
  ⟨pe_lk (pe_lc hc hN hi ok (fun s H C cl fp => (hg s H C cl fp).pg) (fun s H C cl fp => (ht s H C cl fp).pts) (fun s H C cl fp => (he s H C cl fp).pe) hs),
    snd_lcD hwk (hg X.s_0 X.H_0 0 [] []).snd hw (ht X.s_0 X.H_0 0 [] []).snd (he X.s_0 X.H_0 0 [] []).snd⟩
theorem vs_setLcDk (hc : X.calm = true) (hN : X.N.Nodup) (hy : X.N[y]? = some yn) (hyl : X.env.scope.names.lookup yn = some .local) (hsw : swapsWith (.ListComp elt [⟨tg, iter, ifs, 0⟩] scope pos) (some (.Name yn py)) spos.line X.env = pure true)
    (hi : PI X tg iter (wi i)) (hwk : DWk X.K wi f) (ok : BlkOk X.N X.env.scope scope own) (hg0 : VG (Cx.b0 X scope) tg g t ws) (ht0 : VTs (Cx.b0 X scope) ifs tt c) (he0 : VE (Cx.b0 X scope) elt te be)
    (hg : ∀ (s : Shared) (H : Hp) (C : Addr) (cl : List (Str × Addr)) (fp : List Addr), VG (X.blk s H scope (compEnvC scope cl C X.env) fp) tg g t ws) (hw : ∀ i ∈ ws, i ∈ own.map (·.2))
    (ht : ∀ (s : Shared) (H : Hp) (C : Addr) (cl : List (Str × Addr)) (fp : List Addr), VTs (X.blk s H scope (compEnvC scope cl C X.env) fp) ifs tt c)
    (he : ∀ (s : Shared) (H : Hp) (C : Addr) (cl : List (Str × Addr)) (fp : List Addr), VE (X.blk s H scope (compEnvC scope cl C X.env) fp) elt te be) (hs : ∀ x, foldedSetIterable iter X.env x = pure x := by intro _; rfl) :
    VS X (.Assign [.Name yn py] (.ListComp elt [⟨tg, iter, ifs, 0⟩] scope pos) spos) (tLk (tAsg (tLc (wi i) g tt te (own.map (·.2))) (gName y))) (vSet y (vLcD i f t c be (own.map (·.2)))) :=
  ⟨ps_lk (ps_setLc hc hN hy hyl hsw hi ok (fun s H C cl fp => (hg s H C cl fp).pg) (fun s H C cl fp => (ht s H C cl fp).pts) (fun s H C cl fp => (he s H C cl fp).pe) hs),
    snd_setLcD hwk (hg X.s_0 X.H_0 0 [] []).snd hw (ht X.s_0 X.H_0 0 [] []).snd (he X.s_0 X.H_0 0 [] []).snd⟩
end
end Vl

namespace Vl
open PySem PySem.Spec PyProof.Rows L2

/-! ### d.get(k), d.get(k, x) -/
def vGet1 (qa : WQ) (b : WE) : WE := fun x e post => qa x e fun q e1 => (onO q e1 fun o => onDct o fun _ => True) ∧ b x e1 fun ok e2 => onO q e2 fun o => onDct o fun ks => onKey ok fun k => post (.pu ((lookK ks k).getD .non)) e2
def vGet2 (qa : WQ) (b c : WE) : WE := fun x e post => qa x e fun q e1 => (onO q e1 fun o => onDct o fun _ => True) ∧ b x e1 fun ok e2 => c x e2 fun oz e3 => onO q e3 fun o => onDct o fun ks => onKey ok fun k => post (.pu ((lookK ks k).getD oz.toD)) e3
section
variable {K : PySem.W.Frag}
theorem get_in {G H : Hp} {o : O} {v : V} {ks : List (Key × D)} {ok : O} {u : V} {k : Key} (s : Sub G H) (a : OAt K G H o v) (ho : o = .pu (.dct ks) ∨ ∃ p, o = .dc p ks) (b : OAt K G H ok u) (hk : oKey ok = some k) :
    ∃ d w, v = .ref d ∧ DGet H d u w ∧ ∀ (z : D) (y : V), Rp K G z y → Rp K G ((lookK ks k).getD z) (w.getD y) := by
  obtain ⟨d, vs, rfl, hs, hv⟩ := a.dct s ho
  have z := Rpk.look ks vs k hv
  refine ⟨d, valV vs k, rfl, .inl ⟨vs, k, hs, oKey_V b hk, rfl⟩, fun dz y r => ?_⟩
  cases hl : lookK ks k with
  | none =>
    rw [hl] at z
    rw [z]
    exact r
  | some d0 =>
    rw [hl] at z
    obtain ⟨v0, e0, r0⟩ := z
    rw [e0]
    exact r0
theorem isD_of {G H : Hp} {o : O} {v : V} {ks : List (Key × D)} (s : Sub G H) (a : OAt K G H o v) (ho : o = .pu (.dct ks) ∨ ∃ p, o = .dc p ks) : ∃ d, v = .ref d ∧ IsD H d := by
  obtain ⟨d, vs, rfl, hs, _⟩ := a.dct s ho
  exact ⟨d, rfl, .inl ⟨vs, hs⟩⟩
theorem snd_get1 {ta tb : TE} {qa : WQ} {b : WE} (ha : SndQ K ta qa) (hb : SndE K tb b) : SndE K (tDGet1 ta tb) (vGet1 qa b) := fun φ e σ G H x post Q R X t q => by
  refine ha φ e σ G H x _ _ R X t fun q1 e1 v1 G1 H1 p1 R1 k1 => ?_
  obtain ⟨o0, g0, c0⟩ := onO_iff.mp p1.1
  obtain ⟨ks0, ho0, _⟩ := onDct_iff.mp c0
  obtain ⟨d, ed, isd⟩ := isD_of R1.sub (R1.opnd k1 g0) ho0
  refine ⟨d, ed, isd, ?_⟩
  have F := Rel.frame (ts := [q1.slot]) (vs := [some v1]) R1 rfl
  refine hb _ e1 σ G1 H1 x _ _ F.1 (ExOk.frame (ts := [q1.slot]) (vs := [some v1]) X R1 rfl) p1.2 fun ok e2 u G2 H2 p2 R2 => ?_
  have R3 : Rel K φ (q1.slot :: some ok :: e2) (some v1 :: some u :: σ) G2 H2 := F.2 _ _ _ _ R2
  obtain ⟨o, g, p3⟩ := onO_iff.mp p2
  obtain ⟨ks, ho, p4⟩ := onDct_iff.mp p3
  obtain ⟨k, hk, p5⟩ := onKey_iff.mp p4
  have S := R3.swap
  have a1 := Rel.opnd S.tail k1 g
  obtain ⟨d', w, ed', dg, rr⟩ := get_in S.sub a1 ho S.headOAt hk
  rw [ed] at ed'
  cases ed'
  exact ⟨w, dg, q _ e2 _ G2 H2 p5 (S.tail.tail.consPu (rr .non .non rp_non))⟩
theorem snd_get2 {ta tb tc : TE} {qa : WQ} {b c : WE} (ha : SndQ K ta qa) (hb : SndE K tb b) (hc : SndE K tc c) : SndE K (tDGet2 ta tb tc) (vGet2 qa b c) := fun φ e σ G H x post Q R X t q => by
  refine ha φ e σ G H x _ _ R X t fun q1 e1 v1 G1 H1 p1 R1 k1 => ?_
  obtain ⟨o0, g0, c0⟩ := onO_iff.mp p1.1
  obtain ⟨ks0, ho0, _⟩ := onDct_iff.mp c0
  obtain ⟨d, ed, isd⟩ := isD_of R1.sub (R1.opnd k1 g0) ho0
  refine ⟨d, ed, isd, ?_⟩
  have F := Rel.frame (ts := [q1.slot]) (vs := [some v1]) R1 rfl
  refine hb _ e1 σ G1 H1 x _ _ F.1 (ExOk.frame (ts := [q1.slot]) (vs := [some v1]) X R1 rfl) p1.2 fun ok e2 u G2 H2 p2 R2 => ?_
  have F2 := Rel.frame (ts := [some ok]) (vs := [some u]) R2 rfl
  refine hc _ e2 σ G2 H2 x _ _ F2.1 (ExOk.frame (ts := [some ok]) (vs := [some u]) (ExOk.frame (ts := [q1.slot]) (vs := [some v1]) X R1 rfl) R2 rfl) p2 fun oz e3 y G3 H3 p3 R3 => ?_
  obtain ⟨G4, R4, _⟩ := R3.freeze
  have R5 : Rel K φ (q1.slot :: some ok :: some (.pu oz.toD) :: e3) (some v1 :: some u :: some y :: σ) G4 H3 := F.2 _ _ _ _ (F2.2 _ _ _ _ R4)
  obtain ⟨o, g, p4⟩ := onO_iff.mp p3
  obtain ⟨ks, ho, p5⟩ := onDct_iff.mp p4
  obtain ⟨k, hk, p6⟩ := onKey_iff.mp p5
  have S := R5.swap
  have S2 := S.tail.swap
  have a1 := Rel.opnd S2.tail k1 g
  obtain ⟨d', w, ed', dg, rr⟩ := get_in S.sub a1 ho S.headOAt hk
  rw [ed] at ed'
  cases ed'
  exact ⟨w, dg, q _ e3 _ G4 H3 p6 (S2.tail.tail.consPu (rr _ _ S2.headRp))⟩
end
section
variable {X : Cx} {o e f : Expr} {apos cpos : Pos} {ta tb tc : TE} {qa : WQ} {b c : WE}
theorem ve_get1 (hu : X.A.units + 1 < cLine) (ho : VQ X o ta qa) (he : VE X e tb b) (hb : attributeBase o "get" X.env (eval o X.env) = eval o X.env := by rfl)
    (hf : ((backTo cpos (starEach [e] X.env)).all (fun x => !x.1) && (backToKw cpos (keywordEach [] X.env)).all (fun x => x.1.isSome) && decide (([e] : List Expr).length + ([] : List Keyword).length + (if ([] : List Keyword).isEmpty then 0 else 1) < 30)) = true := by rfl)
    (hl : (apos.endLine == cpos.line) = true := by rfl) (ht : backTo cpos (starEach [e] X.env) = [(false, eval e X.env)] := by rfl) : VE X (.Call (.Attribute o "get" apos) [e] [] cpos) (tDGet1 ta tb) (vGet1 qa b) := ⟨pe_dget1 hu ho.pe he.pe ⟨hb, hf, hl, ht⟩, snd_get1 ho.snd he.snd⟩
theorem ve_get2 (hu : X.A.units + 1 < cLine) (ho : VQ X o ta qa) (he : VE X e tb b) (hx : VE X f tc c) (hb : attributeBase o "get" X.env (eval o X.env) = eval o X.env := by rfl)
    (hf : ((backTo cpos (starEach [e, f] X.env)).all (fun x => !x.1) && (backToKw cpos (keywordEach [] X.env)).all (fun x => x.1.isSome) && decide (([e, f] : List Expr).length + ([] : List Keyword).length + (if ([] : List Keyword).isEmpty then 0 else 1) < 30)) = true := by rfl)
    (hl : (apos.endLine == cpos.line) = true := by rfl) (ht : backTo cpos (starEach [e, f] X.env) = [(false, eval e X.env), (false, eval f X.env)] := by rfl) : VE X (.Call (.Attribute o "get" apos) [e, f] [] cpos) (tDGet2 ta tb tc) (vGet2 qa b c) := ⟨pe_dget2 hu ho.pe he.pe hx.pe ⟨hb, hf, hl, ht⟩, snd_get2 ho.snd he.snd hx.snd⟩
end
/-! ### zip(a, b) -/
def kZip (post : List D → Env → Prop) (ds : List D) (e : Env) : Prop := match ds with
  | [.lst xs, .lst ys] => post ((xs.zip ys).map fun p => D.tup [p.1, p.2]) e
  | _ => False
def wZip (a : WP) : WI := fun x e post => a x e (kZip post)
theorem snd_iZip {K : PySem.W.Frag} {ta : TA} {a : WP} (h : SndP K ta a) : SndI K (iZip K ta) (wZip a) := fun φ e σ G H x post Q R X t q => by
  refine h φ e σ G H x _ _ R X t fun ds e1 vs G1 H1 p R1 hs => ?_
  unfold kZip at p
  split at p
  · unfold Rps at hs
    obtain ⟨v, r, rfl, rv, hs2⟩ := hs
    obtain ⟨u, rfl, ru⟩ := hs2.un1
    unfold Rp at rv ru
    obtain ⟨l, ws, rfl, hl, hw⟩ := rv
    obtain ⟨l2, ws2, rfl, hl2, hw2⟩ := ru
    exact ⟨l, l2, ws, ws2, rfl, R1.sub.sqL hl, R1.sub.sqL hl2, q _ e1 _ G1 H1 p R1 (walk_zip hl hw hl2 hw2)⟩
  · exact p.elim
theorem vi_zip {X : Cx} {e e2 : Expr} {ta : TA} {wp : WP} {p pos tpos : Pos} {elts : List Expr} {kk : Nat} (hg : Gl X "zip") (hm : X.mg "zip" = none) (ha : VP X [e, e2] ta wp)
    (hs : starEach [e, e2] X.env = (false, eval e X.env) :: starEach [e2] X.env := by rfl) (hpl : (backTo pos (starEach [e2] X.env)).any (·.1) = false := by rfl) :
    VI X (.Tuple elts kk tpos) (.Call (.Name "zip" p) [e, e2] [] pos) (iZip X.K ta) (wZip wp) := ⟨pi_zip hg hm ha.pa hs hpl, snd_iZip ha.snd⟩
def kForD (f : List (Key × D) → List D) (t : WG) (b : WS) (pd : Pd) (o : O) (e : Env) : Prop := onDct o fun ks => forL noX t b pd (f ks) e
def kLcD (f : List (Key × D) → List D) (t : WG) (c : WT) (b : WE) (vs : List Nat) (post : O → Env → Prop) (o : O) (e : Env) : Prop := onDct o fun ks => (f ks).length < sizeLine ∧ lcL noX t c b vs (f ks) [] (wipeE e vs) (kLc2 post)
def kGet1c (post : O → Env → Prop) (e : Env) (ok o : O) : Prop := onDct o fun ks => onKey ok fun k => post (.pu ((lookK ks k).getD .non)) e
def kGet1b (q : Opnd) (post : O → Env → Prop) (ok : O) (e : Env) : Prop := onO q e (kGet1c post e ok)
def isDo (o : O) : Prop := onDct o fun _ => True
def kGet1 (b : WE) (x : XP) (post : O → Env → Prop) (q : Opnd) (e : Env) : Prop := onO q e isDo ∧ b x e (kGet1b q post)
def kGet2d (post : O → Env → Prop) (e : Env) (ok oz o : O) : Prop := onDct o fun ks => onKey ok fun k => post (.pu ((lookK ks k).getD oz.toD)) e
def kGet2c (q : Opnd) (ok : O) (post : O → Env → Prop) (oz : O) (e : Env) : Prop := onO q e (kGet2d post e ok oz)
def kGet2b (c : WE) (x : XP) (q : Opnd) (post : O → Env → Prop) (ok : O) (e : Env) : Prop := c x e (kGet2c q ok post)
def kGet2 (b c : WE) (x : XP) (post : O → Env → Prop) (q : Opnd) (e : Env) : Prop := onO q e isDo ∧ b x e (kGet2b c x q post)
theorem e_forD {i : Nat} {f : List (Key × D) → List D} {t : WG} {b : WS} {x : XP} {pd : Pd} {e : Env} : vForD i f t b x pd e = vVar i x e (kForD f t b pd) := rfl
theorem e_kforD {f : List (Key × D) → List D} {t : WG} {b : WS} {pd : Pd} {ks : List (Key × D)} {e : Env} : kForD f t b pd (.pu (.dct ks)) e = forL noX t b pd (f ks) e := rfl
theorem e_lcD {i : Nat} {f : List (Key × D) → List D} {t : WG} {c : WT} {b : WE} {vs : List Nat} {x : XP} {e : Env} {post : O → Env → Prop} : vLcD i f t c b vs x e post = vVar i x e (kLcD f t c b vs post) := rfl
theorem e_klcD {f : List (Key × D) → List D} {t : WG} {c : WT} {b : WE} {vs : List Nat} {e : Env} {post : O → Env → Prop} {ks : List (Key × D)} : kLcD f t c b vs post (.pu (.dct ks)) e = ((f ks).length < sizeLine ∧ lcL noX t c b vs (f ks) [] (wipeE e vs) (kLc2 post)) := rfl
theorem e_get1 {qa : WQ} {b : WE} {x : XP} {e : Env} {post : O → Env → Prop} : vGet1 qa b x e post = qa x e (kGet1 b x post) := rfl
theorem e_kget1 {b : WE} {x : XP} {post : O → Env → Prop} {q : Opnd} {e : Env} : kGet1 b x post q e = (onO q e isDo ∧ b x e (kGet1b q post)) := rfl
theorem e_isDo1 {ks : List (Key × D)} : isDo (.pu (.dct ks)) = True := rfl
theorem e_isDo2 {p : Addr} {ks : List (Key × D)} : isDo (.dc p ks) = True := rfl
theorem e_kget1b {q : Opnd} {post : O → Env → Prop} {ok : O} {e : Env} : kGet1b q post ok e = onO q e (kGet1c post e ok) := rfl
theorem e_kget1c1  {post : O → Env → Prop} {e : Env} {s : Str} {ks : List (Key × D)} : kGet1c post e (.pu (.str s)) (.pu (.dct ks)) = post (.pu ((lookK ks (.inr s)).getD .non)) e := rfl
theorem e_kget1c2  {p : Addr} {post : O → Env → Prop} {e : Env} {s : Str} {ks : List (Key × D)} : kGet1c post e (.pu (.str s)) (.dc p ks) = post (.pu ((lookK ks (.inr s)).getD .non)) e := rfl
theorem e_get2 {qa : WQ} {b c : WE} {x : XP} {e : Env} {post : O → Env → Prop} : vGet2 qa b c x e post = qa x e (kGet2 b c x post) := rfl
theorem e_kget2 {b c : WE} {x : XP} {post : O → Env → Prop} {q : Opnd} {e : Env} : kGet2 b c x post q e = (onO q e isDo ∧ b x e (kGet2b c x q post)) := rfl
theorem e_kget2b {c : WE} {x : XP} {q : Opnd} {post : O → Env → Prop} {ok : O} {e : Env} : kGet2b c x q post ok e = c x e (kGet2c q ok post) := rfl
theorem e_kget2c {q : Opnd} {ok oz : O} {post : O → Env → Prop} {e : Env} : kGet2c q ok post oz e = onO q e (kGet2d post e ok oz) := rfl
theorem e_kget2d1  {post : O → Env → Prop} {e : Env} {oz : O} {s : Str} {ks : List (Key × D)} : kGet2d post e (.pu (.str s)) oz (.pu (.dct ks)) = post (.pu ((lookK ks (.inr s)).getD oz.toD)) e := rfl
theorem e_kget2d2  {p : Addr} {post : O → Env → Prop} {e : Env} {oz : O} {s : Str} {ks : List (Key × D)} : kGet2d post e (.pu (.str s)) oz (.dc p ks) = post (.pu ((lookK ks (.inr s)).getD oz.toD)) e := rfl
theorem e_zip {a : WP} {x : XP} {e : Env} {post : List D → Env → Prop} : wZip a x e post = a x e (kZip post) := rfl
theorem e_kzip {xs ys : List D} {e : Env} {post : List D → Env → Prop} : kZip post [.lst xs, .lst ys] e = post ((xs.zip ys).map fun p => D.tup [p.1, p.2]) e := rfl
end Vl

namespace Vl
open PySem PySem.Spec PyProof.Rows L2

/-! ### list.count of texts -/
def eqT (k : Str) (v : Value) : Bool := match v with
  | .str n _ => decide (n = k)
  | _ => false
theorem eqT_count {k : Str} : ∀ {us : List Value} {ns : List Str}, StrsAre us ns → us.countP (eqT k) = ns.countP fun n => decide (n = k)
  | _, _, .nil => rfl
  | _, _, .cons n t h => by
    have ih := eqT_count (k := k) h
    rw [List.countP_cons, List.countP_cons, ih]
    rfl
theorem eqT_at {k : Str} {t : Tok} {A : Around} {s : Shared} : ∀ {us : List Value} {ns : List Str}, StrsAre us ns → ∀ y ∈ us, SeqAt.EqAt A s y (.str k t) (eqT k y)
  | _, _, .nil => fun y hy => by cases hy
  | _, _, .cons n t' h => fun y hy => by
    rcases List.mem_cons.mp hy with e | e
    · rw [e]
      have := SeqAt.EqAt.str_str (A := A) (s := s) n t' k t
      unfold eqT
      first
        | exact this
        | (have e2 : (n == k) = decide (n = k) := by by_cases h : n = k <;> simp [h]
           rw [e2] at this
           exact this)
    · exact eqT_at h y e
def rCntS (K : PySem.W.Frag) : V → List V → Hp → VK → Prop := fun x xs H Q => ∃ (p : Addr) (ns : List Str) (k : Str), x = .ref p ∧ xs = [.str k] ∧ SqL K H p (ns.map V.str) ∧ Q (.int (ns.countP fun n => decide (n = k))) H
theorem mt_countS {X : Cx} : MtR X "list.count" (rCntS X.K) := by
  intro pins s σ H x xs v us Q I rx rxs h
  obtain ⟨p, ns, k, rfl, rfl, hs, q⟩ := h
  cases rx
  obtain ⟨u, rfl, ru⟩ := rxs.one
  obtain ⟨t, rfl⟩ := ru
  obtain ⟨its, rv, ⟨⟨cls, dd, data, sl⟩, n, ho, hc, hdn, hd⟩, hlen⟩ := I.list hs
  simp only at hc hd
  subst hc hd
  have hi := strs_of_vals rv
  refine call_meets PySem.F.slot_list_count ⟨_, ho, rfl⟩ PySem.F.entry_list_count (PySem.F.args_list_count_2 _ _)
    (SeqAt.list_countAt p its.toArray n dd sl (.str k t) (eqT k)) ⟨ho, fun y hy => eqT_at hi y (by simpa using hy), ?_⟩
  have ec : its.toArray.toList.countP (eqT k) = ns.countP fun n => decide (n = k) := eqT_count hi
  refine ⟨.int ((ns.countP fun n => decide (n = k) : Nat) : Int), H, I.tok _, ⟨s.toks, ?_⟩, q⟩
  show Value.int ((its.toArray.toList.countP (eqT k) : Nat) : Int) s.toks = _
  rw [ec]
def gCountS : GM := fun o os post => onLst o fun ds => on1 os fun a => onS a fun k => onOpt (dStrs ds) fun ns => post (.pu (.int ((ns.countP fun n => decide (n = k) : Nat) : Int)))
theorem sr_countS {K : PySem.W.Frag} : SndRM K (rCntS K) gCountS := fun φ e σ G H o v os vs post Q R a z p q => by
  unfold gCountS at p
  obtain ⟨ds, ho, p1⟩ := onLst_iff.mp p
  obtain ⟨b, rfl, p2⟩ := on1_iff.mp p1
  obtain ⟨k, rfl, p3⟩ := onS_iff.mp p2
  obtain ⟨ns, hn, p4⟩ := onOpt_iff.mp p3
  have e0 := dStrs_eq hn
  subst e0
  cases z with
  | cons c d =>
    cases d
    obtain ⟨l, ws, rfl, hs, hv⟩ := a.lst R.sub ho
    have hw : ws = ns.map V.str := by
      have : ∀ (ns : List Str) (ws : List V), Rps K G (ns.map D.str) ws → ws = ns.map V.str := fun ns => by
        induction ns with
        | nil => intro ws h; unfold Rps at h; exact h
        | cons n r ih =>
          intro ws h
          rw [List.map_cons] at h
          unfold Rps at h
          obtain ⟨v, t, rfl, rv, rt⟩ := h
          unfold Rp at rv
          rw [ih t rt, rv]
          rfl
      exact this ns ws hv
    subst hw
    exact ⟨l, ns, k, rfl, by rw [c.str], hs, q _ _ G H p4 (R.consPu rp_int)⟩
theorem e_gCount1 {ds : List D} {k : Str} {post : O → Prop} : gCountS (.pu (.lst ds)) [.pu (.str k)] post = onOpt (dStrs ds) fun ns => post (.pu (.int ((ns.countP fun n => decide (n = k) : Nat) : Int))) := rfl
theorem e_gCount2 {q : Addr} {ds : List D} {k : Str} {post : O → Prop} : gCountS (.ls q ds) [.pu (.str k)] post = onOpt (dStrs ds) fun ns => post (.pu (.int ((ns.countP fun n => decide (n = k) : Nat) : Int))) := rfl
end Vl

namespace Vl
open PySem PySem.Spec PyProof.Rows L2

/-! ### dict(pairs) -/
def dPairs : List D → Option (List (Key × D))
  | [] => some []
  | .tup [k, v] :: r => match dKey k, dPairs r with
    | some y, some t => some ((y, v) :: t)
    | _, _ => none
  | _ :: _ => none
def mergeD (ks more : List (Key × D)) : List (Key × D) := more.foldl (fun acc kv => putD acc kv.1 kv.2) ks
theorem Rpk.mergeP {K : PySem.W.Frag} {G : Hp} : ∀ (ms : List (Key × D)) (mv : List (Key × V)) (ks : List (Key × D)) (vs : List (Key × V)), Rpk K G ms mv → Rpk K G ks vs → Rpk K G (mergeD ks ms) (mergeK vs mv)
  | [], _, ks, vs, h, r => by unfold Rpk at h; subst h; exact r
  | (k, d) :: ms, _, ks, vs, h, r => by
    unfold Rpk at h
    obtain ⟨v, t, rfl, a, b⟩ := h
    show Rpk K G (mergeD (putD ks k d) ms) (mergeK (putK vs k v) t)
    exact Rpk.mergeP ms t _ _ b (Rpk.put r a)
theorem dKey_V {K : PySem.W.Frag} {G : Hp} {d : D} {v : V} {k : Key} (h : Rp K G d v) (e : dKey d = some k) : v = kV k := by
  cases d with
  | int i => cases e; unfold Rp at h; exact h
  | str i => cases e; unfold Rp at h; exact h
  | _ => cases e
theorem dPairs_at {K : PySem.W.Frag} {G H : Hp} (s : Sub G H) : ∀ (ds : List D) (kvs : List (Key × D)) (vs : List V), dPairs ds = some kvs → Rps K G ds vs → ∃ (ps : List Addr) (mv : List (Key × V)), vs = ps.map V.ref ∧ Paired (fun p kv => SqT K H p [kV kv.1, kv.2]) ps mv ∧ Rpk K G kvs mv
  | [], kvs, vs, e, h => by
    cases e
    unfold Rps at h
    subst h
    exact ⟨[], [], rfl, .nil, by unfold Rpk; rfl⟩
  | .tup [k, v] :: r, kvs, vs, e, h => by
    unfold dPairs at e
    split at e
    · rename_i y t hy ht
      cases e
      unfold Rps at h
      obtain ⟨w, ws, rfl, hw, hr⟩ := h
      obtain ⟨ps, mv, rfl, hp, hk⟩ := dPairs_at s r t ws ht hr
      unfold Rp at hw
      obtain ⟨a, us, rfl, ha, hu⟩ := hw
      unfold Rps at hu
      obtain ⟨u1, us1, rfl, hu1, hu⟩ := hu
      obtain ⟨u2, rfl, hu2⟩ := hu.un1
      have ek := dKey_V hu1 hy
      subst ek
      refine ⟨a :: ps, (y, u2) :: mv, rfl, .cons (s.sqT ha) hp, ?_⟩
      unfold Rpk
      exact ⟨u2, mv, rfl, hu2, hk⟩
    · cases e
  | .non :: _, _, _, e, _ => by simp [dPairs] at e
  | .bl _ :: _, _, _, e, _ => by simp [dPairs] at e
  | .int _ :: _, _, _, e, _ => by simp [dPairs] at e
  | .str _ :: _, _, _, e, _ => by simp [dPairs] at e
  | .lst _ :: _, _, _, e, _ => by simp [dPairs] at e
  | .dct _ :: _, _, _, e, _ => by simp [dPairs] at e
  | .tup [] :: _, _, _, e, _ => by simp [dPairs] at e
  | .tup [_] :: _, _, _, e, _ => by simp [dPairs] at e
  | .tup (_ :: _ :: _ :: _) :: _, _, _, e, _ => by simp [dPairs] at e
def rDictP (K : PySem.W.Frag) : List V → Hp → VK → Prop := fun xs H Q => ∃ (a : Addr) (ps : List Addr) (kvs : List (Key × V)), xs = [.ref a] ∧ SqL K H a (ps.map V.ref) ∧ Paired (fun p kv => SqT K H p [kV kv.1, kv.2]) ps kvs ∧
    ∀ p, H p = none → Q (.ref p) (upd H p (.dK (mergeK [] kvs)))
def rDictA (K : PySem.W.Frag) : List V → Hp → VK → Prop := fun xs H Q => rDictD xs H Q ∨ rDictP K xs H Q
def gDictA : G1 := fun o post => match o with
  | .pu (.dct ks) => ∀ p, post (.dc p ks)
  | .dc _ ks => ∀ p, post (.dc p ks)
  | .pu (.lst ds) => onOpt (dPairs ds) fun kvs => ∀ p, post (.dc p (mergeD [] kvs))
  | .ls _ ds => onOpt (dPairs ds) fun kvs => ∀ p, post (.dc p (mergeD [] kvs))
  | _ => False
theorem call_dictA {X : Cx} (hc : X.calm = true) : CallR X (.type "dict") (rDictA X.K) := CallR.or call_dictDD (call_dictP hc)
theorem sr_dictA {K : PySem.W.Frag} : SndRN K (rDictA K) (g1 gDictA) := snd_g1 fun φ e σ G H o1 v1 post Q R a p q => by
  have key : ∀ ks, (o1 = .pu (.dct ks) ∨ ∃ p, o1 = .dc p ks) → (∀ p, post (.dc p ks)) → rDictA K [v1] H Q := fun ks ho p => by
    obtain ⟨a', vs, rfl, hs, hv⟩ := a.dct R.sub ho
    exact .inl ⟨a', vs, rfl, hs, fun p' hp => q _ _ _ _ (p p') (R.newDc hp hv)⟩
  have keyL : ∀ ds, (o1 = .pu (.lst ds) ∨ ∃ p, o1 = .ls p ds) → (onOpt (dPairs ds) fun kvs => ∀ p, post (.dc p (mergeD [] kvs))) → rDictA K [v1] H Q := fun ds ho p => by
    obtain ⟨kvs, hk, p⟩ := onOpt_iff.mp p
    obtain ⟨l, vs, rfl, hs, hv⟩ := a.lst R.sub ho
    obtain ⟨ps, mv, rfl, hp, hkv⟩ := dPairs_at R.sub ds kvs vs hk hv
    exact .inr ⟨l, ps, mv, rfl, hs, hp, fun p' hp' => q _ _ _ _ (p p') (R.newDc hp' (Rpk.mergeP _ _ _ _ hkv (by unfold Rpk; rfl)))⟩
  unfold gDictA at p
  split at p
  · exact key _ (.inl rfl) p
  · exact key _ (.inr ⟨_, rfl⟩) p
  · exact keyL _ (.inl rfl) p
  · exact keyL _ (.inr ⟨_, rfl⟩) p
  · exact p.elim
theorem e_gDictA1 {ks : List (Key × D)} {k : O → Prop} : gDictA (.pu (.dct ks)) k = ∀ p, k (.dc p ks) := rfl
theorem e_gDictA2 {p : Addr} {ks : List (Key × D)} {k : O → Prop} : gDictA (.dc p ks) k = ∀ p, k (.dc p ks) := rfl
theorem e_gDictA3 {ds : List D} {k : O → Prop} : gDictA (.pu (.lst ds)) k = onOpt (dPairs ds) fun kvs => ∀ p, k (.dc p (mergeD [] kvs)) := rfl
theorem e_gDictA4 {q : Addr} {ds : List D} {k : O → Prop} : gDictA (.ls q ds) k = onOpt (dPairs ds) fun kvs => ∀ p, k (.dc p (mergeD [] kvs)) := rfl
theorem e_gList5 {ks : List (Key × D)} {k : O → Prop} : gList (.pu (.dct ks)) k = ∀ p, k (.ls p (fKeys ks)) := by
  have : (ks.map fun kv => match kv.1 with | .inl i => D.int i | .inr x => D.str x) = fKeys ks := by
    unfold fKeys
    apply List.map_congr_left
    intro a _
    obtain ⟨k, d⟩ := a
    cases k <;> rfl
  show (∀ p, k (.ls p (ks.map fun kv => match kv.1 with | .inl i => D.int i | .inr x => D.str x))) = _
  rw [this]
theorem e_gList6 {q : Addr} {ks : List (Key × D)} {k : O → Prop} : gList (.dc q ks) k = ∀ p, k (.ls p (fKeys ks)) := e_gList5 (ks := ks) (k := k)
/-! ### plain facts on dicts -/
theorem put_new {ks : List (Key × D)} {k : Key} {d : D} (h : k ∉ ks.map (·.1)) : putD ks k d = ks ++ [(k, d)] := by
  unfold putD
  rw [if_neg]
  intro hc
  obtain ⟨x, hx, e⟩ := List.any_eq_true.mp hc
  exact h (List.mem_map.mpr ⟨x, hx, of_decide_eq_true e⟩)
theorem merge_nd : ∀ (ms ks : List (Key × D)), (((ks ++ ms).map (·.1)).Nodup) → mergeD ks ms = ks ++ ms
  | [], ks, _ => by rw [List.append_nil]; rfl
  | (k, d) :: ms, ks, h => by
    show mergeD (putD ks k d) ms = _
    have h1 : k ∉ ks.map (·.1) := by
      rw [List.map_append, List.nodup_append] at h
      intro hk
      exact h.2.2 k hk k (by simp) rfl
    rw [put_new h1, merge_nd ms _ (by simpa using h)]
    simp
/-! ### loops over lists of typed things -/
theorem forL_map {T : Type} {x : XP} {g : WG} {b : WS} {pd : Pd} (f : T → D) (ts : List T) (I : List T → List T → Env → Prop) (h0 : ∀ e, I ts [] e → pd.nx e)
    (hs : ∀ dn t tl e, dn ++ t :: tl = ts → I dn (t :: tl) e → ∀ F : Env → Prop, (∀ e', I (dn ++ [t]) tl e' → F e') → g (f t) e (kBody x b F pd)) {e : Env} (hi : I [] ts e) : forL x g b pd (ts.map f) e :=
  forL_ind (fun rest e => ∃ dn tl, dn ++ tl = ts ∧ rest = tl.map f ∧ I dn tl e)
    (fun e ⟨dn, tl, h1, h2, h3⟩ => by
      have : tl = [] := by simpa using h2.symm
      subst this
      rw [List.append_nil] at h1
      subst h1
      exact h0 e h3)
    (fun d r e ⟨dn, tl, h1, h2, h3⟩ F hF => by
      cases tl with
      | nil => cases h2
      | cons t tl =>
        rw [List.map_cons] at h2
        injection h2 with h2 h4
        subst h2 h4
        exact hs dn t tl e h1 h3 F fun e' h => hF e' ⟨dn ++ [t], tl, by simpa using h1, rfl, h⟩) _ _ ⟨[], ts, rfl, rfl, hi⟩
theorem lcL_map {T : Type} {x : XP} {g : WG} {c : WT} {b : WE} {vs : List Nat} {k : List D → Env → Prop} (f : T → D) (ts : List T) (I : List T → List T → List D → Env → Prop) (h0 : ∀ acc e, I ts [] acc e → k acc e)
    (hs : ∀ dn t tl acc e, dn ++ t :: tl = ts → I dn (t :: tl) acc e → ∀ F : List D → Env → Prop, (∀ acc' e', I (dn ++ [t]) tl acc' e' → F acc' e') → g (f t) e (kl1 x c b vs F acc)) {acc : List D} {e : Env} (hi : I [] ts acc e) : lcL x g c b vs (ts.map f) acc e k :=
  lcL_ind (fun rest acc e => ∃ dn tl, dn ++ tl = ts ∧ rest = tl.map f ∧ I dn tl acc e)
    (fun acc e ⟨dn, tl, h1, h2, h3⟩ => by
      have : tl = [] := by simpa using h2.symm
      subst this
      rw [List.append_nil] at h1
      subst h1
      exact h0 acc e h3)
    (fun d r acc e ⟨dn, tl, h1, h2, h3⟩ F hF => by
      cases tl with
      | nil => cases h2
      | cons t tl =>
        rw [List.map_cons] at h2
        injection h2 with h2 h4
        subst h2 h4
        exact hs dn t tl acc e h1 h3 F fun acc' e' h => hF acc' e' ⟨dn ++ [t], tl, by simpa using h1, rfl, h⟩) _ _ _ ⟨[], ts, rfl, rfl, hi⟩
/-- [h t for t in ts], nothing else changed -/
theorem lcL_all {T : Type} {x : XP} {g : WG} {c : WT} {b : WE} {vs : List Nat} {k : List D → Env → Prop} (f : T → D) (ts : List T) (h : T → D) {e : Env}
    (hs : ∀ t ∈ ts, ∀ (acc : List D) (F : List D → Env → Prop), F (acc ++ [h t]) e → g (f t) e (kl1 x c b vs F acc)) (hk : k (ts.map h) e) : lcL x g c b vs (ts.map f) [] e k :=
  lcL_map f ts (fun dn _ acc e' => acc = dn.map h ∧ e' = e) (fun acc e' ⟨h1, h2⟩ => by subst h1 h2; exact hk)
    (fun dn t tl acc e' h1 ⟨h2, h3⟩ F hF => by
      subst h2 h3
      exact hs t (by rw [← h1]; simp) _ F (hF _ _ ⟨by rw [List.map_append]; rfl, rfl⟩)) ⟨rfl, rfl⟩
/-- [h t for t in ts if p t] -/
theorem lcL_filter {T : Type} {x : XP} {g : WG} {c : WT} {b : WE} {vs : List Nat} {k : List D → Env → Prop} (f : T → D) (ts : List T) (p : T → Bool) (h : T → D) {e : Env}
    (hs : ∀ t ∈ ts, ∀ (acc : List D) (F : List D → Env → Prop), (p t = true → F (acc ++ [h t]) e) → (p t = false → F acc e) → g (f t) e (kl1 x c b vs F acc)) (hk : k ((ts.filter p).map h) e) : lcL x g c b vs (ts.map f) [] e k :=
  lcL_map f ts (fun dn _ acc e' => acc = (dn.filter p).map h ∧ e' = e) (fun acc e' ⟨h1, h2⟩ => by subst h1 h2; exact hk)
    (fun dn t tl acc e' h1 ⟨h2, h3⟩ F hF => by
      subst h2 h3
      refine hs t (by rw [← h1]; simp) _ F (fun c => hF _ _ ⟨?_, rfl⟩) (fun c => hF _ _ ⟨?_, rfl⟩)
      · rw [List.filter_append, List.map_append]
        simp [c]
      · rw [List.filter_append]
        simp [c]) ⟨rfl, rfl⟩
/-- for t in ts, ended early where ok t is false -/
theorem forL_test {T : Type} {x : XP} {g : WG} {b : WS} {pd : Pd} (f : T → D) (ts : List T) (ok : T → Bool) (E : Env → Prop) (h0 : ts.all ok = true → ∀ e, E e → pd.nx e)
    (hs : ∀ t ∈ ts, ∀ e, E e → ∀ F : Env → Prop, (ok t = true → ∀ e', E e' → F e') → (ok t = false → ts.all ok = false) → g (f t) e (kBody x b F pd)) {e : Env} (hi : E e) : forL x g b pd (ts.map f) e :=
  forL_map f ts (fun dn _ e => dn.all ok = true ∧ E e) (fun e h => h0 h.1 e h.2)
    (fun dn t tl e h1 ⟨h2, h3⟩ F hF => hs t (by rw [← h1]; simp) e h3 F (fun c e' h => hF e' ⟨by rw [List.all_append, h2]; simp [c], h⟩) (fun c => by rw [← h1, List.all_append, List.all_cons, c]; simp)) ⟨rfl, hi⟩
theorem script_items {ns : List Int} {d : D} {m : Int} (h : d ∈ ((cut (ns.map D.int) none (some m) ++ [D.int ((ns.map D.int).length : Nat)]).zipIdx.map fun p => D.tup [.int (p.2 : Nat), p.1])) : ∃ (k : Nat) (c : Int), d = .tup [.int k, .int c] := by
  obtain ⟨⟨x, j⟩, hx, rfl⟩ := List.mem_map.mp h
  have hx' := (List.mem_zipIdx hx).2.2
  have hmem : x ∈ cut (ns.map D.int) none (some m) ++ [D.int ((ns.map D.int).length : Nat)] := by
    rw [hx']
    exact List.getElem_mem _
  rcases List.mem_append.mp hmem with hm | hm
  · obtain ⟨n, _, rfl⟩ := List.mem_map.mp (cut_mem hm)
    exact ⟨_, _, rfl⟩
  · rw [List.mem_singleton.mp hm]
    exact ⟨_, _, rfl⟩
theorem gAll_map {p : Addr} {bs : List Bool} {k : O → Prop} : gAll (.ls p (bs.map D.bl)) k = k (.pu (.bl (bs.all id))) := by
  unfold gAll
  show (match dBls (bs.map D.bl) with | some ns => k (.pu (.bl (ns.all id))) | none => False) = _
  rw [dBls_map]
theorem gAny_map {p : Addr} {bs : List Bool} {k : O → Prop} : gAny (.ls p (bs.map D.bl)) k = k (.pu (.bl (bs.any id))) := by
  unfold gAny
  show (match dBls (bs.map D.bl) with | some ns => k (.pu (.bl (ns.any id))) | none => False) = _
  rw [dBls_map]
theorem cut_to {α : Type} (xs : List α) (k : Int) (h0 : 0 ≤ k) : cut xs none (some k) = xs.take k.toNat := by
  have e : k = (k.toNat : Int) := by omega
  unfold cut
  rw [HT.sIx_none, List.drop_zero]
  rw [e, HT.sIx_nat, Int.toNat_natCast, Nat.sub_zero]
  rw [List.take_eq_take_iff]
  omega
theorem en1 {e : Env} (h : e.length = 1) : ∃ x1 : Option O, e = [x1] := by
  match e, h with
  | [x1], _ => exact ⟨_, rfl⟩
theorem en2 {e : Env} (h : e.length = 2) : ∃ x1 x2 : Option O, e = [x1, x2] := by
  match e, h with
  | [x1, x2], _ => exact ⟨_, _, rfl⟩
theorem en3 {e : Env} (h : e.length = 3) : ∃ x1 x2 x3 : Option O, e = [x1, x2, x3] := by
  match e, h with
  | [x1, x2, x3], _ => exact ⟨_, _, _, rfl⟩
theorem en4 {e : Env} (h : e.length = 4) : ∃ x1 x2 x3 x4 : Option O, e = [x1, x2, x3, x4] := by
  match e, h with
  | [x1, x2, x3, x4], _ => exact ⟨_, _, _, _, rfl⟩
theorem en5 {e : Env} (h : e.length = 5) : ∃ x1 x2 x3 x4 x5 : Option O, e = [x1, x2, x3, x4, x5] := by
  match e, h with
  | [x1, x2, x3, x4, x5], _ => exact ⟨_, _, _, _, _, rfl⟩
theorem en6 {e : Env} (h : e.length = 6) : ∃ x1 x2 x3 x4 x5 x6 : Option O, e = [x1, x2, x3, x4, x5, x6] := by
  match e, h with
  | [x1, x2, x3, x4, x5, x6], _ => exact ⟨_, _, _, _, _, _, rfl⟩
theorem en7 {e : Env} (h : e.length = 7) : ∃ x1 x2 x3 x4 x5 x6 x7 : Option O, e = [x1, x2, x3, x4, x5, x6, x7] := by
  match e, h with
  | [x1, x2, x3, x4, x5, x6, x7], _ => exact ⟨_, _, _, _, _, _, _, rfl⟩
theorem en8 {e : Env} (h : e.length = 8) : ∃ x1 x2 x3 x4 x5 x6 x7 x8 : Option O, e = [x1, x2, x3, x4, x5, x6, x7, x8] := by
  match e, h with
  | [x1, x2, x3, x4, x5, x6, x7, x8], _ => exact ⟨_, _, _, _, _, _, _, _, rfl⟩
theorem en9 {e : Env} (h : e.length = 9) : ∃ x1 x2 x3 x4 x5 x6 x7 x8 x9 : Option O, e = [x1, x2, x3, x4, x5, x6, x7, x8, x9] := by
  match e, h with
  | [x1, x2, x3, x4, x5, x6, x7, x8, x9], _ => exact ⟨_, _, _, _, _, _, _, _, _, rfl⟩
theorem en10 {e : Env} (h : e.length = 10) : ∃ x1 x2 x3 x4 x5 x6 x7 x8 x9 x10 : Option O, e = [x1, x2, x3, x4, x5, x6, x7, x8, x9, x10] := by
  match e, h with
  | [x1, x2, x3, x4, x5, x6, x7, x8, x9, x10], _ => exact ⟨_, _, _, _, _, _, _, _, _, _, rfl⟩
theorem en11 {e : Env} (h : e.length = 11) : ∃ x1 x2 x3 x4 x5 x6 x7 x8 x9 x10 x11 : Option O, e = [x1, x2, x3, x4, x5, x6, x7, x8, x9, x10, x11] := by
  match e, h with
  | [x1, x2, x3, x4, x5, x6, x7, x8, x9, x10, x11], _ => exact ⟨_, _, _, _, _, _, _, _, _, _, _, rfl⟩
theorem en12 {e : Env} (h : e.length = 12) : ∃ x1 x2 x3 x4 x5 x6 x7 x8 x9 x10 x11 x12 : Option O, e = [x1, x2, x3, x4, x5, x6, x7, x8, x9, x10, x11, x12] := by
  match e, h with
  | [x1, x2, x3, x4, x5, x6, x7, x8, x9, x10, x11, x12], _ => exact ⟨_, _, _, _, _, _, _, _, _, _, _, _, rfl⟩
theorem en13 {e : Env} (h : e.length = 13) : ∃ x1 x2 x3 x4 x5 x6 x7 x8 x9 x10 x11 x12 x13 : Option O, e = [x1, x2, x3, x4, x5, x6, x7, x8, x9, x10, x11, x12, x13] := by
  match e, h with
  | [x1, x2, x3, x4, x5, x6, x7, x8, x9, x10, x11, x12, x13], _ => exact ⟨_, _, _, _, _, _, _, _, _, _, _, _, _, rfl⟩
theorem en14 {e : Env} (h : e.length = 14) : ∃ x1 x2 x3 x4 x5 x6 x7 x8 x9 x10 x11 x12 x13 x14 : Option O, e = [x1, x2, x3, x4, x5, x6, x7, x8, x9, x10, x11, x12, x13, x14] := by
  match e, h with
  | [x1, x2, x3, x4, x5, x6, x7, x8, x9, x10, x11, x12, x13, x14], _ => exact ⟨_, _, _, _, _, _, _, _, _, _, _, _, _, _, rfl⟩
theorem en15 {e : Env} (h : e.length = 15) : ∃ x1 x2 x3 x4 x5 x6 x7 x8 x9 x10 x11 x12 x13 x14 x15 : Option O, e = [x1, x2, x3, x4, x5, x6, x7, x8, x9, x10, x11, x12, x13, x14, x15] := by
  match e, h with
  | [x1, x2, x3, x4, x5, x6, x7, x8, x9, x10, x11, x12, x13, x14, x15], _ => exact ⟨_, _, _, _, _, _, _, _, _, _, _, _, _, _, _, rfl⟩
theorem en16 {e : Env} (h : e.length = 16) : ∃ x1 x2 x3 x4 x5 x6 x7 x8 x9 x10 x11 x12 x13 x14 x15 x16 : Option O, e = [x1, x2, x3, x4, x5, x6, x7, x8, x9, x10, x11, x12, x13, x14, x15, x16] := by
  match e, h with
  | [x1, x2, x3, x4, x5, x6, x7, x8, x9, x10, x11, x12, x13, x14, x15, x16], _ => exact ⟨_, _, _, _, _, _, _, _, _, _, _, _, _, _, _, _, rfl⟩
theorem en17 {e : Env} (h : e.length = 17) : ∃ x1 x2 x3 x4 x5 x6 x7 x8 x9 x10 x11 x12 x13 x14 x15 x16 x17 : Option O, e = [x1, x2, x3, x4, x5, x6, x7, x8, x9, x10, x11, x12, x13, x14, x15, x16, x17] := by
  match e, h with
  | [x1, x2, x3, x4, x5, x6, x7, x8, x9, x10, x11, x12, x13, x14, x15, x16, x17], _ => exact ⟨_, _, _, _, _, _, _, _, _, _, _, _, _, _, _, _, _, rfl⟩
theorem en18 {e : Env} (h : e.length = 18) : ∃ x1 x2 x3 x4 x5 x6 x7 x8 x9 x10 x11 x12 x13 x14 x15 x16 x17 x18 : Option O, e = [x1, x2, x3, x4, x5, x6, x7, x8, x9, x10, x11, x12, x13, x14, x15, x16, x17, x18] := by
  match e, h with
  | [x1, x2, x3, x4, x5, x6, x7, x8, x9, x10, x11, x12, x13, x14, x15, x16, x17, x18], _ => exact ⟨_, _, _, _, _, _, _, _, _, _, _, _, _, _, _, _, _, _, rfl⟩
theorem en19 {e : Env} (h : e.length = 19) : ∃ x1 x2 x3 x4 x5 x6 x7 x8 x9 x10 x11 x12 x13 x14 x15 x16 x17 x18 x19 : Option O, e = [x1, x2, x3, x4, x5, x6, x7, x8, x9, x10, x11, x12, x13, x14, x15, x16, x17, x18, x19] := by
  match e, h with
  | [x1, x2, x3, x4, x5, x6, x7, x8, x9, x10, x11, x12, x13, x14, x15, x16, x17, x18, x19], _ => exact ⟨_, _, _, _, _, _, _, _, _, _, _, _, _, _, _, _, _, _, _, rfl⟩
theorem en20 {e : Env} (h : e.length = 20) : ∃ x1 x2 x3 x4 x5 x6 x7 x8 x9 x10 x11 x12 x13 x14 x15 x16 x17 x18 x19 x20 : Option O, e = [x1, x2, x3, x4, x5, x6, x7, x8, x9, x10, x11, x12, x13, x14, x15, x16, x17, x18, x19, x20] := by
  match e, h with
  | [x1, x2, x3, x4, x5, x6, x7, x8, x9, x10, x11, x12, x13, x14, x15, x16, x17, x18, x19, x20], _ => exact ⟨_, _, _, _, _, _, _, _, _, _, _, _, _, _, _, _, _, _, _, _, rfl⟩
theorem en21 {e : Env} (h : e.length = 21) : ∃ x1 x2 x3 x4 x5 x6 x7 x8 x9 x10 x11 x12 x13 x14 x15 x16 x17 x18 x19 x20 x21 : Option O, e = [x1, x2, x3, x4, x5, x6, x7, x8, x9, x10, x11, x12, x13, x14, x15, x16, x17, x18, x19, x20, x21] := by
  match e, h with
  | [x1, x2, x3, x4, x5, x6, x7, x8, x9, x10, x11, x12, x13, x14, x15, x16, x17, x18, x19, x20, x21], _ => exact ⟨_, _, _, _, _, _, _, _, _, _, _, _, _, _, _, _, _, _, _, _, _, rfl⟩
theorem en22 {e : Env} (h : e.length = 22) : ∃ x1 x2 x3 x4 x5 x6 x7 x8 x9 x10 x11 x12 x13 x14 x15 x16 x17 x18 x19 x20 x21 x22 : Option O, e = [x1, x2, x3, x4, x5, x6, x7, x8, x9, x10, x11, x12, x13, x14, x15, x16, x17, x18, x19, x20, x21, x22] := by
  match e, h with
  | [x1, x2, x3, x4, x5, x6, x7, x8, x9, x10, x11, x12, x13, x14, x15, x16, x17, x18, x19, x20, x21, x22], _ => exact ⟨_, _, _, _, _, _, _, _, _, _, _, _, _, _, _, _, _, _, _, _, _, _, rfl⟩
theorem en23 {e : Env} (h : e.length = 23) : ∃ x1 x2 x3 x4 x5 x6 x7 x8 x9 x10 x11 x12 x13 x14 x15 x16 x17 x18 x19 x20 x21 x22 x23 : Option O, e = [x1, x2, x3, x4, x5, x6, x7, x8, x9, x10, x11, x12, x13, x14, x15, x16, x17, x18, x19, x20, x21, x22, x23] := by
  match e, h with
  | [x1, x2, x3, x4, x5, x6, x7, x8, x9, x10, x11, x12, x13, x14, x15, x16, x17, x18, x19, x20, x21, x22, x23], _ => exact ⟨_, _, _, _, _, _, _, _, _, _, _, _, _, _, _, _, _, _, _, _, _, _, _, rfl⟩
theorem en24 {e : Env} (h : e.length = 24) : ∃ x1 x2 x3 x4 x5 x6 x7 x8 x9 x10 x11 x12 x13 x14 x15 x16 x17 x18 x19 x20 x21 x22 x23 x24 : Option O, e = [x1, x2, x3, x4, x5, x6, x7, x8, x9, x10, x11, x12, x13, x14, x15, x16, x17, x18, x19, x20, x21, x22, x23, x24] := by
  match e, h with
  | [x1, x2, x3, x4, x5, x6, x7, x8, x9, x10, x11, x12, x13, x14, x15, x16, x17, x18, x19, x20, x21, x22, x23, x24], _ => exact ⟨_, _, _, _, _, _, _, _, _, _, _, _, _, _, _, _, _, _, _, _, _, _, _, _, rfl⟩
end Vl

namespace Vl
open PySem PySem.Spec PyProof.Rows L2

/-! ### data without dicts, as the library's data -/
mutual
def D.py : D → PyData
  | .non => .none
  | .bl b => .bool b
  | .int i => .int i
  | .str x => .str x
  | .lst ds => .list (D.pys ds)
  | .tup ds => .tuple (D.pys ds)
  | .dct _ => .none
  | .tupN _ => .none
  | .opq => .none
def D.pys : List D → List PyData
  | [] => []
  | d :: ds => d.py :: D.pys ds
end
theorem pys_map : ∀ ds : List D, D.pys ds = ds.map D.py
  | [] => by unfold D.pys; rfl
  | d :: ds => by unfold D.pys; rw [pys_map ds]; rfl
mutual
theorem py_inj : ∀ (a b : D), noD a = true → noD b = true → a.py = b.py → a = b
  | .non, b, h, k, e => by cases b <;> simp [D.py, noD] at e k ⊢
  | .bl _, b, h, k, e => by cases b <;> simp [D.py, noD] at e k ⊢ <;> exact e
  | .int _, b, h, k, e => by cases b <;> simp [D.py, noD] at e k ⊢ <;> exact e
  | .str _, b, h, k, e => by cases b <;> simp [D.py, noD] at e k ⊢ <;> exact e
  | .lst xs, b, h, k, e => by
    cases b with
    | lst ys =>
      simp only [D.py, PyData.list.injEq] at e
      unfold noD at h k
      rw [pys_inj xs ys h k e]
    | _ => simp [D.py, noD] at e k
  | .tup xs, b, h, k, e => by
    cases b with
    | tup ys =>
      simp only [D.py, PyData.tuple.injEq] at e
      unfold noD at h k
      rw [pys_inj xs ys h k e]
    | _ => simp [D.py, noD] at e k
  | .dct _, b, h, k, e => by simp [noD] at h
  | .tupN _, b, h, k, e => by simp [noD] at h
  | .opq, b, h, k, e => by simp [noD] at h
theorem pys_inj : ∀ (a b : List D), noDs a = true → noDs b = true → D.pys a = D.pys b → a = b
  | [], [], _, _, _ => rfl
  | [], _ :: _, _, _, e => by simp [D.pys] at e
  | _ :: _, [], _, _, e => by simp [D.pys] at e
  | x :: xs, y :: ys, h, k, e => by
    unfold noDs at h k
    simp only [D.pys, List.cons.injEq] at e
    have h' := Bool.and_eq_true_iff.mp h
    have k' := Bool.and_eq_true_iff.mp k
    rw [py_inj x y h'.1 k'.1 e.1, pys_inj xs ys h'.2 k'.2 e.2]
end
mutual
theorem py_plain : ∀ d : D, noD d = true → d.py.plain = true
  | .non, _ => by simp [D.py, PyData.plain]
  | .bl _, _ => by simp [D.py, PyData.plain]
  | .int _, _ => by simp [D.py, PyData.plain]
  | .str _, _ => by simp [D.py, PyData.plain]
  | .lst xs, h => by unfold noD at h; simp only [D.py, PyData.plain]; exact pys_plain xs h
  | .tup xs, h => by unfold noD at h; simp only [D.py, PyData.plain]; exact pys_plain xs h
  | .dct _, h => by simp [noD] at h
  | .tupN _, h => by simp [noD] at h
  | .opq, h => by simp [noD] at h
theorem pys_plain : ∀ ds : List D, noDs ds = true → PyData.plainAll (D.pys ds) = true
  | [], _ => by simp [D.pys, PyData.plainAll]
  | d :: ds, h => by
    unfold noDs at h
    have h' := Bool.and_eq_true_iff.mp h
    simp only [D.pys, PyData.plainAll]
    rw [py_plain d h'.1, pys_plain ds h'.2]
    rfl
end
mutual
theorem py_depth : ∀ d : D, noD d = true → d.py.depth = dep d
  | .non, _ => by simp [D.py, PyData.depth, dep]
  | .bl _, _ => by simp [D.py, PyData.depth, dep]
  | .int _, _ => by simp [D.py, PyData.depth, dep]
  | .str _, _ => by simp [D.py, PyData.depth, dep]
  | .lst xs, h => by unfold noD at h; simp only [D.py, PyData.depth, dep]; rw [pys_depth xs h]
  | .tup xs, h => by unfold noD at h; simp only [D.py, PyData.depth, dep]; rw [pys_depth xs h]
  | .dct _, h => by simp [noD] at h
  | .tupN _, h => by simp [noD] at h
  | .opq, h => by simp [noD] at h
theorem pys_depth : ∀ ds : List D, noDs ds = true → PyData.depthAll (D.pys ds) = deps ds
  | [], _ => by simp [D.pys, PyData.depthAll, deps]
  | d :: ds, h => by
    unfold noDs at h
    have h' := Bool.and_eq_true_iff.mp h
    simp only [D.pys, PyData.depthAll, deps]
    rw [py_depth d h'.1, pys_depth ds h'.2]
end
mutual
theorem py_eqv : ∀ a b : D, noD a = true → noD b = true → cmpb a b = true → PyData.eqv a.py b.py = eqv a b
  | .non, b, _, k, c => by cases b <;> simp [D.py, PyData.eqv, eqv, noD] at k ⊢
  | .bl _, b, _, k, c => by cases b <;> simp [D.py, PyData.eqv, eqv, cmpb, noD] at c k ⊢
  | .int _, b, _, k, c => by cases b <;> simp [D.py, PyData.eqv, eqv, cmpb, noD] at c k ⊢
  | .str _, b, _, k, c => by cases b <;> simp [D.py, PyData.eqv, eqv, cmpb, noD] at c k ⊢
  | .lst xs, b, h, k, c => by
    cases b with
    | lst ys =>
      unfold noD at h k
      unfold cmpb at c
      simp only [D.py, PyData.eqv, eqv]
      exact pys_eqv xs ys h k c
    | _ => simp [D.py, PyData.eqv, eqv, cmpb, noD] at c k ⊢
  | .tup xs, b, h, k, c => by
    cases b with
    | tup ys =>
      unfold noD at h k
      unfold cmpb at c
      simp only [D.py, PyData.eqv, eqv]
      exact pys_eqv xs ys h k c
    | _ => simp [D.py, PyData.eqv, eqv, cmpb, noD] at c k ⊢
  | .dct _, b, h, _, _ => by simp [noD] at h
  | .tupN _, b, h, _, _ => by simp [noD] at h
  | .opq, b, h, _, _ => by simp [noD] at h
theorem pys_eqv : ∀ a b : List D, noDs a = true → noDs b = true → cmpbs a b = true → PyData.eqvAll (D.pys a) (D.pys b) = eqvs a b
  | [], [], _, _, _ => by simp [D.pys, PyData.eqvAll, eqvs]
  | [], _ :: _, _, _, _ => by simp [D.pys, PyData.eqvAll, eqvs]
  | _ :: _, [], _, _, _ => by simp [D.pys, PyData.eqvAll, eqvs]
  | x :: xs, y :: ys, h, k, c => by
    unfold noDs at h k
    unfold cmpbs at c
    have h' := Bool.and_eq_true_iff.mp h
    have k' := Bool.and_eq_true_iff.mp k
    have c' := Bool.and_eq_true_iff.mp c
    simp only [D.pys, PyData.eqvAll, eqvs]
    rw [py_eqv x y h'.1 k'.1 c'.1, pys_eqv xs ys h'.2 k'.2 c'.2]
end
section
variable {X : Cx} {pins : List (Addr × Obj)} {σ : L2.St} {H : Hp} {s : Shared}
mutual
theorem reads_of (I : Inv X pins σ H s) : ∀ (d : D) (v : V) (u : Value), noD d = true → Rp X.K H d v → RelV v u → ∃ as, Reads s.heap u d.py as
  | .non, v, u, _, h, r => by unfold Rp at h; subst h; cases r; exact ⟨_, by unfold D.py; exact .none⟩
  | .bl b, v, u, _, h, r => by unfold Rp at h; subst h; cases r; exact ⟨_, by unfold D.py; exact .bool b⟩
  | .int i, v, u, _, h, r => by unfold Rp at h; subst h; obtain ⟨t, rfl⟩ := r; exact ⟨_, by unfold D.py; exact .int i t⟩
  | .str x, v, u, _, h, r => by unfold Rp at h; subst h; obtain ⟨t, rfl⟩ := r; exact ⟨_, by unfold D.py; exact .str x t⟩
  | .lst ds, v, u, hn, h, r => by
    unfold Rp at h
    obtain ⟨a, vs, rfl, hs, hv⟩ := h
    cases r
    obtain ⟨its, rv, ⟨o, n, e, c1, c2, c3⟩, _⟩ := I.list hs
    obtain ⟨as, q⟩ := readsAll_of I ds vs its (by unfold noD at hn; exact hn) hv rv
    exact ⟨_, by unfold D.py; exact .list e c1 c3 q⟩
  | .tup ds, v, u, hn, h, r => by
    unfold Rp at h
    obtain ⟨a, vs, rfl, hs, hv⟩ := h
    cases r
    obtain ⟨its, rv, ⟨o, e, c1, n, c3⟩, _⟩ := I.tuple hs
    obtain ⟨as, q⟩ := readsAll_of I ds vs its (by unfold noD at hn; exact hn) hv rv
    exact ⟨_, by unfold D.py; exact .tuple e c1 c3 q⟩
  | .dct _, _, _, hn, _, _ => by simp [noD] at hn
  | .tupN _, _, _, hn, _, _ => by simp [noD] at hn
  | .opq, _, _, hn, _, _ => by simp [noD] at hn
theorem readsAll_of (I : Inv X pins σ H s) : ∀ (ds : List D) (vs : List V) (us : List Value), noDs ds = true → Rps X.K H ds vs → Vals vs us → ∃ as, ReadsAll s.heap us (D.pys ds) as
  | [], vs, us, _, h, r => by unfold Rps at h; subst h; cases r; exact ⟨_, by unfold D.pys; exact .nil⟩
  | d :: ds, vs, us, hn, h, r => by
    unfold Rps at h
    obtain ⟨v, t, rfl, a, b⟩ := h
    cases r with
    | cons r1 r2 =>
      unfold noDs at hn
      have hn' := Bool.and_eq_true_iff.mp hn
      obtain ⟨as, q⟩ := reads_of I d v _ hn'.1 a r1
      obtain ⟨bs, qs⟩ := readsAll_of I ds t _ hn'.2 b r2
      exact ⟨_, by unfold D.pys; exact .cons q qs⟩
end
end

/-! ### sorted(xs) -/
def leD (a b : D) : Bool := PySem.W.dataLe false D.py a b
def sortD (ds : List D) : List D := ds.mergeSort leD
def srtOk (ds : List D) : Prop := noDs ds = true ∧ PySem.W.AllAlike (ds.map D.py) ∧ PySem.W.Sortable (ds.map D.py) ∧ (∀ d ∈ ds, dep d ≤ 60)
def rSortD (K : PySem.W.Frag) : List V → Hp → VK → Prop := fun vs H Q => ∃ (a : Addr) (ws : List V) (ds : List D), vs = [V.ref a] ∧ SqL K H a ws ∧ Rps K H ds ws ∧ srtOk ds ∧
  ∀ (us : List V) (p : Addr), (∃ prs : List (D × V), prs.Perm (ds.zip ws) ∧ prs.map (·.1) = sortD ds ∧ prs.map (·.2) = us) → H p = none → Q (.ref p) (upd H p (.lst us))
theorem zip_fst {α β : Type} : ∀ {a : List α} {b : List β}, b.length = a.length → (a.zip b).map (·.1) = a
  | [], _, _ => rfl
  | _ :: _, [], h => by simp at h
  | x :: a, y :: b, h => by
    rw [List.zip_cons_cons, List.map_cons, zip_fst (by simpa using h)]
theorem each_zip {X : Cx} {pins : List (Addr × Obj)} {σ : L2.St} {H : Hp} {s : Shared} (I : Inv X pins σ H s) : ∀ {ds : List D} {ws : List V} {us : List Value}, noDs ds = true → Rps X.K H ds ws → Vals ws us →
    PySem.W.EachIs (fun u p => RelV p.2 u ∧ ∃ as, Reads s.heap u p.1.py as) us (ds.zip ws)
  | [], _, _, _, h, r => by unfold Rps at h; subst h; cases r; exact .nil
  | d :: ds, _, _, hn, h, r => by
    unfold Rps at h
    obtain ⟨v, t, rfl, a, b⟩ := h
    cases r with
    | cons r1 r2 =>
      unfold noDs at hn
      have hn' := Bool.and_eq_true_iff.mp hn
      exact .cons ⟨r1, reads_of I d v _ hn'.1 a r1⟩ (each_zip I hn'.2 b r2)
theorem each_vals : ∀ {us : List Value} {prs : List (D × V)}, PySem.W.EachIs (fun u p => RelV p.2 u) us prs → Vals (prs.map (·.2)) us
  | _, _, .nil => .nil
  | _, _, .cons h t => .cons h (each_vals t)
theorem cr_sortedD {X : Cx} (hu : X.A.units + 64 < cLine) : CallR X (.builtin "sorted") (rSortD X.K) := by
  intro pins s σ H xs us Q I r h
  obtain ⟨a, ws, ds, rfl, hs, hv, ⟨hn, hal, hk, hd⟩, q⟩ := h
  obtain ⟨its, rv, hl, hz⟩ := I.list hs
  rw [Vals.ref1 r]
  have hlen := Rps.len ds ws hv
  have hm : (ds.zip ws).map (fun p => p.1.py) = ds.map D.py := by
    have := congrArg (List.map D.py) (zip_fst (a := ds) (b := ws) hlen)
    rw [List.map_map] at this
    exact this
  have ez := each_zip I hn hv rv
  refine PySem.W.sorted_data (bs := ds.zip ws) (enc := fun p : D × V => p.1.py) (R := fun u p => RelV p.2 u) hl.isList (ez.mono fun _ _ h => h.1) (ez.mono fun _ _ h => h.2) (by rw [hm]; exact hal) (by rw [hm]; exact hk) (by rw [List.length_zip]; omega) (fun b hb => ?_) fun out ho he => ?_
  · have hb1 := (List.of_mem_zip hb).1
    have h1 := hd b.1 hb1
    have h2 : noD b.1 = true := by
      have : ∀ (l : List D), noDs l = true → ∀ d ∈ l, noD d = true := fun l => by
        induction l with
        | nil => intro _ d hd; cases hd
        | cons x r ih =>
          intro h d hd
          unfold noDs at h
          have h' := Bool.and_eq_true_iff.mp h
          rcases List.mem_cons.mp hd with rfl | hd
          · exact h'.1
          · exact ih h'.2 d hd
      exact this ds hn b.1 hb1
    rw [py_depth b.1 h2]
    omega
  · obtain ⟨ep, he'⟩ := PyProof.Rows.sortedAll_at s.heap its out.toArray
    have hv2 := each_vals he
    have hl2 : ((List.map (·.2) ((ds.zip ws).mergeSort (PySem.W.dataLe false fun p => p.1.py)))).length ≤ sizeLine := by
      rw [hv2.length, ho, List.length_zip]
      omega
    refine ⟨.ref _, upd H (s.heap.objs.size + 1) (.lst _), I.laid (t' := s.toks) (fun _ _ => PyProof.Rows.sortedAll_old) (Nat.le_succ _) ⟨hl2, out, ep, hv2, he'⟩, rfl, q _ _ ⟨_, List.mergeSort_perm _ _, ?_, rfl⟩ (I.hok.fresh (Nat.le_succ _))⟩
    have e2 := PySem.W.sort_maps (r := PySem.W.dataLe false fun p : D × V => p.1.py) (s := leD) (fun p : D × V => p.1) (l := ds.zip ws) fun a _ b _ => rfl
    rw [e2, zip_fst hlen]
    rfl
def gSorted : G1 := fun o post => match o with
  | .pu (.lst ds) => srtOk ds ∧ ∀ p, post (.ls p (sortD ds))
  | .ls _ ds => srtOk ds ∧ ∀ p, post (.ls p (sortD ds))
  | _ => False
theorem Rps.ofPairs {K : PySem.W.Frag} {G : Hp} : ∀ {prs : List (D × V)}, (∀ p ∈ prs, Rp K G p.1 p.2) → Rps K G (prs.map (·.1)) (prs.map (·.2))
  | [], _ => by unfold Rps; rfl
  | p :: r, h => by
    rw [List.map_cons, List.map_cons]
    unfold Rps
    exact ⟨_, _, rfl, h p List.mem_cons_self, Rps.ofPairs fun q hq => h q (List.mem_cons_of_mem _ hq)⟩
theorem Rps.pairs {K : PySem.W.Frag} {G : Hp} : ∀ {ds : List D} {vs : List V}, Rps K G ds vs → ∀ p ∈ ds.zip vs, Rp K G p.1 p.2
  | [], _, _, p, hp => by cases hp
  | d :: ds, vs, h, p, hp => by
    unfold Rps at h
    obtain ⟨v, r, rfl, a, b⟩ := h
    rw [List.zip_cons_cons] at hp
    rcases List.mem_cons.mp hp with rfl | hp
    · exact a
    · exact Rps.pairs b p hp
theorem sr_sorted {K : PySem.W.Frag} : SndRN K (rSortD K) (g1 gSorted) := snd_g1 fun φ e σ G H o1 v1 post Q R a p q => by
  have key : ∀ ds, (o1 = .pu (.lst ds) ∨ ∃ p, o1 = .ls p ds) → (srtOk ds ∧ ∀ p, post (.ls p (sortD ds))) → rSortD K [v1] H Q := fun ds ho p => by
    obtain ⟨l, vs, rfl, hs, hv⟩ := a.lst R.sub ho
    refine ⟨l, vs, ds, rfl, hs, Rps.mono R.sub _ _ hv, p.1, fun us p' ⟨prs, h1, h2, h3⟩ hp => q _ _ _ _ (p.2 p') (R.newLs hp ?_)⟩
    rw [← h2, ← h3]
    exact Rps.ofPairs fun x hx => Rps.pairs hv x (h1.mem_iff.mp hx)
  unfold gSorted at p
  split at p
  · exact key _ (.inl rfl) p
  · exact key _ (.inr ⟨_, rfl⟩) p
  · exact p.elim
theorem e_gSorted1 {ds : List D} {k : O → Prop} : gSorted (.pu (.lst ds)) k = (srtOk ds ∧ ∀ p, k (.ls p (sortD ds))) := rfl
theorem e_gSorted2 {q : Addr} {ds : List D} {k : O → Prop} : gSorted (.ls q ds) k = (srtOk ds ∧ ∀ p, k (.ls p (sortD ds))) := rfl

/-! ### x in xs, nested -/
def rInN (K : PySem.W.Frag) (neg : Bool) : R2 := fun y x H Q => ∃ (a : D) (ds : List D) (p : Addr) (vs : List V), x = .ref p ∧ (SqL K H p vs ∨ SqT K H p vs) ∧ Rps K H ds vs ∧ Rp K H a y ∧ noD a = true ∧ noDs ds = true ∧ dep a ≤ 60 ∧ (ds.all fun d => cmpb d a) = true ∧ Q (.bl (if neg then !inD a ds else inD a ds)) H
theorem any_py {a : D} {ds : List D} (hn : noDs ds = true) (ha : noD a = true) (hc : (ds.all fun d => cmpb d a) = true) : ((D.pys ds).any fun y => PyData.eqv y a.py) = inD a ds := by
  unfold inD
  induction ds with
  | nil => unfold D.pys; rfl
  | cons d r ih =>
    unfold noDs at hn
    have hn' := Bool.and_eq_true_iff.mp hn
    rw [List.all_cons] at hc
    have hc' := Bool.and_eq_true_iff.mp hc
    unfold D.pys
    rw [List.any_cons, List.any_cons, ih hn'.2 hc'.2, py_eqv d a hn'.1 ha hc'.1]
theorem op_inN {X : Cx} (hu : X.A.units + 64 < cLine) : OpR X (compareOp .In) (rInN X.K false) := by
  intro pins s σ H y x v u Q I ry rx h
  obtain ⟨a, ds, p, vs, rfl, hq, hv, ha, na, nd, hd, hc, q⟩ := h
  obtain ⟨bs, rb⟩ := reads_of I a y v na ha ry
  have dp := py_depth a na
  have hmin : ∀ n, X.A.units + 1 + min n a.py.depth < cLine := fun n => by omega
  rcases hq with hq | hq
  · obtain ⟨as, ra⟩ := reads_of I (.lst ds) (.ref p) u (by unfold noD; exact nd) (by unfold Rp; exact ⟨p, vs, rfl, hq, hv⟩) rx
    unfold D.py at ra
    refine PySem.SeqAt.in_list_data ra rb (pys_plain ds nd) (py_plain a na) (hmin _) ⟨.bl _, H, I, rfl, ?_⟩
    rw [any_py nd na hc]
    exact q
  · obtain ⟨as, ra⟩ := reads_of I (.tup ds) (.ref p) u (by unfold noD; exact nd) (by unfold Rp; exact ⟨p, vs, rfl, hq, hv⟩) rx
    unfold D.py at ra
    refine PySem.SeqAt.in_tuple_data ra rb (pys_plain ds nd) (py_plain a na) (hmin _) ⟨.bl _, H, I, rfl, ?_⟩
    rw [any_py nd na hc]
    exact q
theorem op_notInN {X : Cx} (hu : X.A.units + 64 < cLine) : OpR X (compareOp .NotIn) (rInN X.K true) := by
  intro pins s σ H y x v u Q I ry rx h
  obtain ⟨a, ds, p, vs, rfl, hq, hv, ha, na, nd, hd, hc, q⟩ := h
  obtain ⟨bs, rb⟩ := reads_of I a y v na ha ry
  have dp := py_depth a na
  have hmin : ∀ n, X.A.units + 1 + min n a.py.depth < cLine := fun n => by omega
  rcases hq with hq | hq
  · obtain ⟨as, ra⟩ := reads_of I (.lst ds) (.ref p) u (by unfold noD; exact nd) (by unfold Rp; exact ⟨p, vs, rfl, hq, hv⟩) rx
    unfold D.py at ra
    refine PySem.SeqAt.notIn_list_data ra rb (pys_plain ds nd) (py_plain a na) (hmin _) ⟨.bl _, H, I, rfl, ?_⟩
    rw [any_py nd na hc]
    exact q
  · obtain ⟨as, ra⟩ := reads_of I (.tup ds) (.ref p) u (by unfold noD; exact nd) (by unfold Rp; exact ⟨p, vs, rfl, hq, hv⟩) rx
    unfold D.py at ra
    refine PySem.SeqAt.notIn_tuple_data ra rb (pys_plain ds nd) (py_plain a na) (hmin _) ⟨.bl _, H, I, rfl, ?_⟩
    rw [any_py nd na hc]
    exact q
def inNOk (a : D) (ds : List D) : Prop := noD a = true ∧ noDs ds = true ∧ dep a ≤ 60 ∧ (ds.all fun d => cmpb d a) = true
def gInN (neg : Bool) : G2 := fun a b post => match b with
  | .pu (.lst ds) => inNOk a.toD ds ∧ post (.pu (.bl (if neg then !inD a.toD ds else inD a.toD ds)))
  | .ls _ ds => inNOk a.toD ds ∧ post (.pu (.bl (if neg then !inD a.toD ds else inD a.toD ds)))
  | .pu (.tup ds) => inNOk a.toD ds ∧ post (.pu (.bl (if neg then !inD a.toD ds else inD a.toD ds)))
  | _ => False
theorem sr_inN {K : PySem.W.Frag} {neg : Bool} : SndR2 K (rInN K neg) (gInN neg) := fun φ e σ G H o1 o2 v1 v2 post Q R a1 a2 p q => by
  have key : ∀ ds, (o2 = .pu (.lst ds) ∨ ∃ p, o2 = .ls p ds) → (inNOk o1.toD ds ∧ post (.pu (.bl (if neg then !inD o1.toD ds else inD o1.toD ds)))) → rInN K neg v1 v2 H Q := fun ds ho p => by
    obtain ⟨l, vs, rfl, hs, hv⟩ := a2.lst R.sub ho
    exact ⟨_, ds, l, vs, rfl, .inl hs, Rps.mono R.sub _ _ hv, a1.rp R.sub, p.1.1, p.1.2.1, p.1.2.2.1, p.1.2.2.2, q _ _ G H p.2 (R.consPu rp_bl)⟩
  unfold gInN at p
  split at p
  · exact key _ (.inl rfl) p
  · exact key _ (.inr ⟨_, rfl⟩) p
  · obtain ⟨l, vs, rfl, hs, hv⟩ := a2.tup R.sub
    exact ⟨_, _, l, vs, rfl, .inr hs, Rps.mono R.sub _ _ hv, a1.rp R.sub, p.1.1, p.1.2.1, p.1.2.2.1, p.1.2.2.2, q _ _ G H p.2 (R.consPu rp_bl)⟩
  · exact p.elim
theorem e_gInN1 {ds : List D} {a : O} {k : O → Prop} : gInN false a (.pu (.lst ds)) k = (inNOk a.toD ds ∧ k (.pu (.bl (inD a.toD ds)))) := rfl
theorem e_gInN2 {ds : List D} {a : O} {k : O → Prop} : gInN true a (.pu (.lst ds)) k = (inNOk a.toD ds ∧ k (.pu (.bl (!inD a.toD ds)))) := rfl
theorem e_gInN3 {p : Addr} {ds : List D} {a : O} {k : O → Prop} : gInN false a (.ls p ds) k = (inNOk a.toD ds ∧ k (.pu (.bl (inD a.toD ds)))) := rfl
theorem e_gInN4 {p : Addr} {ds : List D} {a : O} {k : O → Prop} : gInN true a (.ls p ds) k = (inNOk a.toD ds ∧ k (.pu (.bl (!inD a.toD ds)))) := rfl
theorem e_gInN5 {ds : List D} {a : O} {k : O → Prop} : gInN false a (.pu (.tup ds)) k = (inNOk a.toD ds ∧ k (.pu (.bl (inD a.toD ds)))) := rfl
theorem e_gInN6 {ds : List D} {a : O} {k : O → Prop} : gInN true a (.pu (.tup ds)) k = (inNOk a.toD ds ∧ k (.pu (.bl (!inD a.toD ds)))) := rfl
end Vl

namespace Vl
open PySem PySem.Spec PyProof.Rows L2

/-! ### min(xs, default=None), min(xs) -/
def ltD (a b : D) : Bool := PySem.W.dataLt a.py b.py
def minDD (x : D) (xs : List D) : D := xs.foldl (fun a y => if ltD y a then y else a) x
def minOk (ds : List D) : Prop := noDs ds = true ∧ PySem.W.AlikeAll (D.pys ds) ∧ deps ds ≤ 60
theorem minDD_mem : ∀ (xs : List D) (x : D), minDD x xs ∈ x :: xs
  | [], x => by unfold minDD; simp
  | y :: ys, x => by
    have ih := minDD_mem ys (if ltD y x then y else x)
    show minDD (if ltD y x then y else x) ys ∈ _
    rcases List.mem_cons.mp ih with h | h
    · rw [h]
      split <;> simp
    · simp [h]
theorem minDD_py : ∀ (xs : List D) (x : D), PySem.W.minD x.py (D.pys xs) = (minDD x xs).py
  | [], x => by unfold D.pys; rfl
  | y :: ys, x => by
    unfold D.pys
    show PySem.W.minD (if PySem.W.dataLt y.py x.py then y.py else x.py) (D.pys ys) = (minDD (if ltD y x then y else x) ys).py
    rw [← minDD_py ys]
    unfold ltD
    split <;> rfl
theorem noDs_mem {ds : List D} (h : noDs ds = true) : ∀ d ∈ ds, noD d = true := by
  induction ds with
  | nil => intro _ hd; cases hd
  | cons x r ih =>
    intro d hd
    unfold noDs at h
    have h' := Bool.and_eq_true_iff.mp h
    rcases List.mem_cons.mp hd with rfl | hd
    · exact h'.1
    · exact ih h'.2 d hd
def rMinDf (K : PySem.W.Frag) : List V → List V → Hp → VK → Prop := fun vs zs H Q => ∃ (a : Addr) (ws : List V) (ds : List D), vs = [V.ref a] ∧ zs = [V.non] ∧ SqL K H a ws ∧ Rps K H ds ws ∧ minOk ds ∧
  (ds = [] → Q .non H) ∧ ∀ (x : D) (xs : List D) (w : V), ds = x :: xs → (minDD x xs, w) ∈ ds.zip ws → Q w H
theorem Vals.at {vs : List V} {us : List Value} (r : Vals vs us) {i : Nat} {u : Value} (h : us[i]? = some u) : ∃ v, vs[i]? = some v ∧ RelV v u := by
  have hl := r.length
  obtain ⟨hi, _⟩ := List.getElem?_eq_some_iff.mp h
  have hv : vs[i]? = some vs[i] := List.getElem?_eq_getElem (by omega)
  obtain ⟨u', h1, h2⟩ := r.get hv
  rw [h] at h1
  cases h1
  exact ⟨_, hv, h2⟩
theorem zip_at {α β : Type} {a : List α} {b : List β} {i : Nat} {x : α} {y : β} (h : a[i]? = some x) (k : b[i]? = some y) : (x, y) ∈ a.zip b := by
  apply List.mem_of_getElem? (i := i)
  rw [List.getElem?_zip_eq_some]
  exact ⟨h, k⟩
theorem cr_minDf {X : Cx} (hc : X.calm = true) (hu : X.A.units + 64 < cLine) : CallRK X (.builtin "min") [Str.ofString "default"] (rMinDf X.K) := by
  intro pins s σ H vs zs us zz Q I r rz h
  obtain ⟨a, ws, ds, rfl, rfl, hs, hv, ⟨hn, hal, hd⟩, q0, q1⟩ := h
  obtain ⟨its, rv, hl, _⟩ := I.list hs
  rw [Vals.ref1 r]
  obtain ⟨w1, rfl, e1⟩ := vals1 rz
  obtain rfl : w1 = Value.none := e1
  obtain ⟨as, ra⟩ := readsAll_of I ds ws its hn hv rv
  have dp := pys_depth ds hn
  refine PySem.W.min_list_default (I.ok.hd hc) hl.isList (xs := D.pys ds) (as := as) (by simpa using ra) hal (by omega) (fun e h' tk k => ?_) fun y ys i v h' tk bs e hvi hr k => ?_
  · have e0 : ds = [] := by
      cases ds with
      | nil => rfl
      | cons x r => unfold D.pys at e; cases e
    exact ⟨.non, H, I.kept k, rfl, q0 e0⟩
  · cases ds with
    | nil => unfold D.pys at e; cases e
    | cons x xs =>
      unfold D.pys at e
      cases e
      have hvi' : its[i]? = some v := by simpa using hvi
      obtain ⟨w, hw, rw'⟩ := Vals.at rv hvi'
      have hl2 := Rps.len _ _ hv
      obtain ⟨hi, _⟩ := List.getElem?_eq_some_iff.mp hw
      have hdi : (x :: xs)[i]? = some ((x :: xs)[i]'(by omega)) := List.getElem?_eq_getElem (by omega)
      generalize (x :: xs)[i]'(by omega) = d at hdi
      obtain ⟨w', hw', rd⟩ := Rps.get _ _ i d hv hdi
      rw [hw] at hw'
      cases hw'
      have nd : noD d = true := noDs_mem hn d (List.mem_of_getElem? hdi)
      obtain ⟨cs, rr⟩ := reads_of I d w v nd rd rw'
      have rr' := PySem.W.reads_keeps k rr
      have eu := PySem.SeqAt.plain_unique _ _ _ _ _ (py_plain d nd) rr' hr
      rw [minDD_py] at eu
      have ed := py_inj _ _ nd (noDs_mem hn _ (minDD_mem xs x)) eu
      subst ed
      exact ⟨w, H, I.kept k, rw', q1 x xs w rfl (zip_at hdi hw)⟩
def gMinDf : G1 := fun o post => match o with
  | .pu (.lst ds) => minOk ds ∧ match ds with
    | [] => post (.pu .non)
    | x :: xs => post (.pu (minDD x xs))
  | .ls _ ds => minOk ds ∧ match ds with
    | [] => post (.pu .non)
    | x :: xs => post (.pu (minDD x xs))
  | _ => False
theorem sr_minDf {K : PySem.W.Frag} : SndRN K (fun vs H Q => rMinDf K vs [.non] H Q) (g1 gMinDf) := snd_g1 fun φ e σ G H o1 v1 post Q R a p q => by
  have key : ∀ ds, (o1 = .pu (.lst ds) ∨ ∃ p, o1 = .ls p ds) → (minOk ds ∧ match ds with | [] => post (.pu .non) | x :: xs => post (.pu (minDD x xs))) → rMinDf K [v1] [.non] H Q := fun ds ho p => by
    obtain ⟨l, vs, rfl, hs, hv⟩ := a.lst R.sub ho
    refine ⟨l, vs, ds, rfl, rfl, hs, Rps.mono R.sub _ _ hv, p.1, fun e => ?_, fun x xs w e hm => ?_⟩
    · subst e
      exact q _ _ _ _ p.2 (R.consPu rp_non)
    · subst e
      exact q _ _ _ _ p.2 (R.consPu (Rps.pairs hv _ hm))
  unfold gMinDf at p
  split at p
  · exact key _ (.inl rfl) p
  · exact key _ (.inr ⟨_, rfl⟩) p
  · exact p.elim
theorem ve_minDf {X : Cx} {x : Str} {p pos kp cp : Pos} {e : Expr} {j : Nat} {t : TA} {wa : WA} (hc : X.calm = true) (hu : X.A.units + 64 < cLine) (hg : Gl X x) (hm : X.mg x = none) (hv : bootBuiltins x = some (.builtin "min")) (ha : VA X [e] t wa) (hn : x ≠ "__name__" := by decide) (hdb : (x == ("__debug__" : Str)) = false := by decide)
    (he : backTo pos (starEach [e] X.env) = (false, eval e X.env) :: backTo pos (starEach [] X.env) := by rfl) (hpl : (backTo pos (starEach [e] X.env)).any (·.1) = false := by rfl)
    (hall : (backToKw pos (keywordEach [⟨some (Str.ofString "default"), .Constant .none j cp, kp⟩] X.env)).all (·.1.isSome) = true := by rfl) (hnone : (backToKw pos (keywordEach [⟨some (Str.ofString "default"), .Constant .none j cp, kp⟩] X.env)).any (·.1.isNone) = false := by rfl) (hks : (backToKw pos (keywordEach [⟨some (Str.ofString "default"), .Constant .none j cp, kp⟩] X.env)).filterMap (·.1) = [Str.ofString "default"] := by rfl) :
    VE X (.Call (.Name x p) [e] [⟨some (Str.ofString "default"), .Constant .none j cp, kp⟩] pos) (tCKw (rMinDf X.K) t (tCons (tC .non) tNil)) (vCB (g1 gMinDf) wa) :=
  ⟨pe_callBK (cr_minDf hc hu) hg hm hv ha.pa (pk_cons pe_non pk_nil) hn hdb he hpl hall hnone hks, snd_cb (r := fun vs H Q => rMinDf X.K vs [.non] H Q) ha.snd sr_minDf⟩
def kPuA (post : O → Env → Prop) (o : O) (e : Env) : Prop := post (.pu o.toD) e
theorem e_vpu {a : WE} {x : XP} {e : Env} {post : O → Env → Prop} : vPu a x e post = a x e (kPuA post) := rfl
theorem e_kpuA {post : O → Env → Prop} {o : O} {e : Env} : kPuA post o e = post (.pu o.toD) e := rfl
theorem e_gMinDf1 {k : O → Prop} : gMinDf (.pu (.lst [])) k = (minOk [] ∧ k (.pu .non)) := rfl
theorem e_isi_str_non {post : O → Env → Prop} {e : Env} : kIsi2 "str" post e (.pu .non) = post (.pu (.bl false)) e := rfl
end Vl

namespace Vl
open PySem PySem.Spec PyProof.Rows L2

/-! ### what only looks: everything is read as pure, what was owned is owned again behind -/
def frzO : Option O → Option O
  | none => none
  | some o => some (.pu o.toD)
def frzE (e : Env) : Env := e.map frzO
theorem fpe_frz : ∀ e : Env, fpe (frzE e) = []
  | [] => rfl
  | none :: e => fpe_frz e
  | some o :: e => by
    show O.fp (.pu o.toD) ++ fpe (frzE e) = []
    rw [fpe_frz e]
    unfold O.fp
    rfl
section
variable {K : PySem.W.Frag}
theorem Slots.freeze {G H : Hp} {l : List Addr} (s : Sub G (frze G H l)) : ∀ (e : Env) (σ : L2.St), (∀ p ∈ fpe e, p ∈ l) → Slots K G H e σ → Slots K (frze G H l) H (frzE e) σ
  | [], _, _, h => h
  | none :: e, _, f, h => by
    obtain ⟨x, r, q, b⟩ := h
    exact ⟨x, r, q, Slots.freeze s e r f b⟩
  | some o :: e, _, f, h => by
    obtain ⟨v, r, q, a, b⟩ := h
    refine ⟨v, r, q, ?_, Slots.freeze s e r (fun p hp => f p (List.mem_append_right _ hp)) b⟩
    unfold OAt
    exact OAt.freeze s o v (fun p hp => f p (List.mem_append_left _ hp)) a
def fxL (φ : Fx) (e : Env) (G H : Hp) : Fx := ⟨frze G H (fpe e), H, [], φ.E⟩
variable {φ : Fx} {e : Env} {σ : L2.St} {G H : Hp}
theorem Rel.look (R : Rel K φ e σ G H) : Rel K (fxL φ e G H) (frzE e) σ (frze G H (fpe e)) H := by
  have c := Slots.cell e σ R.slots
  have up : Sub G (frze G H (fpe e)) := frze_up fun b hb => (c b hb).1
  exact ⟨.self (frze_sub R.frm.sub), Slots.freeze up e σ (fun p hp => hp) R.slots, by rw [fpe_frz]; exact List.nodup_nil, fun p hp => by rw [fpe_frz] at hp; cases hp⟩
theorem Rel.unlook (R : Rel K φ e σ G H) {e2 : Env} {σ2 : L2.St} {G2 H2 : Hp} (S : Rel K (fxL φ e G H) e2 σ2 G2 H2) : Rel K φ e σ G H2 := by
  have c := Slots.cell e σ R.slots
  have kp : ∀ b o, H b = some o → H2 b = some o := fun b o h => S.frm.keep b o h (fun z => nomatch z)
  refine ⟨⟨R.frm.up, fun a u q => ?_, fun b o h n => kp b o (R.frm.keep b o h n), R.frm.gk, fun b o h => ?_⟩, Slots.mono (Sub.refl G) e σ (fun p hp => ?_) R.slots, R.nd, R.own⟩
  · rcases R.frm.sub a u q with h | ⟨o, h⟩
    · exact .inl (kp _ _ h)
    · exact .inr ⟨o, kp _ _ h⟩
  · obtain ⟨o', h'⟩ := R.frm.live b o h
    exact ⟨o', kp b o' h'⟩
  · obtain ⟨_, u, hu, _⟩ := c p hp
    exact ⟨(kp p u hu).trans hu.symm, rfl⟩
theorem ExOk.look {x : XP} (X : ExOk K φ x) (R : Rel K φ e σ G H) : ExOk K (fxL φ e G H) x := fun y env σ' G' H' cls d hx S hE => by
  refine X y env σ' G' H' cls d hx ?_ hE
  have c := Slots.cell e σ R.slots
  have up : Sub G (frze G H (fpe e)) := frze_up fun b hb => (c b hb).1
  have kp : ∀ b o, H b = some o → H' b = some o := fun b o h => S.frm.keep b o h (fun z => nomatch z)
  refine ⟨⟨R.frm.up.trans (up.trans S.frm.up), S.frm.sub, fun b o h n => kp b o (R.frm.keep b o h n), fun b o h n => ?_, fun b o h => ?_⟩, S.slots, S.nd, fun p hp => ?_⟩
  · have hb : b ∉ fpe e := fun z => by
      rcases R.own b z with q | q
      · exact n q
      · rw [q] at h; cases h
    have h1 := S.frm.gk b o (R.frm.keep b o h n) (fun z => nomatch z)
    have h2 : frze G H (fpe e) b = G b := frze_out hb
    exact (h1.trans h2).trans (R.frm.gk b o h n)
  · obtain ⟨o', h'⟩ := R.frm.live b o h
    exact ⟨o', kp b o' h'⟩
  · rcases S.own p hp with z | z
    · cases z
    · exact .inr (R.none_of z)
end
/-- a test that only looks -/
def vRbT (c : WT) : WT := fun x e post => c x (frzE e) fun b _ => post b e
theorem snd_rbT {K : PySem.W.Frag} {tt : TT} {c : WT} (h : SndT K tt c) : SndT K tt (vRbT c) := fun φ e σ G H x post Q R X t q =>
  h (fxL φ e G H) (frzE e) σ _ H x (fun b _ => post b e) Q R.look (X.look R) t fun b e' G' H' p S => q b e G H' p (R.unlook S)
theorem vt_rb {X : Cx} {e : Expr} {tt : TT} {t : WT} (h : VT X e tt t) : VT X e tt (vRbT t) := ⟨h.pt, snd_rbT h.snd⟩
/-- an expression that only looks, its value no object -/
def isFlat : O → Bool
  | .pu .non => true
  | .pu (.bl _) => true
  | .pu (.int _) => true
  | .pu (.str _) => true
  | _ => false
def vRb (a : WE) : WE := fun x e post => a x (frzE e) fun o _ => isFlat o = true ∧ post o e
theorem snd_rb {K : PySem.W.Frag} {te : TE} {a : WE} (h : SndE K te a) : SndE K te (vRb a) := fun φ e σ G H x post Q R X t q =>
  h (fxL φ e G H) (frzE e) σ _ H x (fun o _ => isFlat o = true ∧ post o e) Q R.look (X.look R) t fun o e' v G' H' p S => by
    have U := R.unlook S.tail
    have hv := S.headOAt
    have key : ∀ d, o = .pu d → isFlat o = true → Rp K G d v := fun d e hf => by
      subst e
      unfold OAt at hv
      cases d with
      | non => unfold Rp at hv ⊢; exact hv
      | bl _ => unfold Rp at hv ⊢; exact hv
      | int _ => unfold Rp at hv ⊢; exact hv
      | str _ => unfold Rp at hv ⊢; exact hv
      | _ => simp [isFlat] at hf
    cases o with
    | pu d => exact q _ e v G H' p.2 (U.consPu (key d rfl p.1))
    | _ => simp [isFlat] at p
theorem ve_rb {X : Cx} {e : Expr} {te : TE} {t : WE} (h : VE X e te t) : VE X e te (vRb t) := ⟨h.pe, snd_rb h.snd⟩
def kRbT (post : Bool → Env → Prop) (e : Env) (b : Bool) (_ : Env) : Prop := post b e
theorem e_rbT {c : WT} {x : XP} {e : Env} {post : Bool → Env → Prop} : vRbT c x e post = c x (frzE e) (kRbT post e) := rfl
theorem e_krbT {post : Bool → Env → Prop} {e e' : Env} {b : Bool} : kRbT post e b e' = post b e := rfl
def kRb (post : O → Env → Prop) (e : Env) (o : O) (_ : Env) : Prop := isFlat o = true ∧ post o e
theorem e_rb {a : WE} {x : XP} {e : Env} {post : O → Env → Prop} : vRb a x e post = a x (frzE e) (kRb post e) := rfl
theorem e_krb1 {post : O → Env → Prop} {e e' : Env} {b : Bool} : kRb post e (.pu (.bl b)) e' = post (.pu (.bl b)) e := by simp [kRb, isFlat]
theorem e_krb2 {post : O → Env → Prop} {e e' : Env} {b : Int} : kRb post e (.pu (.int b)) e' = post (.pu (.int b)) e := by simp [kRb, isFlat]
theorem e_krb3 {post : O → Env → Prop} {e e' : Env} {b : Str} : kRb post e (.pu (.str b)) e' = post (.pu (.str b)) e := by simp [kRb, isFlat]
theorem e_krb4 {post : O → Env → Prop} {e e' : Env} : kRb post e (.pu .non) e' = post (.pu .non) e := by simp [kRb, isFlat]
theorem e_frz0 : frzE [] = [] := rfl
theorem e_frzN {e : Env} : frzE (none :: e) = none :: frzE e := rfl
theorem e_frzS {o : O} {e : Env} : frzE (some o :: e) = some (.pu o.toD) :: frzE e := rfl
theorem e_frzA {a : Option O} {e : Env} : frzE (a :: e) = frzO a :: frzE e := rfl

/-! ### list.index of ints -/
def rIdxI (K : PySem.W.Frag) : V → List V → Hp → VK → Prop := fun x xs H Q => ∃ (p : Addr) (ns : List Int) (k : Int), x = .ref p ∧ xs = [.int k] ∧ SqL K H p (ns.map V.int) ∧ k ∈ ns ∧ Q (.int (ns.idxOf k : Nat)) H
theorem mt_indexI {X : Cx} : MtR X "list.index" (rIdxI X.K) := by
  intro pins s σ H x xs v us Q I rx rxs h
  obtain ⟨p, ns, k, rfl, rfl, hs, hk, q⟩ := h
  cases rx
  obtain ⟨u, rfl, ru⟩ := rxs.one
  obtain ⟨t, rfl⟩ := ru
  obtain ⟨its, rv, hl, hz⟩ := I.list hs
  rw [List.length_map] at hz
  exact PySem.SeqAt.list_index_ints hl.isList rv.ints hz hk ⟨.int _, H, I.tok _, ⟨s.toks, rfl⟩, q⟩
def dIntsR : List D → Option (List Int)
  | [] => some []
  | .int i :: r => (dIntsR r).map (i :: ·)
  | _ => none
theorem dIntsR_map : ∀ ns : List Int, dIntsR (ns.map D.int) = some ns
  | [] => rfl
  | n :: ns => by
    rw [List.map_cons]
    unfold dIntsR
    rw [dIntsR_map ns]
    rfl
theorem dIntsR_eq : ∀ {ds : List D} {ns : List Int}, dIntsR ds = some ns → ds = ns.map D.int
  | [], ns, h => by cases h; rfl
  | .int i :: r, ns, h => by
    unfold dIntsR at h
    rw [Option.map_eq_some_iff] at h
    obtain ⟨t, ht, rfl⟩ := h
    rw [dIntsR_eq ht]
    rfl
  | .non :: _, _, h => by cases h
  | .bl _ :: _, _, h => by cases h
  | .str _ :: _, _, h => by cases h
  | .lst _ :: _, _, h => by cases h
  | .tup _ :: _, _, h => by cases h
  | .dct _ :: _, _, h => by cases h
def gIndexI : GM := fun o os post => onLst o fun ds => on1 os fun a => onI a fun k => onOpt (dIntsR ds) fun ns => k ∈ ns ∧ post (.pu (.int (ns.idxOf k : Nat)))
theorem sr_indexI {K : PySem.W.Frag} : SndRM K (rIdxI K) gIndexI := fun φ e σ G H o v os vs post Q R a z p q => by
  unfold gIndexI at p
  obtain ⟨ds, ho, p1⟩ := onLst_iff.mp p
  obtain ⟨b, rfl, p2⟩ := on1_iff.mp p1
  obtain ⟨k, rfl, p3⟩ := onI_iff.mp p2
  obtain ⟨ns, hn, hk, p4⟩ := onOpt_iff.mp p3
  have e0 := dIntsR_eq hn
  subst e0
  cases z with
  | cons c d =>
    cases d
    obtain ⟨l, ws, rfl, hs, hv⟩ := a.lst R.sub ho
    have hw : ∀ (ns : List Int) (ws : List V), Rps K G (ns.map D.int) ws → ws = ns.map V.int := fun ns => by
      induction ns with
      | nil => intro ws h; unfold Rps at h; exact h
      | cons n r ih =>
        intro ws h
        rw [List.map_cons] at h
        unfold Rps at h
        obtain ⟨v, t, rfl, rv, rt⟩ := h
        unfold Rp at rv
        rw [ih t rt, rv]
        rfl
    have hw' := hw ns ws hv
    subst hw'
    exact ⟨l, ns, k, rfl, by rw [c.int], hs, hk, q _ _ G H p4 (R.consPu rp_int)⟩
theorem e_gIdx1 {ns : List Int} {k : Int} {post : O → Prop} : gIndexI (.pu (.lst (ns.map D.int))) [.pu (.int k)] post = (k ∈ ns ∧ post (.pu (.int (ns.idxOf k : Nat)))) := by
  show onOpt (dIntsR (ns.map D.int)) (fun ns => k ∈ ns ∧ post (.pu (.int (ns.idxOf k : Nat)))) = _
  rw [dIntsR_map]
  rfl
theorem e_gIdx2 {q : Addr} {ns : List Int} {k : Int} {post : O → Prop} : gIndexI (.ls q (ns.map D.int)) [.pu (.int k)] post = (k ∈ ns ∧ post (.pu (.int (ns.idxOf k : Nat)))) := e_gIdx1 (ns := ns) (k := k) (post := post)
end Vl

namespace Vl
open PySem PySem.Spec PyProof.Rows L2

/-! ### for over a list of one's own that stays one's own (at each turn it stands as it stood) -/
def forK (i : Nat) (p : Addr) (ds0 : List D) (x : XP) (t : WG) (b : WS) (pd : Pd) : List D → Env → Prop
  | [], e => eget e i = some (.ls p ds0) ∧ pd.nx e
  | d :: r, e => eget e i = some (.ls p ds0) ∧ t d e fun e1 => b x ⟨forK i p ds0 x t b pd r, pd.rt, pd.nx, forK i p ds0 x t b pd r⟩ e1
def vForK (i : Nat) (t : WG) (b : WS) : WS := fun x pd e => match eget e i with
  | some (.ls p ds) => forK i p ds x t b pd ds e
  | _ => False
section
variable {K : PySem.W.Frag}
theorem forK_here {i : Nat} {p : Addr} {ds0 : List D} {x : XP} {t : WG} {b : WS} {pd : Pd} {r : List D} {e : Env} (h : forK i p ds0 x t b pd r e) : eget e i = some (.ls p ds0) := by
  cases r with
  | nil => exact h.1
  | cons d r => exact h.1
theorem loopK_snd {i : Nat} {p : Addr} {ds : List D} {g : TG} {t : WG} {ws : List Nat} {tb : TS} {b : WS} {φ : Fx} {e : Env} {σ : L2.St} {G H : Hp} {x : XP} {pd : Pd} {D : Ends} (hg : SndG K g t ws) (hb : SndS K tb b) (R : Rel K φ e σ G H) (X : ExOk K φ x) (q : forK i p ds x t b pd ds e) (E : EndsOk K φ pd D) :
    ∃ W : Nat → Nat → L2.St → Hp → Prop, (∃ m, W 0 m σ H) ∧ ∀ j m σ H, W j m σ H →
      ((Itl K p).stop j H ∧ D.nx σ H) ∨ ((Itl K p).go j H ∧ ∃ N : L2.St → Hp → Prop, (∀ σ' H', N σ' H' → ∃ m', m' < m ∧ W (j + 1) m' σ' H') ∧ ∀ y H', (Itl K p).yld j H y H' → g y σ H' fun σ2 H2 => tb { D with nx := N, ct := N, bk := D.nx } σ2 H2) := by
  refine ⟨fun j m σ' H' => m = ds.length - j ∧ j ≤ ds.length ∧ ∃ e' G', Rel K φ e' σ' G' H' ∧ forK i p ds x t b pd (ds.drop j) e', ⟨ds.length, by simp, Nat.zero_le _, e, G, R, q⟩, ?_⟩
  rintro j m σ1 H1 ⟨rfl, hj, e1, G1, S1, p1⟩
  have here := forK_here p1
  obtain ⟨v, hv, ho⟩ := S1.get (eget_some.mp here)
  unfold OAt at ho
  obtain ⟨rfl, gn, vs, hp, hvs⟩ := ho
  have sq : SqL K H1 p vs := SqL.of hp
  by_cases hlt : j < ds.length
  · have hd : ds[j]? = some ds[j] := List.getElem?_eq_getElem hlt
    rw [List.drop_eq_getElem_cons hlt] at p1
    obtain ⟨w, hw, rw'⟩ := Rps.get ds vs j _ hvs hd
    refine .inr ⟨⟨vs, w, sq, hw⟩, fun σ' H' => ∃ e' G', Rel K φ e' σ' G' H' ∧ forK i p ds x t b pd (ds.drop (j + 1)) e', fun σ' H' h' => ⟨ds.length - (j + 1), by omega, rfl, hlt, h'⟩, fun y H' hy => ?_⟩
    obtain ⟨rfl, f⟩ := hy
    have ev : y = w := Option.some.inj ((f vs sq).symm.trans hw)
    subst ev
    refine hg φ e1 σ1 G1 _ _ y _ _ S1 rw' p1.2 fun e3 σ3 G3 H3 p3 S3 _ => ?_
    refine hb φ e3 σ3 G3 H3 x _ _ S3 X p3 ⟨fun e' σ' G' H' p S => ⟨e', G', S, p⟩, fun o e' v σ' G' H' p S => E.rt _ _ _ _ _ _ p S, fun e' σ' G' H' p S => E.nx _ _ _ _ p S, fun e' σ' G' H' p S => ⟨e', G', S, p⟩⟩
  · have e0 : j = ds.length := by omega
    subst e0
    rw [List.drop_length] at p1
    exact .inl ⟨⟨vs, sq, by rw [Rps.len _ _ hvs]; exact Nat.le_refl _⟩, E.nx _ _ _ _ p1.2 S1⟩
theorem snd_forK {i : Nat} {g : TG} {t : WG} {ws : List Nat} {tb : TS} {b : WS} (hg : SndG K g t ws) (hb : SndS K tb b) : SndS K (tFor (iList K (tVar i)) g tb) (vForK i t b) := fun φ e σ G H x pd D R X p E => by
  unfold vForK at p
  split at p
  · rename_i q ds h
    obtain ⟨v, hv, ho⟩ := R.get (eget_some.mp h)
    unfold OAt at ho
    obtain ⟨rfl, gn, vs, hp, hvs⟩ := ho
    exact ⟨_, hv, q, rfl, ⟨vs, SqL.of hp⟩, loopK_snd hg hb R X p E⟩
  · exact p.elim
end
theorem vs_forK {X : Cx} {tg iter : Expr} {body : List Stmt} {i : Nat} {g : TG} {t : WG} {ws : List Nat} {tb : TS} {b : WS} {pos : Pos} (hp : PassesOwn (model X.prog X.w) X.A X.env X.xe) (hc : X.calm = true) (hi : PE X iter (tVar i)) (hg : VG X tg g t ws) (hb : VSs X body tb b)
    (hs : ∀ x, foldedSetIterable iter X.env x = pure x := by intro _; rfl) : VS X (.For tg iter body [] pos) (tFor (iList X.K (tVar i)) g tb) (vForK i t b) := ⟨ps_for hp hc (pi_list hi) hg.pg hb.ps hs, snd_forK hg.snd hb.snd⟩
def kForK (i : Nat) (t : WG) (b : WS) (x : XP) (pd : Pd) (e : Env) (o : O) : Prop := match o with
  | .ls p ds => forK i p ds x t b pd ds e
  | _ => False
theorem e_forK {i : Nat} {t : WG} {b : WS} {x : XP} {pd : Pd} {e : Env} : vForK i t b x pd e = kOn (eget e i) (kForK i t b x pd e) := by
  unfold vForK
  cases eget e i with
  | none => rfl
  | some o => cases o <;> rfl
theorem e_kforK {i : Nat} {t : WG} {b : WS} {x : XP} {pd : Pd} {e : Env} {p : Addr} {ds : List D} : kForK i t b x pd e (.ls p ds) = forK i p ds x t b pd ds e := rfl
theorem forK_map {T : Type} {i : Nat} {p : Addr} {ds0 : List D} {x : XP} {g : WG} {b : WS} {pd : Pd} (f : T → D) (ts : List T) (I : List T → List T → Env → Prop) (hk : ∀ dn tl e, I dn tl e → eget e i = some (.ls p ds0)) (h0 : ∀ e, I ts [] e → pd.nx e)
    (hs : ∀ dn t tl e, dn ++ t :: tl = ts → I dn (t :: tl) e → ∀ F : Env → Prop, (∀ e', I (dn ++ [t]) tl e' → F e') → g (f t) e (kBody x b F pd)) {e : Env} (hi : I [] ts e) : forK i p ds0 x g b pd (ts.map f) e := by
  have key : ∀ (tl dn : List T) (e : Env), dn ++ tl = ts → I dn tl e → forK i p ds0 x g b pd (tl.map f) e := fun tl => by
    induction tl with
    | nil =>
      intro dn e h1 h2
      rw [List.append_nil] at h1
      subst h1
      exact ⟨hk _ _ _ h2, h0 e h2⟩
    | cons t tl ih =>
      intro dn e h1 h2
      refine ⟨hk _ _ _ h2, ?_⟩
      exact hs dn t tl e h1 h2 _ fun e' h' => ih (dn ++ [t]) e' (by simpa using h1) h'
  exact key ts [] e rfl hi
end Vl

namespace PySem
open Sem (wp)
set_option maxHeartbeats 1000000 in
theorem vl_enumNew {v : Value} {ob : Obj} {P : Heap → Prop} (B : Begins v ob P) : Meets (Builtin.«enumerate.__new__» ⟨[.type "enumerate", v], []⟩) (fun _ R s => P s.heap ∧ R (.ok (.ret (.ref (s.heap.push ob).objs.size))) { s with heap := (s.heap.push ob).push { cls := .type "enumerate", data := .fields #[.none, .bool false, .ref s.heap.objs.size, rawInt 0, .none, .none] } }) :=
  .of_wp fun prog w A R s hyp => by
    obtain ⟨hp0, gg, dd, tt, oo⟩ := s
    obtain ⟨pre, hyp⟩ := hyp
    have hsub := sub_enumerate
    have qq : ∀ {A' : Around} {E' : Value → Shared → Prop} {Q' : Value → Shared → Prop}, Q' (.ref hp0.objs.size) ⟨hp0.push ob, gg, dd, tt, oo⟩ → wpAny (model prog w) A' (pyIter v) Q' E' ⟨hp0, gg, dd, tt, oo⟩ := fun q' => B.iter prog w _ _ ⟨hp0, gg, dd, tt, oo⟩ _ pre q'
    wp_walk using qq
    refine wpAny_stack_any fun _ => wpAny_pure ?_
    split
    · rename_i cl _ _ _ _ _
      cases (cl == Value.type "enumerate") <;> (wp_walk using qq; exact ⟨_, rfl, hyp⟩)
    · wp_walk using qq
      exact ⟨_, rfl, hyp⟩
theorem vl_enumCall {prog : Program} {w : World} {A : Around} {E : Value → Shared → Prop} {s : Shared} {v : Value} {ob : Obj} {P : Heap → Prop} {Q : Value → Shared → Prop} (B : Begins v ob P) (pre : P s.heap)
    (h : ∀ g, IsEnum g (s.heap.objs.size + 1) s.heap.objs.size 0 .none → g.get? s.heap.objs.size = some ob → (∀ b u, s.heap.get? b = some u → g.get? b = some u) → Q (.ref (s.heap.objs.size + 1)) { s with heap := g }) :
    wpAny (model prog w) A (call (.type "enumerate") [v]) Q E s := by
  refine callType_new F.called_enumerate (by decide) (F.typeCall_enumerate_1 _) (F.newCall_enumerate_1 _) (fun ob => F.args_object_init_2 ob _) F.entry_enumerate_new (vl_enumNew B) ⟨pre, ?_⟩
  have z0 : (s.heap.push ob).objs.size = s.heap.objs.size + 1 := Heap.size_push ..
  show _ ∧ _
  rw [z0]
  have he := Heap.get?_push_size (s.heap.push ob) (o := { cls := .type "enumerate", data := .fields #[.none, .bool false, .ref s.heap.objs.size, rawInt 0, .none, .none] }) rfl
  rw [z0] at he
  exact ⟨⟨_, he, rfl⟩, h _ he (Heap.get?_push_of_some _ (Heap.get?_push_size _ B.free)) fun b u y => Heap.get?_push_of_some _ (Heap.get?_push_of_some _ y)⟩
end PySem
namespace Vl
open PySem PySem.Spec PyProof.Rows L2

/-! ### a list or a tuple -/
def SqK (K : PySem.W.Frag) (kd : Bool) (H : Hp) (a : Addr) (xs : List V) : Prop := match kd with
  | true => SqL K H a xs
  | false => SqT K H a xs
def itAt (kd : Bool) (h : Heap) (it a : Addr) (j : Nat) : Prop := match kd with
  | true => h.IsListIter it a j
  | false => h.IsTupleIter it a j
def sqAt (kd : Bool) (h : Heap) (a : Addr) (us : Array Value) : Prop := match kd with
  | true => h.IsList a us
  | false => h.IsTuple a us
def itOb (kd : Bool) (a : Addr) : Obj := match kd with
  | true => { cls := .type "list_iterator", data := .fields #[.ref a, .int 0 0] }
  | false => { cls := .type "tuple_iterator", data := .fields #[.ref a, .int 0 0] }
theorem draws_k {prog : Program} {w : World} {A : Around} (hh : A.handled = none) (kd : Bool) (it a : Addr) (hne : a ≠ it) (us : Array Value) : Draws prog w A it [it, a] us.size (fun j v => us[j]? = some v) (fun j h => itAt kd h it a j ∧ sqAt kd h a us) := by
  cases kd
  · exact Draws.tuple hh it a hne us
  · exact Draws.list hh it a hne us
theorem begins_k (kd : Bool) (a : Addr) (us : Array Value) : Begins (.ref a) (itOb kd a) (fun h => sqAt kd h a us) := by
  cases kd
  · exact begins_tuple a us
  · exact begins_list a us
theorem itAt_new {kd : Bool} {g : Heap} {it a : Addr} (h : g.get? it = some (itOb kd a)) : itAt kd g it a 0 := by
  cases kd
  · exact ⟨_, h, rfl, rfl⟩
  · exact ⟨_, h, rfl, rfl⟩
theorem itAt.flds {kd : Bool} {g : Heap} {it a : Addr} {j : Nat} (h : itAt kd g it a j) : ∃ o vs, g.get? it = some o ∧ o.data = .fields vs := by
  cases kd
  · obtain ⟨o, h1, _, h2⟩ := h
    exact ⟨o, _, h1, h2⟩
  · obtain ⟨o, h1, _, h2⟩ := h
    exact ⟨o, _, h1, h2⟩
theorem itAt.mono {kd : Bool} {g g' : Heap} {it a : Addr} {j : Nat} (h : itAt kd g it a j) (k : ∀ o, g.get? it = some o → g'.get? it = some o) : itAt kd g' it a j := by
  cases kd
  · obtain ⟨o, h1, h2, h3⟩ := h
    exact ⟨o, k o h1, h2, h3⟩
  · obtain ⟨o, h1, h2, h3⟩ := h
    exact ⟨o, k o h1, h2, h3⟩
theorem sqAt.seqs {kd : Bool} {g : Heap} {a : Addr} {us : Array Value} (h : sqAt kd g a us) : ∃ o n, g.get? a = some o ∧ o.data = .seq us n := by
  cases kd
  · obtain ⟨o, h1, _, n, h2⟩ := h
    exact ⟨o, n, h1, h2⟩
  · obtain ⟨o, h1, _, n, h2⟩ := h
    exact ⟨o, n, h1, h2⟩
theorem fld_ne {g : Heap} {a b : Addr} {o o' : Obj} {vs : Array Value} {us : Array Value} {n : Nat} (h : g.get? a = some o) (hd : o.data = .fields vs) (k : g.get? b = some o') (kd : o'.data = .seq us n) : b ≠ a := by
  rintro rfl
  rw [h] at k
  cases k
  rw [hd] at kd
  cases kd
section
variable {X : Cx} {pins : List (Addr × Obj)} {σ : L2.St} {H : Hp} {s : Shared}
theorem inv_k (I : Inv X pins σ H s) {kd : Bool} {a : Addr} {xs : List V} (h : SqK X.K kd H a xs) : ∃ its : List Value, Vals xs its ∧ sqAt kd s.heap a its.toArray ∧ xs.length ≤ sizeLine := by
  cases kd
  · obtain ⟨its, r, q, z⟩ := I.tuple h
    exact ⟨its, r, q, z⟩
  · obtain ⟨its, r, q, z⟩ := I.list h
    exact ⟨its, r, q.isList, z⟩
theorem inj_k (I : Inv X pins σ H s) {kd : Bool} {a : Addr} {xs ys : List V} (h : SqK X.K kd H a xs) (k : SqK X.K kd H a ys) : xs = ys := by
  cases kd
  · exact I.tuple_inj h k
  · exact I.list_inj h k
end
theorem Sub.sqK {K : PySem.W.Frag} {G H : Hp} {kd : Bool} {a : Addr} {xs : List V} (s : Sub G H) (h : SqK K kd G a xs) : SqK K kd H a xs := by
  cases kd
  · exact s.sqT h
  · exact s.sqL h

/-! ### enumerate of a list or a tuple -/
def IteK (K : PySem.W.Frag) (kd : Bool) (a : Addr) (n : Nat) : It :=
  ⟨fun j H => ∃ (xs : List V) (x : V), SqK K kd H a xs ∧ xs.length = n ∧ xs[j]? = some x, fun j H v H' => ∃ T x, v = .ref T ∧ H T = none ∧ H' = upd H T (.tup [.int (j : Nat), x]) ∧ ∀ xs, SqK K kd H a xs → xs[j]? = some x, fun j H => ∃ xs : List V, SqK K kd H a xs ∧ xs.length = n ∧ n ≤ j⟩
theorem turn_enumK {P : Program} {w : World} {K : PySem.W.Frag} {elts : List Expr} {kk : Nat} {tpos : Pos} (kd : Bool) (a en it : Addr) (n : Nat) : Turn P w K (.Tuple elts kk tpos) (IteK K kd a n) [en, it] en (fun j h => (∃ old, IsEnum h en it ((j : Nat) : Int) old) ∧ itAt kd h it a j ∧ en ≠ it ∧ j ≤ n) where
  mem := by simp
  obj := fun j h st b hb => by
    obtain ⟨⟨old, he⟩, hi, _⟩ := st
    obtain ⟨o, vs, ho, hd⟩ := hi.flds
    have hb' : b = en ∨ b = it := by simpa using hb
    rcases hb' with rfl | rfl
    · exact ⟨_, he, fun v z => nomatch z⟩
    · exact ⟨o, ho, fun v z => by rw [hd] at z; cases z⟩
  keep := fun j h h' st k => by
    obtain ⟨⟨old, he⟩, hi, hne⟩ := st
    exact ⟨⟨old, k en (by simp) _ he⟩, hi.mono fun o z => k it (by simp) o z, hne⟩
  item := by
    intro X eP ew eK hcalm j pins s σ H E I hf st hg
    subst eP ew eK
    obtain ⟨⟨old, he⟩, hit, hne, _⟩ := st
    obtain ⟨xs, x, hxs, hn, hx⟩ := hg
    obtain ⟨its, rv, hs, _⟩ := inv_k I hxs
    obtain ⟨u, hu, ru⟩ := rv.get hx
    have hel : en < s.heap.objs.size := Heap.lt_size he
    obtain ⟨o1, v1, ho1, hd1⟩ := hit.flds
    obtain ⟨o2, n2, ho2, hd2⟩ := hs.seqs
    have hil : it < s.heap.objs.size := Heap.lt_size ho1
    have ai : a ≠ it := fld_ne ho1 hd1 ho2 hd2
    have ae : a ≠ en := fld_ne he rfl ho2 hd2
    have Dr := draws_k (prog := X.prog) (w := X.w) (A := X.A.in1) (I.ok.hd hcalm) kd it a ai its.toArray
    have hj0 := (List.getElem?_eq_some_iff.mp hu).1
    have hj : j < its.toArray.size := by simpa using hj0
    have hjn : j + 1 ≤ n := by
      have := rv.length
      omega
    refine wpAny_pyNext_enum_itemD Dr he ⟨hit, hs⟩ hj hne (by simp [hne, Ne.symm ae]) fun y g tk hy hout st' hT hsz hk => ?_
    have ey : y = u := by
      have hy' : its[j]? = some y := by simpa using hy
      exact Option.some.inj (hy'.symm.trans hu)
    subst ey
    refine ⟨_, rfl, wpAny_letOwnedTupleGo_enum (s := { s with heap := g, toks := tk + 1 }) hout fun g2 he2 sb => ?_⟩
    have hT2 : g2.get? s.heap.objs.size = some { cls := .type "tuple", data := .seq #[.int j tk, y] } := (sb.2 _ (Nat.ne_of_gt hel)).trans hT
    have fresh : ObjOk X.prog X.w (upd H s.heap.objs.size (.tup [.int (j : Nat), x])) g2 s.heap.objs.size (.tup [.int (j : Nat), x]) := ⟨by show 2 ≤ sizeLine; decide, [.int j tk, y], .cons ⟨_, rfl⟩ (.cons ru .nil), ⟨_, hT2, rfl, _, rfl⟩⟩
    have I1 : Inv X pins σ (upd H s.heap.objs.size (.tup [.int (j : Nat), x])) { s with heap := g2, toks := tk + 1 } := I.turnedNew (ch := [en, it]) (fun b ob hb z => (sb.2 b (fun e => hb (by simp [e]))).trans (hk b ob (fun e => hb (by simp [e])) (fun e => hb (by simp [e])) z)) hf (Nat.le_refl _) fresh
    refine ⟨.ref s.heap.objs.size, _, I1, rfl, ⟨_, x, rfl, I.hok.fresh (Nat.le_refl _), rfl, fun ys hys => by rw [inj_k I hys hxs]; exact hx⟩, ⟨⟨y, ?_⟩, st'.1.mono fun o z => (sb.2 it (Ne.symm hne)).trans z, hne, hjn⟩, fun b hb => ?_⟩
    · rw [show ((j + 1 : Nat) : Int) = (j : Int) + 1 by omega]
      exact he2
    · have hb' : b < s.heap.objs.size := by
        have h2 : b = en ∨ b = it := by simpa using hb
        rcases h2 with rfl | rfl
        · exact hel
        · exact hil
      rw [upd_ne (Nat.ne_of_lt hb')]
      exact (hf b hb).1
  done := by
    intro X eP ew eK hcalm j pins s σ H E I hf st hg
    subst eP ew eK
    obtain ⟨⟨old, he⟩, hit, hne, hjn⟩ := st
    obtain ⟨xs, hxs, hn, hx⟩ := hg
    obtain ⟨its, rv, hs, _⟩ := inv_k I hxs
    obtain ⟨f0, f1, f2, f3, f4, f5⟩ := hf it (by simp)
    have hl := rv.length
    obtain ⟨o1, v1, ho1, hd1⟩ := hit.flds
    obtain ⟨o2, n2, ho2, hd2⟩ := hs.seqs
    have ai : a ≠ it := fld_ne ho1 hd1 ho2 hd2
    have Dr := draws_k (prog := X.prog) (w := X.w) (A := X.A.in1) (I.ok.hd hcalm) kd it a ai its.toArray
    have ej : j = its.toArray.size := by
      rw [List.size_toArray]
      omega
    subst ej
    exact wpAny_pyNext_enum_endD Dr he ⟨hit, hs⟩ fun g eb => ⟨rfl, I.turned (t' := s.toks) (fun b o hb z => eb b o hb z) f0 f1 f3 f4 f5⟩
  self := fun A j s Q E st h => by
    obtain ⟨⟨_, he⟩, _⟩ := st
    exact wpAny_pyIter_enum he h
def iEnumK (K : PySem.W.Frag) (ta : TA) : TI := fun σ H R => ta σ H fun vs H1 => ∃ (kd : Bool) (a : Addr) (xs : List V), vs = [.ref a] ∧ SqK K kd H1 a xs ∧ R (IteK K kd a xs.length) H1
theorem pi_enumK {X : Cx} {e : Expr} {ta : TA} {p pos tpos : Pos} {elts : List Expr} {kk : Nat} (hg : Gl X "enumerate") (hm : X.mg "enumerate" = none) (ha : PA X [e] ta) (hs : starEach [e] X.env = [(false, eval e X.env)] := by rfl) : PI X (.Tuple elts kk tpos) (.Call (.Name "enumerate" p) [e] [] pos) (iEnumK X.K ta) := by
  refine ⟨fun pins s σ H R I h => ?_⟩
  refine Call_ (ld_blt I hg hm boot_enumerate (PyProof.Rows.callWith_type1 (thn (ha.run pos pins s σ H _ I h) fun us t ⟨vs, H1, I1, r1, q1⟩ => ?_) hs rfl))
  obtain ⟨kd, a, xs, rfl, hq, q⟩ := q1
  obtain ⟨u, rfl, ru⟩ := vals1 r1
  cases ru
  obtain ⟨its, rv, hsq, _⟩ := inv_k I1 hq
  refine vl_enumCall (begins_k kd a its.toArray) hsq fun g he hit hk => wpAny_pyIter_enum he ?_
  have I2 : Inv X pins σ H1 { t with heap := g } := I1.kept (t' := t.toks) hk
  refine ⟨t.heap.objs.size + 1, [t.heap.objs.size + 1, t.heap.objs.size], _, _, H1, rfl, I2, turn_enumK kd a (t.heap.objs.size + 1) t.heap.objs.size xs.length, ⟨⟨.none, he⟩, itAt_new hit, Nat.succ_ne_self _, Nat.zero_le _⟩, fun b hb => ?_, q⟩
  have hle : t.heap.objs.size ≤ b := by
    have h2 : b = t.heap.objs.size + 1 ∨ b = t.heap.objs.size := by simpa using hb
    rcases h2 with rfl | rfl
    · exact Nat.le_add_right _ _
    · exact Nat.le_refl _
  exact I1.fpOk hle (I1.hok.fresh hle)
/-- what is walked: a pure list or tuple -/
def seqKd : D → Option (Bool × List D)
  | .lst ds => some (true, ds)
  | .tup ds => some (false, ds)
  | _ => none
theorem Rp.seqKd {K : PySem.W.Frag} {G : Hp} {d : D} {v : V} {kd : Bool} {ds : List D} (h : Rp K G d v) (e : Vl.seqKd d = some (kd, ds)) : ∃ a vs, v = .ref a ∧ SqK K kd G a vs ∧ Rps K G ds vs := by
  cases d with
  | lst xs =>
    cases e
    unfold Rp at h
    exact h
  | tup xs =>
    cases e
    unfold Rp at h
    exact h
  | _ => cases e
theorem walk_enumK {K : PySem.W.Frag} {kd : Bool} {a : Addr} {ds : List D} {vs : List V} {G H : Hp} {l : List Addr} (h : SqK K kd G a vs) (hs : Rps K G ds vs) : Walk K (IteK K kd a vs.length) (ds.zipIdx.map fun p => D.tup [.int (p.2 : Nat), p.1]) G H l := fun E e σ G' H' i R => by
  have q : SqK K kd H' a vs := R.sub.sqK (R.frm.up.sqK h)
  have hs' := Rps.mono R.frm.up ds vs hs
  have hl := Rps.len ds vs hs
  refine ⟨fun d hd => ?_, fun hi => ⟨vs, q, rfl, by rw [hl]; simpa using hi⟩⟩
  rw [List.getElem?_map, List.getElem?_zipIdx] at hd
  cases hc : ds[i]? with
  | none => rw [hc] at hd; cases hd
  | some d0 =>
    rw [hc] at hd
    cases hd
    obtain ⟨v, hv, rv⟩ := Rps.get ds vs i d0 hs' hc
    refine ⟨⟨vs, v, q, rfl, hv⟩, fun y H2 hy => ?_⟩
    obtain ⟨T, x, rfl, hT, rfl, f⟩ := hy
    have ev : x = v := Option.some.inj ((f vs q).symm.trans hv)
    subst ev
    rw [Nat.zero_add]
    have N := R.newTup (ds := [.int (i : Nat), d0]) (vs := [.int (i : Nat), x]) hT (Rps.cons rp_int (Rps.one rv))
    exact ⟨_, N.tail, N.headRp⟩
def kEnumK (post : List D → Env → Prop) (ds : List D) (e : Env) : Prop := on1 ds fun d => onOpt (seqKd d) fun p => post (p.2.zipIdx.map fun p => D.tup [.int (p.2 : Nat), p.1]) e
def wEnumK (a : WP) : WI := fun x e post => a x e (kEnumK post)
theorem snd_iEnumK {K : PySem.W.Frag} {ta : TA} {a : WP} (h : SndP K ta a) : SndI K (iEnumK K ta) (wEnumK a) := fun φ e σ G H x post Q R X t q => by
  refine h φ e σ G H x _ _ R X t fun ds e1 vs G1 H1 p R1 hs => ?_
  obtain ⟨d, rfl, p1⟩ := on1_iff.mp p
  obtain ⟨⟨kd, ds⟩, hk, p2⟩ := onOpt_iff.mp p1
  obtain ⟨v, rfl, rv⟩ := hs.un1
  obtain ⟨l, ws, rfl, hl, hw⟩ := Rp.seqKd rv hk
  exact ⟨kd, l, ws, rfl, R1.sub.sqK hl, q _ e1 _ G1 H1 p2 R1 (walk_enumK hl hw)⟩
theorem vi_enumK {X : Cx} {e : Expr} {ta : TA} {wp : WP} {p pos tpos : Pos} {elts : List Expr} {kk : Nat} (hg : Gl X "enumerate") (hm : X.mg "enumerate" = none) (ha : VP X [e] ta wp) (hs : starEach [e] X.env = [(false, eval e X.env)] := by rfl) :
    VI X (.Tuple elts kk tpos) (.Call (.Name "enumerate" p) [e] [] pos) (iEnumK X.K ta) (wEnumK wp) := ⟨pi_enumK hg hm ha.pa hs, snd_iEnumK ha.snd⟩
theorem e_enumK {a : WP} {x : XP} {e : Env} {post : List D → Env → Prop} : wEnumK a x e post = a x e (kEnumK post) := rfl
theorem e_kenumK1 {xs : List D} {e : Env} {post : List D → Env → Prop} : kEnumK post [.lst xs] e = post (xs.zipIdx.map fun p => D.tup [.int (p.2 : Nat), p.1]) e := rfl
theorem e_kenumK2 {xs : List D} {e : Env} {post : List D → Env → Prop} : kEnumK post [.tup xs] e = post (xs.zipIdx.map fun p => D.tup [.int (p.2 : Nat), p.1]) e := rfl

/-! ### zip of lists and tuples -/
def ItzK (K : PySem.W.Frag) (k1 k2 : Bool) (a b : Addr) (n m : Nat) : It :=
  ⟨fun i H => ∃ (xs ys : List V) (x y : V), SqK K k1 H a xs ∧ SqK K k2 H b ys ∧ xs.length = n ∧ ys.length = m ∧ xs[i]? = some x ∧ ys[i]? = some y,
    fun i H v H' => ∃ T x y, v = .ref T ∧ H T = none ∧ H' = upd H T (.tup [x, y]) ∧ (∀ xs, SqK K k1 H a xs → xs[i]? = some x) ∧ ∀ ys, SqK K k2 H b ys → ys[i]? = some y,
    fun i H => ∃ xs ys : List V, SqK K k1 H a xs ∧ SqK K k2 H b ys ∧ xs.length = n ∧ ys.length = m ∧ (n ≤ i ∨ m ≤ i)⟩
theorem tup2_obj {g : Heap} {T : Addr} {x y : Value} (h : IsTupOf2 g T x y) : ∃ o, g.get? T = some o ∧ ∀ v, o.data ≠ .cell v := ⟨_, h, fun v z => nomatch z⟩
theorem turn_zipK {P : Program} {w : World} {K : PySem.W.Frag} {elts : List Expr} {kk : Nat} {tpos : Pos} {k1 k2 : Bool} {a b z TI TO i1 i2 : Addr} {n m : Nat} (S : ZipSep2 z TI TO i1 i2 [i1, a] [i2, b]) (hai : a ≠ i1) (hbi : b ≠ i2) :
    Turn P w K (.Tuple elts kk tpos) (ItzK K k1 k2 a b n m) [z, TI, TO, i1, i2] z (fun i h => IsZip h z TI TO .none ∧ IsTupOf2 h TI (.ref i1) (.ref i2) ∧ (∃ x y, IsTupOf2 h TO x y) ∧ itAt k1 h i1 a i ∧ itAt k2 h i2 b i ∧ i ≤ n ∧ i ≤ m) where
  mem := by simp
  obj := fun i h st c hc => by
    obtain ⟨hz, hTI, ⟨x, y, hTO⟩, h1, h2, _⟩ := st
    obtain ⟨o1, w1, e1, d1⟩ := h1.flds
    obtain ⟨o2, w2, e2, d2⟩ := h2.flds
    have hc' : c = z ∨ c = TI ∨ c = TO ∨ c = i1 ∨ c = i2 := by simpa using hc
    rcases hc' with rfl | rfl | rfl | rfl | rfl
    · exact ⟨_, hz, fun v q => nomatch q⟩
    · exact tup2_obj hTI
    · exact tup2_obj hTO
    · exact ⟨o1, e1, fun v q => by rw [d1] at q; cases q⟩
    · exact ⟨o2, e2, fun v q => by rw [d2] at q; cases q⟩
  keep := fun i h h' st k => by
    obtain ⟨hz, hTI, ⟨x, y, hTO⟩, h1, h2, hr⟩ := st
    exact ⟨k z (by simp) _ hz, k TI (by simp) _ hTI, ⟨x, y, k TO (by simp) _ hTO⟩, h1.mono fun o q => k i1 (by simp) o q, h2.mono fun o q => k i2 (by simp) o q, hr⟩
  item := by
    intro X eP ew eK hcalm i pins s σ H E I hf st hg
    subst eP ew eK
    obtain ⟨hz, hTI, ⟨x0, y0, hTO⟩, h1, h2, _⟩ := st
    obtain ⟨xs, ys, x, y, hxs, hys, hn, hm, hx, hy⟩ := hg
    obtain ⟨its, rv, hs1, _⟩ := inv_k I hxs
    obtain ⟨ity, rv2, hs2, _⟩ := inv_k I hys
    obtain ⟨u, hu, ru⟩ := rv.get hx
    obtain ⟨u2, hu2, ru2⟩ := rv2.get hy
    have hzl : z < s.heap.objs.size := Heap.lt_size hz
    have D1 := draws_k (prog := X.prog) (w := X.w) (A := X.A.in1) (I.ok.hd hcalm) k1 i1 a hai its.toArray
    have D2 := draws_k (prog := X.prog) (w := X.w) (A := X.A.in1) (I.ok.hd hcalm) k2 i2 b hbi ity.toArray
    have b1 := (List.getElem?_eq_some_iff.mp hu).1
    have b2 := (List.getElem?_eq_some_iff.mp hu2).1
    have l1 := rv.length
    have l2 := rv2.length
    refine wpAny_pyNext_zipD2_item S D1 D2 hz hTI hTO ⟨h1, hs1⟩ ⟨h2, hs2⟩ (by simpa using b1) (by simpa using b2) fun c1 c2 g tk q1 q2 z' TO' t1 t2 hT hsz hk => ?_
    have e1 : c1 = u := by
      have q1' : its[i]? = some c1 := by simpa using q1
      exact Option.some.inj (q1'.symm.trans hu)
    have e2 : c2 = u2 := by
      have q2' : ity[i]? = some c2 := by simpa using q2
      exact Option.some.inj (q2'.symm.trans hu2)
    subst e1 e2
    refine ⟨_, rfl, wpAny_letOwnedTupleGo_zip (s := { s with heap := g, toks := tk }) z' fun g2 z2 sb => ?_⟩
    have hT2 : g2.get? s.heap.objs.size = some { cls := .type "tuple", data := .seq #[c1, c2] } := (sb.2 _ (Nat.ne_of_gt hzl)).trans hT
    have fresh : ObjOk X.prog X.w (upd H s.heap.objs.size (.tup [x, y])) g2 s.heap.objs.size (.tup [x, y]) := ⟨by show 2 ≤ sizeLine; decide, [c1, c2], .cons ru (.cons ru2 .nil), ⟨_, hT2, rfl, _, rfl⟩⟩
    have I1 : Inv X pins σ (upd H s.heap.objs.size (.tup [x, y])) { s with heap := g2, toks := tk } := I.turnedNew (ch := [z, TI, TO, i1, i2]) (fun c o hb q => (sb.2 c (fun e => hb (by simp [e]))).trans (hk c o (fun e => hb (by simp [e])) (fun e => hb (by simp [e])) (fun e => hb (by simp [e])) (fun e => hb (by simp [e])) q)) hf (Nat.le_refl _) fresh
    refine ⟨.ref s.heap.objs.size, _, I1, rfl, ⟨_, x, y, rfl, I.hok.fresh (Nat.le_refl _), rfl, fun l hl => by rw [inj_k I hl hxs]; exact hx, fun l hl => by rw [inj_k I hl hys]; exact hy⟩, ⟨z2, ?_, ⟨c1, c2, ?_⟩, ?_, ?_, by omega, by omega⟩, fun c hcm => ?_⟩
    · exact (sb.2 _ S.TIz).trans (hk _ _ S.TIz S.TITO S.TIi1 S.TIi2 hTI)
    · exact (sb.2 _ S.TOz).trans TO'
    · exact t1.1.mono fun o q => (sb.2 _ (Ne.symm S.zi1)).trans q
    · exact t2.1.mono fun o q => (sb.2 _ (Ne.symm S.zi2)).trans q
    · obtain ⟨o1, _, e1, _⟩ := h1.flds
      obtain ⟨o2, _, e2, _⟩ := h2.flds
      have hlt : c < s.heap.objs.size := by
        have hc' : c = z ∨ c = TI ∨ c = TO ∨ c = i1 ∨ c = i2 := by simpa using hcm
        rcases hc' with rfl | rfl | rfl | rfl | rfl
        · exact hzl
        · exact Heap.lt_size hTI
        · exact Heap.lt_size hTO
        · exact Heap.lt_size e1
        · exact Heap.lt_size e2
      rw [upd_ne (Nat.ne_of_lt hlt)]
      exact (hf c hcm).1
  done := by
    intro X eP ew eK hcalm i pins s σ H E I hf st hg
    subst eP ew eK
    obtain ⟨hz, hTI, ⟨x0, y0, hTO⟩, h1, h2, hi1, hi2⟩ := st
    obtain ⟨xs, ys, hxs, hys, hn, hm, hend⟩ := hg
    obtain ⟨its, rv, hs1, _⟩ := inv_k I hxs
    obtain ⟨ity, rv2, hs2, _⟩ := inv_k I hys
    have l1 := rv.length
    have l2 := rv2.length
    have D1 := draws_k (prog := X.prog) (w := X.w) (A := X.A.in1) (I.ok.hd hcalm) k1 i1 a hai its.toArray
    have D2 := draws_k (prog := X.prog) (w := X.w) (A := X.A.in1) (I.ok.hd hcalm) k2 i2 b hbi ity.toArray
    have en1 : its.toArray.size = n := by rw [List.size_toArray]; omega
    have en2 : ity.toArray.size = m := by rw [List.size_toArray]; omega
    exact wpAny_pyNext_zipD2_end S D1 D2 hz hTI hTO ⟨h1, hs1⟩ ⟨h2, hs2⟩ (by omega) (by omega) (by omega) fun g tk hk => ⟨rfl, I.turnedL (t' := tk) (ch := [z, TI, TO, i1, i2]) (fun c o hb q => hk c o (fun e => hb (by simp [e])) (fun e => hb (by simp [e])) (fun e => hb (by simp [e])) (fun e => hb (by simp [e])) q) hf⟩
  self := fun A i s Q E st h => wpAny_pyIter_zip st.1 h
def iZipK (K : PySem.W.Frag) (ta : TA) : TI := fun σ H R => ta σ H fun vs H1 => ∃ (k1 k2 : Bool) (a b : Addr) (xs ys : List V), vs = [.ref a, .ref b] ∧ SqK K k1 H1 a xs ∧ SqK K k2 H1 b ys ∧ R (ItzK K k1 k2 a b xs.length ys.length) H1
theorem pi_zipK {X : Cx} {e e2 : Expr} {ta : TA} {p pos tpos : Pos} {elts : List Expr} {kk : Nat} (hg : Gl X "zip") (hm : X.mg "zip" = none) (ha : PA X [e, e2] ta) (hs : starEach [e, e2] X.env = (false, eval e X.env) :: starEach [e2] X.env := by rfl) (hpl : (backTo pos (starEach [e2] X.env)).any (·.1) = false := by rfl) : PI X (.Tuple elts kk tpos) (.Call (.Name "zip" p) [e, e2] [] pos) (iZipK X.K ta) := by
  refine ⟨fun pins s σ H R I h => ?_⟩
  refine Call_ (ld_blt I hg hm PyProof.Rows.boot_zip (PyProof.Rows.callWith_type1 (thn (ha.run pos pins s σ H _ I h) fun us t ⟨vs, H1, I1, r1, q1⟩ => ?_) hs hpl))
  obtain ⟨k1, k2, a, b, xs, ys, rfl, hqx, hqy, q⟩ := q1
  obtain ⟨u1, u2, rfl, e1, e2⟩ := vals2 r1
  cases e1
  cases e2
  obtain ⟨its, rv, hs1, _⟩ := inv_k I1 hqx
  obtain ⟨ity, rv2, hs2, _⟩ := inv_k I1 hqy
  obtain ⟨oa, na, ha1, ha2⟩ := hs1.seqs
  obtain ⟨ob, nb, hb1, hb2⟩ := hs2.seqs
  have la : a < t.heap.objs.size := Heap.lt_size ha1
  have lb : b < t.heap.objs.size := Heap.lt_size hb1
  refine zip_begins2 (begins_k k1 a its.toArray) (begins_k k2 b ity.toArray) hs1 hs2 fun g hz hTI hTO g1 g2 hsz hk => wpAny_pyIter_zip hz ?_
  have I2 : Inv X pins σ H1 { t with heap := g } := I1.kept (t' := t.toks) hk
  have S := zip_sep2 (N := t.heap.objs.size) (fp1 := [a]) (fp2 := [b]) (fun c hc => by rw [List.mem_singleton.mp hc]; exact la) (fun c hc => by rw [List.mem_singleton.mp hc]; exact lb)
  refine ⟨t.heap.objs.size + 4, [t.heap.objs.size + 4, t.heap.objs.size + 2, t.heap.objs.size + 3, t.heap.objs.size, t.heap.objs.size + 1], _, _, H1, rfl, I2, turn_zipK S (Nat.ne_of_lt la) (Nat.ne_of_lt (Nat.lt_succ_of_lt lb)), ⟨hz, hTI, ⟨_, _, hTO⟩, itAt_new g1, itAt_new g2, Nat.zero_le _, Nat.zero_le _⟩, fun c hc => ?_, q⟩
  have hle : t.heap.objs.size ≤ c := by
    have hc' : c = t.heap.objs.size + 4 ∨ c = t.heap.objs.size + 2 ∨ c = t.heap.objs.size + 3 ∨ c = t.heap.objs.size ∨ c = t.heap.objs.size + 1 := by simpa using hc
    rcases hc' with rfl | rfl | rfl | rfl | rfl
    · exact Nat.le_add_right _ _
    · exact Nat.le_add_right _ _
    · exact Nat.le_add_right _ _
    · exact Nat.le_refl _
    · exact Nat.le_add_right _ _
  exact I1.fpOk hle (I1.hok.fresh hle)
theorem walk_zipK {K : PySem.W.Frag} {k1 k2 : Bool} {a b : Addr} {ds es : List D} {vs us : List V} {G H : Hp} {l : List Addr} (h : SqK K k1 G a vs) (hs : Rps K G ds vs) (k : SqK K k2 G b us) (ks : Rps K G es us) : Walk K (ItzK K k1 k2 a b vs.length us.length) ((ds.zip es).map fun p => D.tup [p.1, p.2]) G H l := fun E e σ G' H' i R => by
  have q : SqK K k1 H' a vs := R.sub.sqK (R.frm.up.sqK h)
  have q2 : SqK K k2 H' b us := R.sub.sqK (R.frm.up.sqK k)
  have hs' := Rps.mono R.frm.up ds vs hs
  have ks' := Rps.mono R.frm.up es us ks
  have l1 := Rps.len ds vs hs
  have l2 := Rps.len es us ks
  refine ⟨fun d hd => ?_, fun hi => ⟨vs, us, q, q2, rfl, rfl, by simp at hi; omega⟩⟩
  rw [List.getElem?_map, Option.map_eq_some_iff] at hd
  obtain ⟨pr, hp, rfl⟩ := hd
  rw [List.getElem?_zip_eq_some] at hp
  obtain ⟨v, hv, rv⟩ := Rps.get ds vs i _ hs' hp.1
  obtain ⟨u, hu, ru⟩ := Rps.get es us i _ ks' hp.2
  refine ⟨⟨vs, us, v, u, q, q2, rfl, rfl, hv, hu⟩, fun y H2 hy => ?_⟩
  obtain ⟨T, x, z, rfl, hT, rfl, f, g⟩ := hy
  have ev : x = v := Option.some.inj ((f vs q).symm.trans hv)
  have eu : z = u := Option.some.inj ((g us q2).symm.trans hu)
  subst ev eu
  have N := R.newTup (ds := [pr.1, pr.2]) (vs := [x, z]) hT (Rps.cons rv (Rps.one ru))
  exact ⟨_, N.tail, N.headRp⟩
def kZipK (post : List D → Env → Prop) (ds : List D) (e : Env) : Prop := match ds with
  | [d1, d2] => onOpt (seqKd d1) fun p => onOpt (seqKd d2) fun q => post ((p.2.zip q.2).map fun p => D.tup [p.1, p.2]) e
  | _ => False
def wZipK (a : WP) : WI := fun x e post => a x e (kZipK post)
theorem snd_iZipK {K : PySem.W.Frag} {ta : TA} {a : WP} (h : SndP K ta a) : SndI K (iZipK K ta) (wZipK a) := fun φ e σ G H x post Q R X t q => by
  refine h φ e σ G H x _ _ R X t fun ds e1 vs G1 H1 p R1 hs => ?_
  unfold kZipK at p
  split at p
  · rename_i d1 d2
    obtain ⟨⟨k1, xs⟩, hk1, p1⟩ := onOpt_iff.mp p
    obtain ⟨⟨k2, ys⟩, hk2, p2⟩ := onOpt_iff.mp p1
    unfold Rps at hs
    obtain ⟨v, r, rfl, rv, hs2⟩ := hs
    obtain ⟨u, rfl, ru⟩ := hs2.un1
    obtain ⟨l, ws, rfl, hl, hw⟩ := Rp.seqKd rv hk1
    obtain ⟨l2, ws2, rfl, hl2, hw2⟩ := Rp.seqKd ru hk2
    exact ⟨k1, k2, l, l2, ws, ws2, rfl, R1.sub.sqK hl, R1.sub.sqK hl2, q _ e1 _ G1 H1 p2 R1 (walk_zipK hl hw hl2 hw2)⟩
  · exact p.elim
theorem vi_zipK {X : Cx} {e e2 : Expr} {ta : TA} {wp : WP} {p pos tpos : Pos} {elts : List Expr} {kk : Nat} (hg : Gl X "zip") (hm : X.mg "zip" = none) (ha : VP X [e, e2] ta wp)
    (hs : starEach [e, e2] X.env = (false, eval e X.env) :: starEach [e2] X.env := by rfl) (hpl : (backTo pos (starEach [e2] X.env)).any (·.1) = false := by rfl) :
    VI X (.Tuple elts kk tpos) (.Call (.Name "zip" p) [e, e2] [] pos) (iZipK X.K ta) (wZipK wp) := ⟨pi_zipK hg hm ha.pa hs hpl, snd_iZipK ha.snd⟩
theorem e_zipK {a : WP} {x : XP} {e : Env} {post : List D → Env → Prop} : wZipK a x e post = a x e (kZipK post) := rfl
theorem e_kzipK1 {xs ys : List D} {e : Env} {post : List D → Env → Prop} : kZipK post [.lst xs, .lst ys] e = post ((xs.zip ys).map fun p => D.tup [p.1, p.2]) e := rfl
theorem e_kzipK2 {xs ys : List D} {e : Env} {post : List D → Env → Prop} : kZipK post [.lst xs, .tup ys] e = post ((xs.zip ys).map fun p => D.tup [p.1, p.2]) e := rfl
theorem e_kzipK3 {xs ys : List D} {e : Env} {post : List D → Env → Prop} : kZipK post [.tup xs, .lst ys] e = post ((xs.zip ys).map fun p => D.tup [p.1, p.2]) e := rfl
theorem e_kzipK4 {xs ys : List D} {e : Env} {post : List D → Env → Prop} : kZipK post [.tup xs, .tup ys] e = post ((xs.zip ys).map fun p => D.tup [p.1, p.2]) e := rfl
theorem e_at5 {α : Type} {a b c d f g : α} {r : List α} {k : α → Prop} : onAt (g :: f :: d :: c :: b :: a :: r) (5 : Int) k = k a := onAt_nat (j := 5) rfl
theorem e_at6 {α : Type} {a b c d f g h : α} {r : List α} {k : α → Prop} : onAt (h :: g :: f :: d :: c :: b :: a :: r) (6 : Int) k = k a := onAt_nat (j := 6) rfl
theorem lcL_filterE {T : Type} {x : XP} {g : WG} {c : WT} {b : WE} {vs : List Nat} {k : List D → Env → Prop} (f : T → D) (ts : List T) (p : T → Bool) (h : T → D) (E : Env → Prop) {e : Env}
    (hs : ∀ t ∈ ts, ∀ e, E e → ∀ (acc : List D) (F : List D → Env → Prop), (p t = true → ∀ e', E e' → F (acc ++ [h t]) e') → (p t = false → ∀ e', E e' → F acc e') → g (f t) e (kl1 x c b vs F acc)) (hk : ∀ e, E e → k ((ts.filter p).map h) e) (he : E e) : lcL x g c b vs (ts.map f) [] e k :=
  lcL_map f ts (fun dn _ acc e' => acc = (dn.filter p).map h ∧ E e') (fun acc e' ⟨h1, h2⟩ => by subst h1; exact hk e' h2)
    (fun dn t tl acc e' h1 ⟨h2, h3⟩ F hF => by
      subst h2
      refine hs t (by rw [← h1]; simp) e' h3 _ F (fun c e2 he2 => hF _ _ ⟨?_, he2⟩) (fun c e2 he2 => hF _ _ ⟨?_, he2⟩)
      · rw [List.filter_append, List.map_append]
        simp [c]
      · rw [List.filter_append]
        simp [c]) ⟨rfl, he⟩
theorem lcL_allE {T : Type} {x : XP} {g : WG} {c : WT} {b : WE} {vs : List Nat} {k : List D → Env → Prop} (f : T → D) (ts : List T) (h : T → D) (E : Env → Prop) {e : Env}
    (hs : ∀ t ∈ ts, ∀ e, E e → ∀ (acc : List D) (F : List D → Env → Prop), (∀ e', E e' → F (acc ++ [h t]) e') → g (f t) e (kl1 x c b vs F acc)) (hk : ∀ e, E e → k (ts.map h) e) (he : E e) : lcL x g c b vs (ts.map f) [] e k :=
  lcL_map f ts (fun dn _ acc e' => acc = dn.map h ∧ E e') (fun acc e' ⟨h1, h2⟩ => by subst h1; exact hk e' h2)
    (fun dn t tl acc e' h1 ⟨h2, h3⟩ F hF => by
      subst h2
      exact hs t (by rw [← h1]; simp) e' h3 _ F fun e2 he2 => hF _ _ ⟨by rw [List.map_append]; rfl, he2⟩) ⟨rfl, he⟩
theorem cut_from {α : Type} (xs : List α) (k : Int) (h0 : 0 ≤ k) : cut xs (some k) none = xs.drop k.toNat := by
  have e : k = (k.toNat : Int) := by omega
  unfold cut
  rw [e, HT.sIx_nat, HT.sIx_none, Int.toNat_natCast]
  by_cases h : k.toNat ≤ xs.length
  · rw [show min k.toNat xs.length = k.toNat by omega]
    rw [List.take_of_length_le]
    rw [List.length_drop]
    omega
  · rw [show min k.toNat xs.length = xs.length by omega]
    rw [List.drop_of_length_le (by omega), List.drop_of_length_le (by omega)]
    simp
theorem cut_mid {α : Type} (xs : List α) (i j : Int) (h0 : 0 ≤ i) (h1 : i ≤ j) (h2 : j ≤ xs.length) : cut xs (some i) (some j) = (xs.drop i.toNat).take (j - i).toNat := by
  have e : i = (i.toNat : Int) := by omega
  have e2 : j = (j.toNat : Int) := by omega
  unfold cut
  rw [e, e2, HT.sIx_nat, HT.sIx_nat]
  rw [show min i.toNat xs.length = i.toNat by omega, show min j.toNat xs.length = j.toNat by omega]
  congr 1
  omega
end Vl

namespace Vl
open PySem L2
theorem look_rel {env : PySem.Env} {y : Str} : ∀ {names : List (Str × NameKind)}, (names.lookup y = some .cell ∨ names.lookup y = some .free) →
    ((names.map fun (n, k) => if (k == NameKind.free && env.scope.kind == .function && env.kindOf n == some .cell) then (n, NameKind.cell) else (n, k)).lookup y = some .cell ∨
     (names.map fun (n, k) => if (k == NameKind.free && env.scope.kind == .function && env.kindOf n == some .cell) then (n, NameKind.cell) else (n, k)).lookup y = some .free)
  | [], h => by rcases h with h | h <;> cases h
  | (n, k) :: r, h => by
    have ih := @look_rel env y r
    rw [List.map_cons]
    by_cases e : y = n
    · subst e
      rw [List.lookup_cons_self] at h
      dsimp only
      by_cases c0 : (k == NameKind.free && env.scope.kind == .function && env.kindOf y == some .cell) = true
      · rw [if_pos c0, List.lookup_cons_self]; exact .inl rfl
      · rw [if_neg c0, List.lookup_cons_self]; exact h
    · have e2 : (y == n) = false := beq_eq_false_iff_ne.mpr e
      rw [List.lookup_cons, e2] at h
      dsimp only
      by_cases c0 : (k == NameKind.free && env.scope.kind == .function && env.kindOf n == some .cell) = true
      · rw [if_pos c0, List.lookup_cons, e2]; exact ih h
      · rw [if_neg c0, List.lookup_cons, e2]; exact ih h
theorem blkOk_rel {N : List Str} {sc scope : Scope} {own : List (Str × Nat)} {env : PySem.Env} (h : blkC N sc scope own = true) : BlkOk N (relabel sc env) scope own :=
  have k := blkOk_by h
  ⟨k.kind, k.uniq, k.ix, fun y hy e => look_rel (k.free y hy e), k.own⟩
end Vl

namespace Vl
open PySem PySem.W PyProof.Rows PySem.Spec L2
/-! ### list(d.items()) -/
def updT : Hp → List Addr → List (Key × V) → Hp
  | H, a :: as, p :: kvs => updT (upd H a (.tup [kV p.1, p.2])) as kvs
  | H, _, _ => H
theorem updT_ne : ∀ (as : List Addr) (kvs : List (Key × V)) (H : Hp) (b : Addr), b ∉ as → updT H as kvs b = H b
  | [], _, _, _, _ => by unfold updT; rfl
  | a :: as, [], _, _, _ => by unfold updT; rfl
  | a :: as, p :: kvs, H, b, h => by
    unfold updT
    rw [updT_ne as kvs _ b fun hc => h (List.mem_cons_of_mem _ hc), upd_ne fun e => h (by rw [e]; exact List.mem_cons_self)]
def rItemsL : V → Hp → VK → Prop := fun x H Q => ∃ d kvs, x = .ref d ∧ (H d = some (.dK kvs) ∨ ∃ o, H d = some (.frz o (.dK kvs))) ∧
  ∀ (as : List Addr) (l : Addr), as.Nodup → as.length = kvs.length → l ∉ as → H l = none → (∀ a ∈ as, H a = none) → Q (.ref l) (upd (updT H as kvs) l (.lst (as.map V.ref)))
theorem hok_updT {P : Program} {w : World} {h : Heap} : ∀ (as : List Addr) (kvs : List (Key × V)) (H : Hp), HOk P w H h → as.Nodup → (∀ a ∈ as, H a = none) → as.length = kvs.length →
    (∀ (j : Nat) (a : Addr) (p : Key × V), as[j]? = some a → kvs[j]? = some p → ∃ key u, keyIs p.1 key = true ∧ RelV p.2 u ∧ h.get? a = some { cls := .type "tuple", data := .seq #[key, u] }) → HOk P w (updT H as kvs) h
  | [], _, H, x, _, _, _, _ => by unfold updT; exact x
  | a :: as, [], H, x, _, _, hl, _ => by cases hl
  | a :: as, p :: kvs, H, x, nd, hn, hl, hk => by
    unfold updT
    obtain ⟨key, u, k1, k2, k3⟩ := hk 0 a p rfl rfl
    rw [List.nodup_cons] at nd
    refine hok_updT as kvs _ (HOk.laidN x (fun _ _ e => e) (hn a List.mem_cons_self) ⟨by show 2 ≤ sizeLine; decide, [key, u], .cons (relV_key k1) (.cons k2 .nil), ⟨_, k3, rfl, _, rfl⟩⟩) nd.2 (fun b hb => ?_) (by simpa using hl) fun j b q h1 h2 => hk (j + 1) b q h1 h2
    rw [upd_ne fun e => nd.1 (by rw [← e]; exact hb)]
    exact hn b (List.mem_cons_of_mem _ hb)
theorem vals_refs : ∀ l : List Addr, Vals (l.map V.ref) (l.map Value.ref)
  | [] => .nil
  | a :: as => .cons rfl (vals_refs as)
theorem pe_listItems {X : Cx} {x : Str} {e : Expr} {td : TE} {p pos apos cpos : Pos} (hc : X.calm = true) (he : PE X e td) (hg : Gl X x) (hm : X.mg x = none) (hv : bootBuiltins x = some (.type "list")) (hn : x ≠ "__name__" := by decide) (hdb : (x == ("__debug__" : Str)) = false := by decide)
    (hbase : attributeBase e "items" X.env (eval e X.env) = eval e X.env := by rfl) (hline : (apos.endLine == cpos.line) = true := by rfl)
    (hse : starEach [.Call (.Attribute e "items" apos) [] [] cpos] X.env = (false, eval (.Call (.Attribute e "items" apos) [] [] cpos) X.env) :: starEach [] X.env := by rfl) :
    PE X (.Call (.Name x p) [.Call (.Attribute e "items" apos) [] [] cpos] [] pos) (fun σ H Q => td σ H fun v H1 => rItemsL v H1 Q) := by
  refine ⟨fun pins s σ H Q I h => wpAny_Call_Name_kw (ld_blt I hg hm hv (PyProof.Rows.callWith_type1 ?_ hse (by rfl)) hn hdb)⟩
  rw [hse]
  refine (show wpAny _ _ (spliced ((false, eval (.Call (.Attribute e "items" apos) [] [] cpos) X.env) :: backTo pos (starEach [] X.env))) _ _ s from Calls.spliced_cons ?_)
  refine wpAny_Call_method (T := "dict") (id := "dict.items") hbase rfl hline F.plainAttrs_dict F.slot_dict_items F.type_dict_items (thn (he.run pins s σ H _ I h) fun u s1 ⟨x, H1, I1, rx, d, kvs, ex, hd, q⟩ => ?_)
  subst ex
  obtain rfl : u = .ref d := rx
  obtain ⟨hs, vs, kv, hdo⟩ : (d == sysModules) = false ∧ ∃ vs, KV kvs vs ∧ s1.heap.DictOf (mixKind X.prog X.w) d vs := by
    rcases hd with hd | ⟨o, hd⟩
    · obtain ⟨_, a, vs, b, c⟩ := I1.hok d _ hd
      exact ⟨a, vs, b, c⟩
    · obtain ⟨_, _, a, vs, b, c⟩ := I1.hok d _ hd
      exact ⟨a, vs, b, c⟩
  have hz : kvs.length ≤ sizeLine := by
    rcases hd with hd | ⟨o, hd⟩
    · exact (I1.hok d _ hd).1
    · exact (I1.hok d _ hd).2.1
  have hl := (Paired.length kv : kvs.length = vs.length)
  refine ⟨hdo.typeIs, ⟨hdo.mapOf.noDict, ?_⟩⟩
  obtain ⟨es, ep, hraw, hes, hkv⟩ := hdo.raw
  have fin : wpAny (model X.prog X.w) X.A (spliced (backTo pos (starEach [] X.env))) (fun us s2 => wpAny (model X.prog X.w) X.A (call (.type "list") (.ref s1.heap.objs.size :: us)) (EP X pins σ Q) X.xe s2) X.xe { s1 with heap := s1.heap.push { cls := .type "dict_items", data := .fields #[.ref d] } } := by
    refine Calls.spliced_nil ?_
    refine dil_call (es := es) (ep := ep) (d := d) (I1.ok.hd hc) ⟨_, Heap.get?_push_size _ rfl, rfl, rfl⟩ (hraw.at fun o e => Heap.get?_push_of_some _ e) (by rw [hes, ← hl]; exact hz) fun h' tk acc c as hk hS' hla hG hacc => ?_
    have old : ∀ b o, s1.heap.get? b = some o → h'.get? b = some o := fun b o e => hk b o (Heap.get?_push_of_some _ e)
    have low : ∀ b, s1.heap.objs.size ≤ b → H1 b = none := fun b hb => I1.hok.fresh hb
    generalize hL : (s1.heap.push { cls := .type "dict_items", data := .fields #[.ref d] }).objs.size = L at *
    have hL2 : L = s1.heap.objs.size + 1 := by rw [← hL, Heap.size_push]
    have hab : ∀ a ∈ as, L < a := fun a ha => hG.above a ha
    have hLn : L ∉ as := fun hc => Nat.lt_irrefl _ (hab L hc)
    have hal : as.length = kvs.length := by rw [hla, hes, hl]
    have nd : as.Nodup := hG.rise.imp fun h => Nat.ne_of_lt h
    have hnone : ∀ a ∈ as, H1 a = none := fun a ha => low a (by have := hab a ha; omega)
    have new : ∀ b o, H1 b = some o → b ≠ L ∧ b ∉ as := fun b o e => by
      refine ⟨fun z => ?_, fun hb => ?_⟩
      · rw [z, low L (by omega)] at e
        cases e
      · rw [hnone b hb] at e
        cases e
    have q2 := q as L nd hal hLn (low L (by omega)) hnone
    have ho1 : HOk X.prog X.w (updT H1 as kvs) h' := hok_updT as kvs H1 (I1.hok.kept old) nd hnone hal fun j a p h1 h2 => by
      obtain ⟨hj, ha⟩ := hG.pairs j a h1
      obtain ⟨u, hu, ru⟩ := kv_get kv h2
      obtain ⟨k1, k2⟩ := hkv j hj p.1 u hu
      exact ⟨_, _, k1, by rw [k2]; exact ru, ha⟩
    have ho2 : HOk X.prog X.w (upd (updT H1 as kvs) L (.lst (as.map V.ref))) h' := HOk.laidN ho1 (fun _ _ e => e) (by rw [updT_ne _ _ _ _ hLn]; exact low L (by omega)) ⟨by rw [List.length_map, hal]; exact hz, as.map Value.ref, c, ?_, ?_⟩
    · refine ⟨.ref L, _, I1.un (t' := tk) ⟨fun b o e _ _ _ => old b o e, fun b o e _ _ _ => ⟨o.slots, old b o e⟩, fun b o e n _ => ?_, fun b o e _ => ⟨o, old b o e⟩, fun b xs e => ?_, fun b o u e => ?_, fun b ps e => ⟨#[], ?_⟩⟩ ho2, rfl, q2⟩
      · have h1 := Heap.lt_size e
        have n1 : b ≠ L := fun z => by rw [z, hL2] at h1; exact absurd h1 (Nat.not_lt.mpr (Nat.le_succ _))
        have n2 : b ∉ as := fun hb => by
          have h2 := hab b hb
          rw [hL2] at h2
          exact absurd h1 (Nat.not_lt.mpr (Nat.le_of_lt (Nat.lt_trans (Nat.lt_succ_self _) h2)))
        rw [upd_ne n1, updT_ne _ _ _ _ n2]
        exact n
      · obtain ⟨n1, n2⟩ := new b _ e
        rw [upd_ne n1, updT_ne _ _ _ _ n2]
        exact e
      · obtain ⟨n1, n2⟩ := new b _ e
        rw [upd_ne n1, updT_ne _ _ _ _ n2]
        exact e
      · obtain ⟨n1, n2⟩ := new b _ e
        rw [upd_ne n1, updT_ne _ _ _ _ n2, e]
        simp
    · refine vals_refs as
    · rw [hS']
      congr 2
      rw [← hacc]
  exact (show wpAny _ _ (callWith cpos (.builtin "dict.items") [.ref d] [] []) _ X.xe s1 from method_meetsIn F.slot_dict_items F.entry_dict_items rfl (PySem.evalArgs_none ⟨rfl, hdo.typeIs, F.args_dict_items_1 _, _, meets_dict_items (mixKind X.prog X.w) d hs, ⟨vs, hdo⟩, fin⟩))
theorem rel_updT {K : PySem.W.Frag} {φ : Fx} {e : Env} {σ : L2.St} : ∀ (ks : List (Key × D)) (vs : List (Key × V)) (as : List Addr) (G H : Hp), Rel K φ e σ G H → Rpk K G ks vs → as.Nodup → (∀ a ∈ as, H a = none) → as.length = vs.length →
    ∃ G', Rel K φ e σ G' (updT H as vs) ∧ Sub G G' ∧ Rps K G' (fItems ks) (as.map V.ref)
  | [], vs, as, G, H, R, h, _, _, hl => by
    unfold Rpk at h
    subst h
    obtain rfl : as = [] := List.length_eq_zero_iff.mp hl
    unfold updT
    exact ⟨G, R, Sub.refl G, Rps.nil⟩
  | (k, d) :: ks, vs, as, G, H, R, h, nd, hn, hl => by
    unfold Rpk at h
    obtain ⟨v, r, rfl, a, b⟩ := h
    cases as with
    | nil => cases hl
    | cons p as =>
      rw [List.nodup_cons] at nd
      have N := R.newTup (ds := [kD k, d]) (vs := [kV k, v]) (hn p List.mem_cons_self) (Rps.cons (rp_kD k) (Rps.one a))
      have hp := N.headRp
      have sG := (R.newG (u := .tup [kV k, v]) (hn p List.mem_cons_self)).2
      obtain ⟨G', R', s', q'⟩ := rel_updT ks r as _ _ N.tail (Rpk.mono sG _ _ b) nd.2 (fun c hc => by
        rw [upd_ne fun e => nd.1 (by rw [← e]; exact hc)]
        exact hn c (List.mem_cons_of_mem _ hc)) (by simpa using hl)
      unfold updT
      exact ⟨G', R', sG.trans s', Rps.cons (Rp.mono s' _ _ hp) q'⟩
def gItemsL : G1 := fun o post => match o with
  | .pu (.dct ks) => ∀ p, post (.ls p (fItems ks))
  | .dc _ ks => ∀ p, post (.ls p (fItems ks))
  | _ => False
theorem sr_itemsL {K : PySem.W.Frag} : SndR1 K rItemsL gItemsL := fun φ e σ G H o1 v1 post Q R a p q => by
  have key : ∀ ks, (o1 = .pu (.dct ks) ∨ ∃ p, o1 = .dc p ks) → (∀ p, post (.ls p (fItems ks))) → rItemsL v1 H Q := fun ks ho p => by
    obtain ⟨a', vs, rfl, hs, hv⟩ := a.dct R.sub ho
    have hv' := Rpk.len _ _ (hv)
    obtain ⟨a2, vs2, e2, hs2, hv2⟩ : ∃ a2 vs2, V.ref a' = .ref a2 ∧ Rd H a2 (.dK vs2) ∧ Rpk K G ks vs2 := by
      rcases ho with rfl | ⟨p', rfl⟩
      · have h := a
        unfold OAt Rp at h
        obtain ⟨b, ws, e, h1, h2⟩ := h
        exact ⟨b, ws, e, R.sub _ _ h1, h2⟩
      · have h := a
        unfold OAt at h
        obtain ⟨e, _, ws, h1, h2⟩ := h
        exact ⟨_, ws, e, .inl h1, h2⟩
    refine ⟨a2, vs2, e2, hs2, fun as l nd hl hn h0 h1 => ?_⟩
    obtain ⟨G', R', s', q'⟩ := rel_updT ks vs2 as G H R hv2 nd h1 hl
    exact q _ _ _ _ (p l) (R'.newLs (by rw [updT_ne _ _ _ _ hn]; exact h0) q')
  unfold gItemsL at p
  split at p
  · exact key _ (.inl rfl) p
  · exact key _ (.inr ⟨_, rfl⟩) p
  · exact p.elim
theorem ve_listItems {X : Cx} {x : Str} {e : Expr} {td : TE} {w : WQ} {p pos apos cpos : Pos} (hc : X.calm = true) (he : VQ X e td w) (hg : Gl X x) (hm : X.mg x = none) (hv : bootBuiltins x = some (.type "list")) (hn : x ≠ "__name__" := by decide) (hdb : (x == ("__debug__" : Str)) = false := by decide)
    (hbase : attributeBase e "items" X.env (eval e X.env) = eval e X.env := by rfl) (hline : (apos.endLine == cpos.line) = true := by rfl)
    (hse : starEach [.Call (.Attribute e "items" apos) [] [] cpos] X.env = (false, eval (.Call (.Attribute e "items" apos) [] [] cpos) X.env) :: starEach [] X.env := by rfl) :
    VE X (.Call (.Name x p) [.Call (.Attribute e "items" apos) [] [] cpos] [] pos) (fun σ H Q => td σ H fun v H1 => rItemsL v H1 Q) (vOp1 gItemsL w) := ⟨pe_listItems hc he.pe hg hm hv hn hdb hbase hline hse, snd_op1 he.snd sr_itemsL⟩
theorem e_gItemsL1 {ks : List (Key × D)} {k : O → Prop} : gItemsL (.pu (.dct ks)) k = ∀ p, k (.ls p (fItems ks)) := rfl
theorem e_gItemsL2 {p : Addr} {ks : List (Key × D)} {k : O → Prop} : gItemsL (.dc p ks) k = ∀ p, k (.ls p (fItems ks)) := rfl
end Vl

namespace PySem.W
open PySem PySem.Calls PyProof.Rows PyProof.V PySem.Spec L2
section
variable {prog : Program} {w : World} {K : Type} [DecidableEq K] {knd : KeyKind prog w K} {A : Around} {s : Shared}
theorem vl_dictNe {a b : Addr} {ka kb : List (K × Value)} {r : Bool} (ya : (a == sysModules) = false) (yb : (b == sysModules) = false) (da : s.heap.DictOf knd a ka) (db : s.heap.DictOf knd b kb) (hu : A.units < cLine)
    (hits : ka.length = kb.length → KeqHitsP prog w A.in1 s kb ka r) (E Q : Value → Shared → Prop) (h : Q (.bool (!(ka.length == kb.length && r))) s) : wpAny (model prog w) A (compareOp .NotEq (.ref a) (.ref b)) Q E s := by
  refine wpAny_richCompare_same_room (op := .NotEq) da.typeIs db.typeIs PySem.F.slot_dict_ne (wpAny_call_entry PySem.F.slot_dict_ne da.typeIs PySem.F.entry_dict_ne (show wpAny _ _ (Builtin.Dict.dictSlotArgs "__ne__" ⟨[.ref a, .ref b], []⟩ >>= _) _ _ s from wpAny_bind ?_) (PySem.F.args_dict_ne_2 _ _)) hu
  delta Builtin.Dict.dictSlotArgs
  refine wpAny_bind (wpAny_notOrdered_dict da.typeIs (show wpAny _ _ (pure (Value.ref a, Value.ref b)) _ _ s from wpAny_pure ?_))
  refine wpAny_bind (wpAny_isInstance (T := "dict") db.typeIs (PySem.F.sub_dict_dict) ?_)
  simp only [Bool.not_true, if_false, Bool.false_eq_true]
  refine wpAny_bind (wpAny_pure (wpAny_bind (wpAny_pure (wpAny_bind (samePairsP ya yb da db hits (wpAny_pure ⟨_, rfl, (fun x => nomatch x), ?_⟩))))))
  simpa using h
end
end PySem.W
namespace Vl
open PySem PySem.Spec PyProof.Rows L2
variable {X : Cx}
def rNeH (K : PySem.W.Frag) : R2 := fun x y H Q => ∃ d e, Rp K H d x ∧ Rp K H e y ∧ dep d ≤ 60 ∧ cmpb d e = true ∧ Q (.bl (!eqv d e)) H
theorem op_neH (hu : X.A.units + 64 < cLine) : OpR X (compareOp .NotEq) (rNeH X.K) := by
  intro pins s σ H x y u t Q I rx ry h
  obtain ⟨d, e, h, k, hd, hc, q⟩ := h
  cases d with
  | dct ds =>
    cases e with
    | dct es =>
      unfold Rp at h k
      obtain ⟨a, vs, rfl, k1, h1⟩ := h
      obtain ⟨b, ws, rfl, k2, h2⟩ := k
      cases rx
      cases ry
      unfold dep at hd
      unfold cmpb at hc
      obtain ⟨_, ya, va, ra, da⟩ := dk_rd I.hok k1
      obtain ⟨_, yb, vb, rb, db⟩ := dk_rd I.hok k2
      refine PySem.W.vl_dictNe (knd := mixKind X.prog X.w) (r := eqvk ds es) ya yb da db (by omega) (fun _ => hits_D (eqAll I 60) h2 rb (show X.A.units + 1 + 60 < cLine by omega) ds vs va (by omega) hc h1 ra) _ _ ?_
      rw [show va.length = ds.length from ra.length.symm.trans (Rpk.len ds vs h1), show vb.length = es.length from rb.length.symm.trans (Rpk.len es ws h2)]
      unfold eqv at q
      exact ⟨.bl _, H, I, rfl, q⟩
    | _ => unfold cmpb at hc; cases hc
  | _ => exact op_neG hu pins s σ H x y u t Q I rx ry ⟨_, e, h, k, hd, hc, (fun ks z => nomatch z), q⟩
/-- a != b -/
def gNe : G2 := fun o1 o2 post => dep o1.toD ≤ 60 ∧ cmpb o1.toD o2.toD = true ∧ post (.pu (.bl (!eqv o1.toD o2.toD)))
theorem sr_neH {K : PySem.W.Frag} : SndR2 K (rNeH K) gNe := fun φ e σ G H o1 o2 v1 v2 post Q R a1 a2 p q =>
  ⟨o1.toD, o2.toD, a1.rp R.sub, a2.rp R.sub, p.1, p.2.1, q _ _ G H p.2.2 (R.consPu rp_bl)⟩
theorem e_gNeH {o1 o2 : O} {k : O → Prop} : gNe o1 o2 k = (dep o1.toD ≤ 60 ∧ cmpb o1.toD o2.toD = true ∧ k (.pu (.bl (!eqv o1.toD o2.toD)))) := rfl
/-! equality of dicts that tell the same -/
theorem eqvk_of : ∀ (ks ls : List (Key × D)), (∀ p ∈ ks, ∃ d, lookK ls p.1 = some d ∧ eqv p.2 d = true) → eqvk ks ls = true
  | [], ls, _ => by unfold eqvk; rfl
  | (k, d) :: ks, ls, h => by
    obtain ⟨d', h1, h2⟩ := h (k, d) List.mem_cons_self
    have ih := eqvk_of ks ls fun p hp => h p (List.mem_cons_of_mem _ hp)
    unfold eqvk
    simp only [h1, h2, ih]
    rfl
/-! ### or by truth -/
def onTru (o : O) (k : Bool → Prop) : Prop := match o with
  | .pu .non => k false
  | .pu (.bl b) => k b
  | .pu (.int i) => k (i != 0)
  | .pu (.lst ds) => k (!ds.isEmpty)
  | .ls _ ds => k (!ds.isEmpty)
  | .pu (.tup ds) => k (!ds.isEmpty)
  | .dc _ ks => k (!ks.isEmpty)
  | _ => False
theorem emp_len {α β : Type} {xs : List α} {ys : List β} (h : xs.length = ys.length) : xs.isEmpty = ys.isEmpty := by
  cases xs <;> cases ys <;> simp_all
theorem tru_of {K : PySem.W.Frag} {G H : Hp} {o : O} {v : V} {k : Bool → Prop} (s : Sub G H) (a : OAt K G H o v) (h : onTru o k) : ∃ b, TruV K v H b ∧ k b := by
  unfold onTru at h
  split at h
  · unfold OAt Rp at a
    subst a
    exact ⟨_, rfl, h⟩
  · unfold OAt Rp at a
    subst a
    exact ⟨_, rfl, h⟩
  · unfold OAt Rp at a
    subst a
    exact ⟨_, rfl, h⟩
  · obtain ⟨p, vs, rfl, h1, h2⟩ := a.lst s (.inl rfl)
    exact ⟨_, .inl ⟨vs, h1, rfl⟩, by rw [emp_len (Rps.len _ _ h2)]; exact h⟩
  · obtain ⟨p, vs, rfl, h1, h2⟩ := a.lst s (.inr ⟨_, rfl⟩)
    exact ⟨_, .inl ⟨vs, h1, rfl⟩, by rw [emp_len (Rps.len _ _ h2)]; exact h⟩
  · obtain ⟨p, vs, rfl, h1, h2⟩ := a.tup s
    exact ⟨_, .inr (.inl ⟨vs, h1, rfl⟩), by rw [emp_len (Rps.len _ _ h2)]; exact h⟩
  · unfold OAt at a
    obtain ⟨rfl, _, vs, h1, h2⟩ := a
    exact ⟨_, .inr (.inr ⟨vs, h1, rfl⟩), by rw [emp_len (Rpk.len _ _ h2)]; exact h⟩
  · exact h.elim
def vOrA (a b : WE) : WE := fun x e post => a x e fun o e1 => onTru o fun k => if k = true then post o e1 else b x e1 post
theorem snd_orA {K : PySem.W.Frag} {ta tb : TE} {a b : WE} (ha : SndE K ta a) (hb : SndE K tb b) : SndE K (tOrT K ta tb) (vOrA a b) := fun φ e σ G H x post Q R X t q =>
  ha φ e σ G H x _ _ R X t fun o e1 v G1 H1 p R1 => by
    obtain ⟨c, h1, p⟩ := tru_of R1.sub R1.headOAt p
    refine ⟨c, h1, ?_⟩
    cases c with
    | false => exact hb φ e1 σ G1 H1 x post Q R1.tail X p q
    | true => exact q _ e1 _ G1 H1 p R1
theorem ve_orA {a b : Expr} {rest : List Expr} {ta tb : TE} {va vb : WE} {pos : Pos} (ha : VE X a ta va) (hb : VE X (.BoolOp .Or (b :: rest) pos) tb vb) : VE X (.BoolOp .Or (a :: b :: rest) pos) (tOrT X.K ta tb) (vOrA va vb) := ⟨pe_orT ha.pe hb.pe, snd_orA ha.snd hb.snd⟩
def kOrA (b : WE) (x : XP) (post : O → Env → Prop) (o : O) (e : Env) : Prop := onTru o fun k => if k = true then post o e else b x e post
theorem e_orA {a b : WE} {x : XP} {e : Env} {post : O → Env → Prop} : vOrA a b x e post = a x e (kOrA b x post) := rfl
theorem e_korA1 {b : WE} {x : XP} {e : Env} {post : O → Env → Prop} : kOrA b x post (.pu .non) e = b x e post := by
  simp [kOrA, onTru]
theorem e_korA2 {b : WE} {x : XP} {e : Env} {post : O → Env → Prop} {p : Addr} {ks : List (Key × D)} : kOrA b x post (.dc p ks) e = ((ks ≠ [] → post (.dc p ks) e) ∧ (ks = [] → b x e post)) := by
  cases ks <;> simp [kOrA, onTru]
end Vl
namespace Vl
open PySem L2
theorem e_nn1 : (O.pu .non).isN = true := rfl
theorem e_nn2 {b : Bool} : (O.pu (.bl b)).isN = false := rfl
theorem e_nn3 {i : Int} : (O.pu (.int i)).isN = false := rfl
theorem e_nn4 {s : Str} : (O.pu (.str s)).isN = false := rfl
theorem e_nn5 {ds : List D} : (O.pu (.lst ds)).isN = false := rfl
theorem e_nn6 {ds : List D} : (O.pu (.tup ds)).isN = false := rfl
theorem e_nn7 {ks : List (Key × D)} : (O.pu (.dct ks)).isN = false := rfl
theorem e_nn8 {p : Addr} {ds : List D} : (O.ls p ds).isN = false := rfl
theorem e_nn9 {p : Addr} {ks : List (Key × D)} : (O.dc p ks).isN = false := rfl
end Vl

namespace Vl
open PySem PySem.W PyProof.Rows PySem.Spec L2
/-! ### sorted of a tuple, of d.items() -/
section
variable {X : Cx} {pins : List (Addr × Obj)} {σ : L2.St} {H : Hp}
/-- the new list of what was collected, sorted -/
theorem sort_tail (hu : X.A.units + 64 < cLine) {s1 : Shared} {vs : List Value} {ws : List V} {ds : List D} {Q : VK} {P : PySem.Fin → Shared → Prop} {E' : Value → Shared → Prop} (I : Inv X pins σ H s1) (rv : Vals ws vs) (hv : Rps X.K H ds ws) (hz : vs.length ≤ sizeLine) (ok : srtOk ds)
    (q : ∀ (us : List V) (p : Addr), (∃ prs : List (D × V), prs.Perm (ds.zip ws) ∧ prs.map (·.1) = sortD ds ∧ prs.map (·.2) = us) → H p = none → Q (.ref p) (upd H p (.lst us)))
    (fin : ∀ h' v', EP X pins σ Q (.ref v') { s1 with heap := h' } → P (.done (.ret (.ref v'))) { s1 with heap := h' }) :
    wpAny (model X.prog X.w) X.A.in1 (newList vs >>= fun l => holding [l] (call (.builtin "list.sort") [l]) >>= fun _ => pure (PySem.Fin.done (.ret l))) P E' s1 := by
  obtain ⟨hn, hal, hk, hd⟩ := ok
  have hlen := Rps.len ds ws hv
  have hm : (ds.zip ws).map (fun p => p.1.py) = ds.map D.py := by
    have := congrArg (List.map D.py) (zip_fst (a := ds) (b := ws) hlen)
    rw [List.map_map] at this
    exact this
  have ez := each_zip I hn hv rv
  refine (wpAny_bind (wpAny_newList ?_ hz))
  have ho : (s1.heap.push (seqObj "list" vs.toArray 0)).get? s1.heap.objs.size = some (seqObj "list" vs.toArray 0) := Heap.get?_push_size _ rfl
  have old : ∀ b o, s1.heap.get? b = some o → (sortingHeap (s1.heap.push (seqObj "list" vs.toArray 0)) s1.heap.objs.size vs).get? b = some o := fun b o e => sortingHeap_old (Nat.ne_of_lt (Heap.lt_size e)) (Heap.get?_push_of_some _ e)
  have er : EachIs (fun v b => ∃ as, Reads (sortingHeap (s1.heap.push (seqObj "list" vs.toArray 0)) s1.heap.objs.size vs) v b.1.py as) vs (ds.zip ws) := ez.mono fun _ _ h => let ⟨as, r⟩ := h.2; ⟨as, PyProof.Rows.Reads.keeps old r⟩
  have dep2 : ∀ d ∈ (ds.zip ws).map (fun p => p.1.py), X.A.in1.in1.units + d.depth < cLine := fun d hd' => by
    obtain ⟨b, hb, rfl⟩ := List.mem_map.mp hd'
    have hb1 := (List.of_mem_zip hb).1
    have h1 := hd b.1 hb1
    have h2 : noD b.1 = true := by
      have : ∀ (l : List D), noDs l = true → ∀ d ∈ l, noD d = true := fun l => by
        induction l with
        | nil => intro _ d hd; cases hd
        | cons x r ih =>
          intro h d hd
          unfold noDs at h
          have h' := Bool.and_eq_true_iff.mp h
          rcases (List.mem_cons.mp hd) with rfl | hd
          · exact h'.1
          · exact ih h'.2 d hd
      exact this ds hn b.1 hb1
    rw [py_depth b.1 h2]
    show X.A.units + 1 + 1 + _ < cLine
    omega
  refine (show wpAny _ _ _ _ _ { s1 with heap := s1.heap.push (seqObj "list" vs.toArray 0) } from wpAny_bind (wpAny_holding (wpAny_call_entry slot_list_sort ⟨_, ho, rfl⟩ entry_list_sort
    (list_sort_vals (s := { s1 with heap := s1.heap.push (seqObj "list" vs.toArray 0) }) (κ := dataKind (sortingHeap (s1.heap.push (seqObj "list" vs.toArray 0)) s1.heap.objs.size vs) ((ds.zip ws).map fun p => p.1.py)) ho
      (SortsAt.data (A := X.A.in1.in1) (s := { s1 with heap := sortingHeap (s1.heap.push (seqObj "list" vs.toArray 0)) s1.heap.objs.size vs }) (each_map (R := fun v d => ∃ as, Reads (sortingHeap (s1.heap.push (seqObj "list" vs.toArray 0)) s1.heap.objs.size vs) v d as) (fun p : D × V => p.1.py) er) (by rw [hm]; exact hal) (by rw [hm]; exact hk) dep2) hz
      ⟨.none, rfl, wpAny_pure ?_⟩) (args_list_sort _))))
  refine fin _ _ ?_
  have hs := sortVals_data (R := fun u (p : D × V) => RelV p.2 u) (enc := fun p : D × V => p.1.py) (vs := vs) (bs := ds.zip ws) (h' := sortingHeap (s1.heap.push (seqObj "list" vs.toArray 0)) s1.heap.objs.size vs) false (ez.mono fun _ _ h => h.1) er (by rw [hm]; exact hal)
  have hv2 := each_vals hs
  obtain ⟨ep, he'⟩ := PyProof.Rows.sortedHeap_at (vs := vs) (out := (sortVals (dataKind (sortingHeap (s1.heap.push (seqObj "list" vs.toArray 0)) s1.heap.objs.size vs) ((ds.zip ws).map fun p => p.1.py)) false vs vs).toArray) ho
  have hl2 : ((List.map (·.2) ((ds.zip ws).mergeSort (PySem.W.dataLe false fun p => p.1.py)))).length ≤ sizeLine := by
    rw [List.length_map, List.length_mergeSort, List.length_zip]
    have := rv.length
    omega
  refine ⟨.ref _, upd H s1.heap.objs.size (.lst _), I.laid (t' := s1.toks) (fun b o e => ?_) (Nat.le_refl _) ⟨hl2, _, ep, hv2, he'⟩, rfl, q _ _ ⟨_, List.mergeSort_perm _ _, ?_, rfl⟩ (I.hok.fresh (Nat.le_refl _))⟩
  · have hb := Heap.lt_size e
    exact (PyProof.Rows.sortedHeap_old (Nat.ne_of_lt hb) (by rw [size_push']; exact Nat.lt_succ_of_lt hb)).trans (Heap.get?_push_of_some _ e)
  · have e2 := PySem.W.sort_maps (r := PySem.W.dataLe false fun p : D × V => p.1.py) (s := leD) (fun p : D × V => p.1) (l := ds.zip ws) fun a _ b _ => rfl
    rw [e2, zip_fst hlen]
    rfl
end
def rSortT (K : PySem.W.Frag) : List V → Hp → VK → Prop := fun vs H Q => ∃ (a : Addr) (ws : List V) (ds : List D), vs = [V.ref a] ∧ SqT K H a ws ∧ Rps K H ds ws ∧ srtOk ds ∧
  ∀ (us : List V) (p : Addr), (∃ prs : List (D × V), prs.Perm (ds.zip ws) ∧ prs.map (·.1) = sortD ds ∧ prs.map (·.2) = us) → H p = none → Q (.ref p) (upd H p (.lst us))
theorem cr_sortT {X : Cx} (hu : X.A.units + 64 < cLine) : CallR X (.builtin "sorted") (rSortT X.K) := by
  intro pins s σ H xs us Q I r hyp
  obtain ⟨a, ws, ds, rfl, hs, hv, ok, q⟩ := hyp
  obtain ⟨its, rv, ⟨o, ho, hc, n, hd⟩, hz⟩ := I.tuple hs
  rw [Vals.ref1 r]
  refine (Calls.call_function_entry PyProof.Rows.kind_sorted PyProof.Rows.plain_sorted PyProof.Rows.entry_sorted (PyProof.Rows.args_sorted1 _) ?_)
  unfold Builtin.«sorted»
  have hz2 : its.length ≤ sizeLine := by rw [← rv.length]; exact hz
  refine wpAny_bind (m := checkCount "sorted" 1 1 _) (wpAny_pure (wpAny_bind (wpAny_collect_seq (A := X.A.in1) a (.inr rfl) ho hc hd (fun h' keep => ?_) (by simpa using hz2))))
  have I1 : Inv X pins σ H { s with heap := h' } := I.kept (t' := s.toks) keep
  exact sort_tail hu I1 (by simpa using rv) hv (by simpa using hz2) ok q fun h2 v' ep => ⟨_, rfl, ep⟩
def rSortA (K : PySem.W.Frag) : List V → Hp → VK → Prop := fun xs H Q => rSortD K xs H Q ∨ rSortT K xs H Q
theorem cr_sortA {X : Cx} (hu : X.A.units + 64 < cLine) : CallR X (.builtin "sorted") (rSortA X.K) := CallR.or (cr_sortedD hu) (cr_sortT hu)
def gSortA : G1 := fun o post => match o with
  | .pu (.tup ds) => srtOk ds ∧ ∀ p, post (.ls p (sortD ds))
  | .pu (.lst ds) => srtOk ds ∧ ∀ p, post (.ls p (sortD ds))
  | .ls _ ds => srtOk ds ∧ ∀ p, post (.ls p (sortD ds))
  | _ => False
theorem sr_sortA {K : PySem.W.Frag} : SndRN K (rSortA K) (g1 gSortA) := snd_g1 fun φ e σ G H o1 v1 post Q R a p q => by
  have key : ∀ ds, (o1 = .pu (.lst ds) ∨ ∃ p, o1 = .ls p ds) → (srtOk ds ∧ ∀ p, post (.ls p (sortD ds))) → rSortA K [v1] H Q := fun ds ho p => by
    obtain ⟨l, vs, rfl, hs, hv⟩ := a.lst R.sub ho
    refine .inl ⟨l, vs, ds, rfl, hs, Rps.mono R.sub _ _ hv, p.1, fun us p' ⟨prs, h1, h2, h3⟩ hp => q _ _ _ _ (p.2 p') (R.newLs hp ?_)⟩
    rw [← h2, ← h3]
    exact Rps.ofPairs fun x hx => Rps.pairs hv x (h1.mem_iff.mp hx)
  unfold gSortA at p
  split at p
  · obtain ⟨l, vs, rfl, hs, hv⟩ := a.tup R.sub
    refine .inr ⟨l, vs, _, rfl, hs, Rps.mono R.sub _ _ hv, p.1, fun us p' ⟨prs, h1, h2, h3⟩ hp => q _ _ _ _ (p.2 p') (R.newLs hp ?_)⟩
    rw [← h2, ← h3]
    exact Rps.ofPairs fun x hx => Rps.pairs hv x (h1.mem_iff.mp hx)
  · exact key _ (.inl rfl) p
  · exact key _ (.inr ⟨_, rfl⟩) p
  · exact p.elim
theorem e_gSortA1 {ds : List D} {k : O → Prop} : gSortA (.pu (.lst ds)) k = (srtOk ds ∧ ∀ p, k (.ls p (sortD ds))) := rfl
theorem e_gSortA2 {q : Addr} {ds : List D} {k : O → Prop} : gSortA (.ls q ds) k = (srtOk ds ∧ ∀ p, k (.ls p (sortD ds))) := rfl
theorem e_gSortA3 {ds : List D} {k : O → Prop} : gSortA (.pu (.tup ds)) k = (srtOk ds ∧ ∀ p, k (.ls p (sortD ds))) := rfl
/-! sorted(d.items()) -/
def rSortI (K : PySem.W.Frag) : V → Hp → VK → Prop := fun x H Q => ∃ d ks kvs, x = .ref d ∧ (H d = some (.dK kvs) ∨ ∃ o, H d = some (.frz o (.dK kvs))) ∧ Rpk K H ks kvs ∧ srtOk (fItems ks) ∧
  ∀ (as : List Addr) (us : List V) (l : Addr), as.Nodup → as.length = kvs.length → l ∉ as → H l = none → (∀ a ∈ as, H a = none) → (∃ prs : List (D × V), prs.Perm ((fItems ks).zip (as.map V.ref)) ∧ prs.map (·.1) = sortD (fItems ks) ∧ prs.map (·.2) = us) → Q (.ref l) (upd (updT H as kvs) l (.lst us))
theorem updT_tup : ∀ (as : List Addr) (kvs : List (Key × V)) (H : Hp), as.Nodup → ∀ (j : Nat) (a : Addr) (p : Key × V), as[j]? = some a → kvs[j]? = some p → updT H as kvs a = some (.tup [kV p.1, p.2])
  | [], _, _, _, j, a, p, h, _ => by simp at h
  | b :: as, [], _, _, j, a, p, _, h => by simp at h
  | b :: as, q :: kvs, H, nd, j, a, p, h1, h2 => by
    rw [List.nodup_cons] at nd
    unfold updT
    cases j with
    | zero =>
      have e1 : b = a := by simpa using h1
      have e2 : q = p := by simpa using h2
      subst e1
      subst e2
      rw [updT_ne _ _ _ _ nd.1, upd_same]
    | succ j => exact updT_tup as kvs _ nd.2 j a p (by simpa using h1) (by simpa using h2)
theorem updT_rps {K : PySem.W.Frag} {G : Hp} : ∀ (ks : List (Key × D)) (kvs : List (Key × V)) (as : List Addr), Rpk K G ks kvs → as.length = kvs.length → (∀ (j : Nat) (a : Addr) (p : Key × V), as[j]? = some a → kvs[j]? = some p → G a = some (.tup [kV p.1, p.2])) → Rps K G (fItems ks) (as.map V.ref)
  | [], kvs, as, h, hl, _ => by
    unfold Rpk at h
    subst h
    obtain rfl : as = [] := List.length_eq_zero_iff.mp hl
    exact Rps.nil
  | (k, d) :: ks, kvs, as, h, hl, hg => by
    unfold Rpk at h
    obtain ⟨v, r, rfl, a, b⟩ := h
    cases as with
    | nil => cases hl
    | cons p as =>
      refine Rps.cons ?_ (updT_rps ks r as b (by simpa using hl) fun j a q h1 h2 => hg (j + 1) a q h1 h2)
      unfold Rp
      exact ⟨p, _, rfl, SqT.of (hg 0 p (k, v) rfl rfl), Rps.cons (rp_kD k) (Rps.one a)⟩
theorem pe_sortItems {X : Cx} {x : Str} {e : Expr} {td : TE} {p pos apos cpos : Pos} (hc : X.calm = true) (hu : X.A.units + 64 < cLine) (he : PE X e td) (hg : Gl X x) (hm : X.mg x = none) (hv : bootBuiltins x = some (.builtin "sorted")) (hn : x ≠ "__name__" := by decide) (hdb : (x == ("__debug__" : Str)) = false := by decide)
    (hbase : attributeBase e "items" X.env (eval e X.env) = eval e X.env := by rfl) (hline : (apos.endLine == cpos.line) = true := by rfl)
    (hse : starEach [.Call (.Attribute e "items" apos) [] [] cpos] X.env = (false, eval (.Call (.Attribute e "items" apos) [] [] cpos) X.env) :: starEach [] X.env := by rfl) :
    PE X (.Call (.Name x p) [.Call (.Attribute e "items" apos) [] [] cpos] [] pos) (fun σ H Q => td σ H fun v H1 => rSortI X.K v H1 Q) := by
  refine ⟨fun pins s σ H Q I h => wpAny_Call_Name_kw (ld_blt I hg hm hv (PyProof.Rows.callWith_builtin1 ?_ hse (by rfl)) hn hdb)⟩
  rw [hse]
  refine (show wpAny _ _ (spliced ((false, eval (.Call (.Attribute e "items" apos) [] [] cpos) X.env) :: backTo pos (starEach [] X.env))) _ _ s from Calls.spliced_cons ?_)
  refine wpAny_Call_method (T := "dict") (id := "dict.items") hbase rfl hline F.plainAttrs_dict F.slot_dict_items F.type_dict_items (thn (he.run pins s σ H _ I h) fun u s1 ⟨x, H1, I1, rx, d, ks, kvs, ex, hd, hrk, ok, q⟩ => ?_)
  subst ex
  obtain rfl : u = .ref d := rx
  obtain ⟨hs, vs, kv, hdo⟩ : (d == sysModules) = false ∧ ∃ vs, KV kvs vs ∧ s1.heap.DictOf (mixKind X.prog X.w) d vs := by
    rcases hd with hd | ⟨o, hd⟩
    · obtain ⟨_, a, vs, b, c⟩ := I1.hok d _ hd
      exact ⟨a, vs, b, c⟩
    · obtain ⟨_, _, a, vs, b, c⟩ := I1.hok d _ hd
      exact ⟨a, vs, b, c⟩
  have hz : kvs.length ≤ sizeLine := by
    rcases hd with hd | ⟨o, hd⟩
    · exact (I1.hok d _ hd).1
    · exact (I1.hok d _ hd).2.1
  have hl := (Paired.length kv : kvs.length = vs.length)
  refine ⟨hdo.typeIs, ⟨hdo.mapOf.noDict, ?_⟩⟩
  obtain ⟨es, ep, hraw, hes, hkv⟩ := hdo.raw
  have fin : wpAny (model X.prog X.w) X.A (spliced (backTo pos (starEach [] X.env))) (fun us s2 => wpAny (model X.prog X.w) X.A (call (.builtin "sorted") (.ref s1.heap.objs.size :: us)) (EP X pins σ Q) X.xe s2) X.xe { s1 with heap := s1.heap.push { cls := .type "dict_items", data := .fields #[.ref d] } } := by
    refine Calls.spliced_nil ?_
    refine (Calls.call_function_entry PyProof.Rows.kind_sorted PyProof.Rows.plain_sorted PyProof.Rows.entry_sorted (PyProof.Rows.args_sorted1 _) ?_)
    unfold Builtin.«sorted»
    refine wpAny_bind (m := checkCount "sorted" 1 1 _) (wpAny_pure (wpAny_bind ?_))
    refine dil_collect (A := X.A.in1) (es := es) (ep := ep) (d := d) (I1.ok.hd hc) ⟨_, Heap.get?_push_size _ rfl, rfl, rfl⟩ (hraw.at fun o e => Heap.get?_push_of_some _ e) (by rw [hes, ← hl]; exact hz) fun h' tk as hk hla hG => ?_
    have old : ∀ b o, s1.heap.get? b = some o → h'.get? b = some o := fun b o e => hk b o (Heap.get?_push_of_some _ e)
    have low : ∀ b, s1.heap.objs.size ≤ b → H1 b = none := fun b hb => I1.hok.fresh hb
    generalize hL : (s1.heap.push { cls := .type "dict_items", data := .fields #[.ref d] }).objs.size = L at *
    have hL2 : L = s1.heap.objs.size + 1 := by rw [← hL, Heap.size_push]
    have hab : ∀ a ∈ as, L < a := fun a ha => hG.above a ha
    have hal : as.length = kvs.length := by rw [hla, hes, hl]
    have nd : as.Nodup := hG.rise.imp fun h => Nat.ne_of_lt h
    have hnone : ∀ a ∈ as, H1 a = none := fun a ha => low a (by have := hab a ha; omega)
    have ho1 : HOk X.prog X.w (updT H1 as kvs) h' := hok_updT as kvs H1 (I1.hok.kept old) nd hnone hal fun j a p h1 h2 => by
      obtain ⟨hj, ha⟩ := hG.pairs j a h1
      obtain ⟨u, hu, ru⟩ := kv_get kv h2
      obtain ⟨k1, k2⟩ := hkv j hj p.1 u hu
      exact ⟨_, _, k1, by rw [k2]; exact ru, ha⟩
    have new : ∀ b o, H1 b = some o → b ∉ as := fun b o e hb => by
      rw [hnone b hb] at e
      cases e
    have I2 : Inv X pins σ (updT H1 as kvs) { s1 with heap := h', toks := tk } := I1.un (t' := tk) ⟨fun b o e _ _ _ => old b o e, fun b o e _ _ _ => ⟨o.slots, old b o e⟩, fun b o e n _ => (by
        have h1 := Heap.lt_size e
        rw [updT_ne _ _ _ _ fun hb => by
          have h2 := hab b hb
          rw [hL2] at h2
          exact absurd h1 (Nat.not_lt.mpr (Nat.le_of_lt (Nat.lt_trans (Nat.lt_succ_self _) h2)))]
        exact n), fun b o e _ => ⟨o, old b o e⟩, fun b xs e => (by rw [updT_ne _ _ _ _ (new b _ e)]; exact e), fun b o u e => (by rw [updT_ne _ _ _ _ (new b _ e)]; exact e), fun b ps e => ⟨#[], by rw [updT_ne _ _ _ _ (new b _ e), e]; simp⟩⟩ ho1
    have sub : Sub H1 (updT H1 as kvs) := fun b u hb => by
      rcases hb with hb | ⟨o, hb⟩
      · exact .inl (by rw [updT_ne _ _ _ _ (new b _ hb)]; exact hb)
      · exact .inr ⟨o, by rw [updT_ne _ _ _ _ (new b _ hb)]; exact hb⟩
    have rps : Rps X.K (updT H1 as kvs) (fItems ks) (as.map V.ref) := updT_rps ks kvs as (Rpk.mono sub _ _ hrk) hal (updT_tup as kvs H1 nd)
    refine sort_tail hu I2 (vals_refs as) rps (by rw [List.length_map, hal]; exact hz) ok (fun us p hus hp => ?_) fun h2 v' ep => ⟨_, rfl, ep⟩
    have hpn : p ∉ as := fun hb => by
      obtain ⟨j, hj⟩ := (List.mem_iff_getElem?.mp hb)
      have hj2 : j < kvs.length := by rw [← hal]; exact (List.getElem?_eq_some_iff.mp hj).1
      rw [updT_tup as kvs H1 nd j p kvs[j] hj (List.getElem?_eq_getElem hj2)] at hp
      cases hp
    exact q as us p nd hal hpn (by rw [updT_ne _ _ _ _ hpn] at hp; exact hp) hnone hus
  exact (show wpAny _ _ (callWith cpos (.builtin "dict.items") [.ref d] [] []) _ X.xe s1 from method_meetsIn F.slot_dict_items F.entry_dict_items rfl (PySem.evalArgs_none ⟨rfl, hdo.typeIs, F.args_dict_items_1 _, _, meets_dict_items (mixKind X.prog X.w) d hs, ⟨vs, hdo⟩, fin⟩))
def gSortI : G1 := fun o post => match o with
  | .pu (.dct ks) => srtOk (fItems ks) ∧ ∀ p, post (.ls p (sortD (fItems ks)))
  | .dc _ ks => srtOk (fItems ks) ∧ ∀ p, post (.ls p (sortD (fItems ks)))
  | _ => False
theorem sr_sortI {K : PySem.W.Frag} : SndR1 K (rSortI K) gSortI := fun φ e σ G H o1 v1 post Q R a p q => by
  have key : ∀ ks, (o1 = .pu (.dct ks) ∨ ∃ p, o1 = .dc p ks) → (srtOk (fItems ks) ∧ ∀ p, post (.ls p (sortD (fItems ks)))) → rSortI K v1 H Q := fun ks ho p => by
    obtain ⟨a2, vs2, e2, hs2, hv2⟩ : ∃ a2 vs2, v1 = .ref a2 ∧ Rd H a2 (.dK vs2) ∧ Rpk K G ks vs2 := by
      rcases ho with rfl | ⟨p', rfl⟩
      · have h := a
        unfold OAt Rp at h
        obtain ⟨b, ws, e, h1, h2⟩ := h
        exact ⟨b, ws, e, R.sub _ _ h1, h2⟩
      · have h := a
        unfold OAt at h
        obtain ⟨e, _, ws, h1, h2⟩ := h
        exact ⟨_, ws, e, .inl h1, h2⟩
    refine ⟨a2, ks, vs2, e2, hs2, Rpk.mono R.sub _ _ hv2, p.1, fun as us l nd hl hn h0 h1 ⟨prs, g1, g2, g3⟩ => ?_⟩
    obtain ⟨G', R', s', q'⟩ := rel_updT ks vs2 as G H R hv2 nd h1 hl
    refine q _ _ _ _ (p.2 l) (R'.newLs (by rw [updT_ne _ _ _ _ hn]; exact h0) ?_)
    rw [← g2, ← g3]
    exact Rps.ofPairs fun x hx => Rps.pairs q' x (g1.mem_iff.mp hx)
  unfold gSortI at p
  split at p
  · exact key _ (.inl rfl) p
  · exact key _ (.inr ⟨_, rfl⟩) p
  · exact p.elim
theorem ve_sortItems {X : Cx} {x : Str} {e : Expr} {td : TE} {w : WQ} {p pos apos cpos : Pos} (hc : X.calm = true) (hu : X.A.units + 64 < cLine) (he : VQ X e td w) (hg : Gl X x) (hm : X.mg x = none) (hv : bootBuiltins x = some (.builtin "sorted")) (hn : x ≠ "__name__" := by decide) (hdb : (x == ("__debug__" : Str)) = false := by decide)
    (hbase : attributeBase e "items" X.env (eval e X.env) = eval e X.env := by rfl) (hline : (apos.endLine == cpos.line) = true := by rfl)
    (hse : starEach [.Call (.Attribute e "items" apos) [] [] cpos] X.env = (false, eval (.Call (.Attribute e "items" apos) [] [] cpos) X.env) :: starEach [] X.env := by rfl) :
    VE X (.Call (.Name x p) [.Call (.Attribute e "items" apos) [] [] cpos] [] pos) (fun σ H Q => td σ H fun v H1 => rSortI X.K v H1 Q) (vOp1 gSortI w) := ⟨pe_sortItems hc hu he.pe hg hm hv hn hdb hbase hline hse, snd_op1 he.snd sr_sortI⟩
theorem e_gSortI1 {ks : List (Key × D)} {k : O → Prop} : gSortI (.pu (.dct ks)) k = (srtOk (fItems ks) ∧ ∀ p, k (.ls p (sortD (fItems ks)))) := rfl
theorem e_gSortI2 {q : Addr} {ks : List (Key × D)} {k : O → Prop} : gSortI (.dc q ks) k = (srtOk (fItems ks) ∧ ∀ p, k (.ls p (sortD (fItems ks)))) := rfl
/-! a def that calls itself: nothing promised at the lowest level -/
theorem fn_no {P : Program} {w : World} {K : PySem.W.Frag} {mg : Str → Option Value} {base : Heap} {x qual : Str} {st : Stmt} {f : Addr} {fd : FuncData} {N ps : List Str} {k : Nat} (F : Fun K x qual st f fd) (S : FnScope N ps (defScope st)) {ct : Ct} (no : ∀ os post, ct os post → False) : FnOk P w K mg base CX0 (k + 1) f fd ps (spOf K ct) := by
  refine F.ok S (fun vs H Q E h => ?_) (fun cdv A outer s H vs Q E hr h => ?_)
  · obtain ⟨os, G, post, hl, _, c, _⟩ := h
    exact (no _ _ c).elim
  · obtain ⟨os, G, post, hl, R, c, q⟩ := h
    exact (no _ _ c).elim
end Vl

namespace Vl
open PySem PySem.Spec PyProof.Rows L2
/-! ### t.count(x), nested -/
def cntD (a : D) (ds : List D) : Nat := ds.countP fun d => eqv d a
def rCntT (K : PySem.W.Frag) : V → List V → Hp → VK → Prop := fun x xs H Q => ∃ (a : D) (ds : List D) (p : Addr) (vs : List V) (y : V), x = .ref p ∧ xs = [y] ∧ SqT K H p vs ∧ Rps K H ds vs ∧ Rp K H a y ∧ inNOk a ds ∧ Q (.int (cntD a ds : Nat)) H
theorem cnt_py {a : D} {ds : List D} (hn : noDs ds = true) (ha : noD a = true) (hc : (ds.all fun d => cmpb d a) = true) : ((D.pys ds).countP fun y => PyData.eqv y a.py) = cntD a ds := by
  unfold cntD
  induction ds with
  | nil => unfold D.pys; rfl
  | cons d r ih =>
    unfold noDs at hn
    have hn' := Bool.and_eq_true_iff.mp hn
    rw [List.all_cons] at hc
    have hc' := Bool.and_eq_true_iff.mp hc
    unfold D.pys
    rw [List.countP_cons, List.countP_cons, ih hn'.2 hc'.2, py_eqv d a hn'.1 ha hc'.1]
theorem mt_countT {X : Cx} (hu : X.A.units + 64 < cLine) : MtR X "tuple.count" (rCntT X.K) := by
  intro pins s σ H x xs v us Q I rx rxs hyp
  obtain ⟨a, ds, p, vs, y, rfl, rfl, hq, hv, ha, ⟨na, nd, hd, hc⟩, q⟩ := hyp
  cases rx
  obtain ⟨u, rfl, ru⟩ := (rxs.one)
  obtain ⟨bs, rb⟩ := reads_of I a y u na ha ru
  have dp := py_depth a na
  obtain ⟨its, rv, ⟨o, ho, hcl, n, hdt⟩, hz⟩ := I.tuple hq
  obtain ⟨as, ra⟩ := readsAll_of I ds vs its nd hv rv
  refine PySem.SeqAt.count_tuple_data (l := p) (vs := its.toArray) ⟨o, ho, hcl, n, hdt⟩ (by simpa using ra) rb (pys_plain ds nd) (py_plain a na) (by omega) ⟨.int (cntD a ds : Nat), H, I.tok _, ⟨s.toks, ?_⟩, q⟩
  rw [cnt_py nd na hc]
def gCountT : GM := fun o os post => on1 os fun a => match o with
  | .pu (.tup ds) => inNOk a.toD ds ∧ post (.pu (.int (cntD a.toD ds : Nat)))
  | _ => False
theorem sr_countT {K : PySem.W.Frag} : SndRM K (rCntT K) gCountT := fun φ e σ G H o v os vs post Q R a z p q => by
  unfold gCountT at p
  obtain ⟨b, rfl, p⟩ := on1_iff.mp p
  split at p
  · cases z with
    | cons c d =>
      cases d
      obtain ⟨l, ws, rfl, hs, hv⟩ := a.tup R.sub
      exact ⟨_, _, l, ws, _, rfl, rfl, hs, Rps.mono R.sub _ _ hv, c.rp R.sub, p.1, q _ _ G H p.2 (R.consPu rp_int)⟩
  · exact p.elim
theorem e_gCountT {ds : List D} {a : O} {post : O → Prop} : gCountT (.pu (.tup ds)) [a] post = (inNOk a.toD ds ∧ post (.pu (.int (cntD a.toD ds : Nat)))) := rfl
/-! ### e is True, e is not False -/
section
variable {X : Cx} {a : Expr} {ta : TE} {qa : WQ} {pos pos' : Pos} {j : Nat} {b : Bool}
def tIsB (neg b : Bool) (ta : TE) : TE := fun σ H Q => ta σ H fun x H1 => ∃ c, x = .bl c ∧ Q (.bl (if neg then c != b else c == b)) H1
theorem pc_isB (ha : PE X a ta) : PC X .Is a (.Constant (.bool b) j pos') (tIsB false b ta) := by
  refine ⟨fun pins s σ H Q I hyp => thn (ha.run pins s σ H _ I hyp) fun v s1 ⟨x, H1, I1, r1, c, ex, q1⟩ => ?_⟩
  subst ex
  obtain rfl : v = Value.bool c := r1
  exact Constant_bool (wpAny_is_plain (by rfl) ⟨.bl _, H1, I1, by cases c <;> cases b <;> rfl, q1⟩)
theorem pc_isNotB (ha : PE X a ta) : PC X .IsNot a (.Constant (.bool b) j pos') (tIsB true b ta) := by
  refine ⟨fun pins s σ H Q I hyp => thn (ha.run pins s σ H _ I hyp) fun v s1 ⟨x, H1, I1, r1, c, ex, q1⟩ => ?_⟩
  subst ex
  obtain rfl : v = Value.bool c := r1
  exact Constant_bool (wpAny_isNot_plain (by rfl) ⟨.bl _, H1, I1, by cases c <;> cases b <;> rfl, q1⟩)
def gIsB (neg b : Bool) : G1 := fun o post => onB o fun c => post (.pu (.bl (if neg then c != b else c == b)))
theorem sr_isB {K : PySem.W.Frag} {neg b : Bool} : SndR1 K (fun v H Q => ∃ c, v = .bl c ∧ Q (.bl (if neg then c != b else c == b)) H) (gIsB neg b) := fun φ e σ G H o1 v1 post Q R a p q => by
  obtain ⟨c, rfl, p⟩ := onB_iff.mp p
  exact ⟨c, a.bl, q _ _ G H p (R.consPu rp_bl)⟩
theorem ve_isB (ha : VQ X a ta qa) : VE X (.Compare a [.Is] [.Constant (.bool b) j pos'] pos) (tIsB false b ta) (vOp1 (gIsB false b) qa) := ⟨pe_cmp (pc_isB ha.pe) (by rfl), by exact snd_op1 (r := fun v H Q => ∃ c, v = .bl c ∧ Q (.bl (if false then c != b else c == b)) H) ha.snd sr_isB⟩
theorem ve_isNotB (ha : VQ X a ta qa) : VE X (.Compare a [.IsNot] [.Constant (.bool b) j pos'] pos) (tIsB true b ta) (vOp1 (gIsB true b) qa) := ⟨pe_cmp (pc_isNotB ha.pe) (by rfl), by exact snd_op1 (r := fun v H Q => ∃ c, v = .bl c ∧ Q (.bl (if true then c != b else c == b)) H) ha.snd sr_isB⟩
theorem vt_isB (ha : VQ X a ta qa) : VT X (.Compare a [.Is] [.Constant (.bool b) j pos'] pos) (tB (tIsB false b ta)) (vTest (vOp1 (gIsB false b) qa)) := ⟨pt_cmp (pc_isB ha.pe) (by rfl), snd_B (ve_isB (pos := pos) (pos' := pos') (j := j) ha).snd⟩
theorem vt_isNotB (ha : VQ X a ta qa) : VT X (.Compare a [.IsNot] [.Constant (.bool b) j pos'] pos) (tB (tIsB true b ta)) (vTest (vOp1 (gIsB true b) qa)) := ⟨pt_cmp (pc_isNotB ha.pe) (by rfl), snd_B (ve_isNotB (pos := pos) (pos' := pos') (j := j) ha).snd⟩
theorem e_gIsB1 {c b : Bool} {post : O → Prop} : gIsB false b (.pu (.bl c)) post = post (.pu (.bl (c == b))) := rfl
theorem e_gIsB2 {c b : Bool} {post : O → Prop} : gIsB true b (.pu (.bl c)) post = post (.pu (.bl (c != b))) := rfl
end
end Vl

namespace Vl
open PySem PySem.Spec PyProof.Rows L2

/-! ### dicts of one's own with lists of one's own in them -/
def putO (ks : List (Key × O)) (k : Key) (o : O) : List (Key × O) :=
  if (ks.any fun kv => decide (kv.1 = k)) = true then ks.map (fun kv => if kv.1 = k then (kv.1, o) else kv) else ks ++ [(k, o)]
theorem toDk_map : ∀ ks : List (Key × O), O.toDk ks = ks.map fun kv => (kv.1, kv.2.toD)
  | [] => by unfold O.toDk; rfl
  | (k, o) :: r => by unfold O.toDk; rw [toDk_map r]; rfl
theorem toDk_put (ks : List (Key × O)) (k : Key) (o : O) : O.toDk (putO ks k o) = putD (O.toDk ks) k o.toD := by
  unfold putO putD
  rw [toDk_map ks, List.any_map]
  show _ = if (ks.any fun kv => decide (kv.1 = k)) = true then _ else _
  split
  · rw [toDk_map, List.map_map, List.map_map]
    refine List.map_congr_left fun kv _ => ?_
    dsimp only [Function.comp]
    split <;> rfl
  · rw [toDk_map, List.map_append]
    rfl
theorem fpk_app : ∀ (a b : List (Key × O)), O.fpk (a ++ b) = O.fpk a ++ O.fpk b
  | [], b => by rw [List.nil_append]; simp only [O.fpk, List.nil_append]
  | (k, o) :: r, b => by
    rw [List.cons_append]
    simp only [O.fpk, fpk_app r b, List.append_assoc]
theorem fpk_pu (k : Key) (d : D) : ∀ ks : List (Key × O), (O.fpk (ks.map fun kv => if kv.1 = k then (kv.1, .pu d) else kv)).Sublist (O.fpk ks)
  | [] => List.Sublist.refl _
  | (k', o) :: r => by
    rw [List.map_cons]
    have ih := fpk_pu k d r
    by_cases h : k' = k
    · simp only [if_pos h, O.fpk, O.fp, List.nil_append]
      exact ih.trans (List.sublist_append_right _ _)
    · simp only [if_neg h, O.fpk]
      exact List.Sublist.append (List.Sublist.refl _) ih
theorem fp_put_pu (ks : List (Key × O)) (k : Key) (d : D) : (O.fpk (putO ks k (.pu d))).Sublist (O.fpk ks) := by
  unfold putO
  split
  · exact fpk_pu k d ks
  · rw [fpk_app]
    simp only [O.fpk, O.fp, List.append_nil]
    exact List.Sublist.refl _
theorem fpk_set {q : Addr} {k : Key} {ds es : List D} : ∀ (ks : List (Key × O)) (j : Nat), ks[j]? = some (k, .ls q ds) → O.fpk (ks.set j (k, .ls q es)) = O.fpk ks
  | [], j, h => by cases h
  | (k', o) :: r, 0, h => by
    cases h
    rw [List.set_cons_zero]
    simp only [O.fpk, O.fp]
  | (k', o) :: r, j + 1, h => by
    rw [List.set_cons_succ]
    simp only [O.fpk]
    rw [fpk_set r j h]
theorem fpk_mem {q : Addr} {k : Key} {ds : List D} : ∀ (ks : List (Key × O)) (j : Nat), ks[j]? = some (k, .ls q ds) → q ∈ O.fpk ks
  | [], j, h => by cases h
  | (k', o) :: r, 0, h => by
    cases h
    simp only [O.fpk, O.fp]
    exact List.mem_append_left _ (List.mem_singleton.mpr rfl)
  | (k', o) :: r, j + 1, h => by
    simp only [O.fpk]
    exact List.mem_append_right _ (fpk_mem r j h)
section
variable {K : PySem.W.Frag} {φ : Fx} {e : Env} {σ : L2.St} {G H : Hp}
theorem OAtk.keys : ∀ (ks : List (Key × O)) (vs : List (Key × V)), OAtk K G H ks vs → vs.map (·.1) = ks.map (·.1)
  | [], _, h => by unfold OAtk at h; subst h; rfl
  | (k, o) :: ks, _, h => by
    unfold OAtk at h
    obtain ⟨v, r, rfl, a, b⟩ := h
    rw [List.map_cons, List.map_cons, OAtk.keys ks r b]
theorem any_keys {α β : Type} (k : Key) : ∀ (a : List (Key × α)) (b : List (Key × β)), a.map (·.1) = b.map (·.1) → (a.any fun kv => decide (kv.1 = k)) = (b.any fun kv => decide (kv.1 = k))
  | [], [], _ => rfl
  | [], _ :: _, h => by cases h
  | _ :: _, [], h => by cases h
  | x :: a, y :: b, h => by
    rw [List.map_cons, List.map_cons, List.cons.injEq] at h
    rw [List.any_cons, List.any_cons, h.1, any_keys k a b h.2]
theorem OAtk.app : ∀ (ks : List (Key × O)) (vs : List (Key × V)) (k : Key) (o : O) (v : V), OAtk K G H ks vs → OAt K G H o v → OAtk K G H (ks ++ [(k, o)]) (vs ++ [(k, v)])
  | [], _, k, o, v, h, r => by unfold OAtk at h; subst h; show OAtk K G H [(k, o)] [(k, v)]; unfold OAtk; exact ⟨v, [], rfl, r, by unfold OAtk; rfl⟩
  | (k', o') :: ks, _, k, o, v, h, r => by
    unfold OAtk at h
    obtain ⟨v', t, rfl, a, b⟩ := h
    show OAtk K G H ((k', o') :: (ks ++ [(k, o)])) ((k', v') :: (t ++ [(k, v)]))
    unfold OAtk
    exact ⟨v', _, rfl, a, OAtk.app ks t k o v b r⟩
theorem OAtk.mapP {d : D} {v : V} (hv : Rp K G d v) (k : Key) : ∀ (ks : List (Key × O)) (vs : List (Key × V)), OAtk K G H ks vs → OAtk K G H (ks.map fun kv => if kv.1 = k then (kv.1, .pu d) else kv) (vs.map fun kv => if kv.1 = k then (kv.1, v) else kv)
  | [], _, h => by unfold OAtk at h; subst h; unfold OAtk; rfl
  | (k', o') :: ks, _, h => by
    unfold OAtk at h
    obtain ⟨v', r, rfl, a, b⟩ := h
    rw [List.map_cons, List.map_cons]
    have ih := OAtk.mapP hv k ks r b
    by_cases hk : k' = k
    · simp only [if_pos hk]
      unfold OAtk
      exact ⟨v, _, rfl, by unfold OAt; exact hv, ih⟩
    · simp only [if_neg hk]
      unfold OAtk
      exact ⟨v', _, rfl, a, ih⟩
theorem OAtk.putP {ks : List (Key × O)} {vs : List (Key × V)} {k : Key} {d : D} {v : V} (h : OAtk K G H ks vs) (r : Rp K G d v) : OAtk K G H (putO ks k (.pu d)) (putK vs k v) := by
  unfold putO putK
  rw [any_keys k vs ks (OAtk.keys ks vs h)]
  split
  · exact OAtk.mapP r k ks vs h
  · exact OAtk.app ks vs k _ v h (by unfold OAt; exact r)
theorem OAtk.get : ∀ (ks : List (Key × O)) (vs : List (Key × V)) (j : Nat) (k : Key) (o : O), OAtk K G H ks vs → ks[j]? = some (k, o) → ∃ v, vs[j]? = some (k, v) ∧ OAt K G H o v
  | [], _, j, k, o, h, e => by cases e
  | (k', o') :: ks, _, 0, k, o, h, e => by
    unfold OAtk at h
    obtain ⟨v, r, rfl, a, b⟩ := h
    cases e
    exact ⟨v, rfl, a⟩
  | (k', o') :: ks, _, j + 1, k, o, h, e => by
    unfold OAtk at h
    obtain ⟨v, r, rfl, a, b⟩ := h
    exact OAtk.get ks r j k o b e
theorem val_nodup : ∀ (vs : List (Key × V)) (j : Nat) (k : Key) (v : V), (vs.map (·.1)).Nodup → vs[j]? = some (k, v) → valV vs k = some v
  | [], j, k, v, n, h => by cases h
  | (k', v') :: vs, 0, k, v, n, h => by
    cases h
    unfold valV
    simp
  | (k', v') :: vs, j + 1, k, v, n, h => by
    rw [List.map_cons, List.nodup_cons] at n
    have hk : k' ≠ k := fun z => by
      subst z
      exact n.1 (List.mem_map.mpr ⟨(k', v), List.mem_of_getElem? h, rfl⟩)
    have ih := val_nodup vs j k v n.2 h
    unfold valV at ih ⊢
    rw [List.find?_cons_of_neg (by simpa using hk)]
    exact ih
theorem OAtk.setL {q : Addr} {k : Key} {ds es : List D} {us : List V} (gq : G q = none) (hs : Rps K G es us) : ∀ (ks : List (Key × O)) (vs : List (Key × V)) (j : Nat), (O.fpk ks).Nodup → ks[j]? = some (k, .ls q ds) → OAtk K G H ks vs → OAtk K G (upd H q (.lst us)) (ks.set j (k, .ls q es)) vs
  | [], _, j, _, h, _ => by cases h
  | (k', o') :: ks, _, 0, n, h, a => by
    cases h
    simp only [O.fpk, O.fp] at n
    unfold OAtk at a
    obtain ⟨v, r, rfl, a, b⟩ := a
    rw [List.set_cons_zero]
    unfold OAtk
    have hv := a.ls
    refine ⟨v, r, rfl, ?_, OAtk.mono (Sub.refl G) ks r (fun p hp => ⟨upd_ne fun z => ?_, rfl⟩) b⟩
    · unfold OAt
      exact ⟨hv.1, gq, us, upd_same, hs⟩
    · subst z
      have := (List.nodup_cons.mp (show (p :: O.fpk ks).Nodup from n)).1
      exact this hp
  | (k', o') :: ks, _, j + 1, n, h, a => by
    simp only [O.fpk] at n
    obtain ⟨n1, n2, n3⟩ := nodup_app n
    unfold OAtk at a
    obtain ⟨v, r, rfl, a, b⟩ := a
    rw [List.set_cons_succ]
    unfold OAtk
    refine ⟨v, r, rfl, OAt.mono (Sub.refl G) o' v (fun p hp => ⟨upd_ne fun z => ?_, rfl⟩) a, OAtk.setL gq hs ks r j n2 h b⟩
    subst z
    exact n3 p hp (fpk_mem ks j h)
theorem OAt.dcO {p : Addr} {ks : List (Key × O)} {v : V} (h : OAt K G H (.dcO p ks) v) : v = .ref p ∧ G p = none ∧ ∃ vs, H p = some (.dK vs) ∧ OAtk K G H ks vs := by unfold OAt at h; exact h
/-- two things become one -/
theorem Rel.mut2 {o1 o2 o' : O} {p : Addr} {u : HO} {v w : V} (R : Rel K φ (some o1 :: some o2 :: e) (some v :: some w :: σ) G H) (hp : p ∈ o1.fp) (hs : o'.fp.Sublist (o1.fp ++ o2.fp)) (ho : OAt K G (upd H p u) o' v) : Rel K φ (some o' :: e) (some v :: σ) G (upd H p u) := by
  have nd : (o1.fp ++ (o2.fp ++ fpe e)).Nodup := R.nd
  obtain ⟨n1, n2, n3⟩ := nodup_app nd
  have gp : G p = none := (OAt.cell o1 v R.headOAt p hp).1
  have own : p ∈ φ.B ∨ φ.H p = none := R.own p (List.mem_append_left _ hp)
  have nb : ∀ b w, φ.H b = some w → b ∉ φ.B → b ≠ p := fun b w h n z => by
    subst z
    rcases own with q | q
    · exact n q
    · rw [q] at h; cases h
  have ne : ∀ q ∈ fpe e, q ≠ p := fun q hq z => by subst z; exact n3 q hp (List.mem_append_right _ hq)
  have sl : (o'.fp ++ fpe e).Sublist (o1.fp ++ (o2.fp ++ fpe e)) := by
    rw [← List.append_assoc]
    exact List.Sublist.append hs (List.Sublist.refl _)
  refine ⟨⟨R.frm.up, sub_upd R.frm.sub gp, fun b o h n => ?_, R.frm.gk, fun b o h => ?_⟩, ⟨_, _, rfl, ho, Slots.mono (Sub.refl G) e σ (fun q hq => ⟨upd_ne (ne q hq), rfl⟩) R.tail.tail.slots⟩, ?_, fun q hq => ?_⟩
  · rw [upd_ne (nb b o h n)]
    exact R.frm.keep b o h n
  · by_cases hb : b = p
    · subst hb; exact ⟨u, upd_same⟩
    · obtain ⟨o', k⟩ := R.frm.live b o h
      exact ⟨o', by rw [upd_ne hb]; exact k⟩
  · exact nd.sublist sl
  · exact R.own q (sl.subset hq)
end
def onDcO (o : O) (k : Addr → List (Key × O) → Prop) : Prop := match o with
  | .dcO p ks => k p ks
  | _ => False
theorem onDcO_iff {o : O} {k : Addr → List (Key × O) → Prop} : onDcO o k ↔ ∃ p ds, o = .dcO p ds ∧ k p ds := by
  unfold onDcO
  split
  · exact ⟨fun h => ⟨_, _, rfl, h⟩, fun ⟨_, _, e, h⟩ => by cases e; exact h⟩
  · rename_i hn
    exact ⟨fun h => h.elim, fun ⟨p, ds, e, _⟩ => absurd e (hn p ds)⟩
/-- {} -/
def vDict0O : WE := fun _ e post => ∀ p, post (.dcO p []) e
theorem ve_dict0O {X : Cx} {pos : Pos} : VE X (.Dict [] [] pos) tDNewK vDict0O := ⟨pe_dnewK, fun φ e σ G H x post Q R X t q => by
  intro p hp
  refine q _ e _ _ _ (t p) (R.new hp (by simp only [O.fp, O.fpk]) ?_)
  unfold OAt
  exact ⟨rfl, R.frm.sub.none hp, [], upd_same, by unfold OAtk; rfl⟩⟩
/-- d[k] = e, what e tells is one's own and stays so; the key is new -/
def kKeyO (j : Nat) (oa : O) (pd : Pd) (oi : O) (e2 : Env) : Prop := onKey oi fun k => onO (.pl j) e2 fun oc => onDcO oc fun p ks => ks.length < sizeLine ∧ (ks.any fun kv => decide (kv.1 = k)) = false ∧ pd.nx (e2.set j (some (.dcO p (ks ++ [(k, oa)]))))
def vKeyO (j : Nat) (b a : WE) : WS := fun x pd e => a x e fun oa e1 => (∃ o, eget e1 j = some o) ∧ b noX e1 (kKeyO j oa pd)
theorem snd_keyO {K : PySem.W.Frag} {te tb : TE} {a b : WE} {j : Nat} (ha : SndE K te a) (hb : SndE K tb b) : SndS K (tAsg te (gSub (tVar j) tb rSetD)) (vKeyO j b a) := fun φ e σ G H x pd D R X t E => by
  refine ha φ e σ G H x _ _ R X t fun oa e1 v G1 H1 t R1 => ?_
  obtain ⟨⟨o, ho⟩, t⟩ := t
  obtain ⟨w, h1, h2⟩ := R1.tail.get (eget_some.mp ho)
  refine ⟨w, h1, ?_⟩
  have F := Rel.frame (ts := [some oa]) (vs := [some v]) R1 rfl
  refine hb _ e1 σ G1 H1 noX _ _ F.1 exNo t fun oi e2 u G2 H2 p2 R2 => ?_
  obtain ⟨k, hk, p3⟩ := onKey_iff.mp p2
  obtain ⟨oc, g2, p4⟩ := onO_iff.mp p3
  obtain ⟨p, ks, rfl, p5⟩ := onDcO_iff.mp p4
  have e0 := oKey_V R2.headOAt hk
  subst e0
  have R3 : Rel K φ (some oa :: e2) (some v :: σ) G2 H2 := F.2 _ _ _ _ R2.tail
  have g2' : eget e2 j = some (.dcO p ks) := g2
  have M := R3.mvout (i := j + 1) (o := .dcO p ks) (v := w) (eget_some.mp g2') h1
  rw [List.set_cons_succ] at M
  obtain ⟨rfl, gp, ws, hp, hws⟩ := M.headOAt.dcO
  have nd : ((O.dcO p ks).fp ++ (oa.fp ++ fpe (e2.set j none))).Nodup := M.nd
  obtain ⟨n1, n2, n3⟩ := nodup_app nd
  have n1' : (p :: O.fpk ks).Nodup := by
    have := n1
    simp only [O.fp] at this
    exact this
  have hp0 : p ∈ (O.dcO p ks).fp := by simp only [O.fp]; exact List.mem_cons_self
  have hu : OAt K G2 (upd H2 p (.dK (ws ++ [(k, v)]))) (.dcO p (ks ++ [(k, oa)])) (.ref p) := by
    unfold OAt
    refine ⟨rfl, gp, _, upd_same, OAtk.app _ _ _ _ _ (OAtk.mono (Sub.refl _) ks ws (fun q hq => ⟨upd_ne fun z => ?_, rfl⟩) hws) (OAt.mono (Sub.refl _) oa v (fun q hq => ⟨upd_ne fun z => ?_, rfl⟩) R3.headOAt)⟩
    · subst z
      exact (List.nodup_cons.mp n1').1 hq
    · subst z
      exact n3 q hp0 (List.mem_append_left _ hq)
  have M2 := M.mut2 (o' := .dcO p (ks ++ [(k, oa)])) hp0 (by
    simp only [O.fp, fpk_app, O.fpk, List.append_nil, List.cons_append]
    exact List.Sublist.refl _) hu
  have R5 := M2.putback h1
  rw [List.set_set] at R5
  have pk : putK ws k v = ws ++ [(k, v)] := by
    unfold putK
    rw [any_keys k ws ks (OAtk.keys ks ws hws), p5.2.1]
    rfl
  have len : ws.length = ks.length := by
    have := congrArg List.length (OAtk.keys ks ws hws)
    simpa using this
  exact ⟨p, _, rfl, pk ▸ DPut.k (v := v) (k := k) hp (by rw [len]; exact p5.1), E.nx _ _ _ _ p5.2.2 R5⟩
/-- d[k] = e, of what may be read -/
def kKeyP (j : Nat) (d : D) (post : Env → Prop) (oi : O) (e2 : Env) : Prop := onKey oi fun k => onO (.pl j) e2 fun oc => onDcO oc fun p ks => ks.length < sizeLine ∧ post (e2.set j (some (.dcO p (putO ks k (.pu d)))))
def wKeyO (j : Nat) (b : WE) : WG := fun d e post => (∃ o, eget e j = some o) ∧ b noX e (kKeyP j d post)
theorem snd_gKeyO {K : PySem.W.Frag} {j : Nat} {tb : TE} {b : WE} (hb : SndE K tb b) : SndG K (gSub (tVar j) tb rSetD) (wKeyO j b) [] := fun φ e σ G H d v post Q R r t q => by
  obtain ⟨⟨o, ho⟩, t⟩ := t
  obtain ⟨w, h1, h2⟩ := R.get (eget_some.mp ho)
  refine ⟨w, h1, ?_⟩
  have T := R.consPu r
  have F := Rel.frame (ts := [some (.pu d)]) (vs := [some v]) T rfl
  refine hb _ e σ G H noX _ _ F.1 exNo t fun oi e2 u G2 H2 p2 R2 => ?_
  obtain ⟨k, hk, p3⟩ := onKey_iff.mp p2
  obtain ⟨oc, g2, p4⟩ := onO_iff.mp p3
  obtain ⟨p, ks, rfl, p5⟩ := onDcO_iff.mp p4
  have e0 := oKey_V R2.headOAt hk
  subst e0
  have R3 := F.2 _ _ _ _ R2.tail
  have rv : Rp K G2 d v := Rel.headRp R3
  have R4 : Rel K φ e2 σ G2 H2 := Rel.tail R3
  have g2' : eget e2 j = some (.dcO p ks) := g2
  have M := R4.mvout (eget_some.mp g2') h1
  obtain ⟨rfl, gp, ws, hp, hws⟩ := M.headOAt.dcO
  have nd : ((O.dcO p ks).fp ++ fpe (e2.set j none)).Nodup := M.nd
  obtain ⟨n1, n2, n3⟩ := nodup_app nd
  have n1' : (p :: O.fpk ks).Nodup := by
    have := n1
    simp only [O.fp] at this
    exact this
  have hp0 : p ∈ (O.dcO p ks).fp := by simp only [O.fp]; exact List.mem_cons_self
  have M2 := M.mut (o' := .dcO p (putO ks k (.pu d))) (u := .dK (putK ws k v)) hp0 (by
    simp only [O.fp]
    exact (fp_put_pu ks k d).cons₂ p) (by
    unfold OAt
    refine ⟨rfl, gp, _, upd_same, OAtk.putP (OAtk.mono (Sub.refl _) ks ws (fun q hq => ⟨upd_ne fun z => ?_, rfl⟩) hws) rv⟩
    subst z
    exact (List.nodup_cons.mp n1').1 hq)
  have R5 := M2.putback h1
  rw [List.set_set] at R5
  have len : ws.length = ks.length := by
    have := congrArg List.length (OAtk.keys ks ws hws)
    simpa using this
  exact ⟨p, _, rfl, DPut.k hp (by rw [len]; exact p5.1), q _ _ _ _ p5.2 R5 ⟨rfl, fun _ _ => rfl⟩⟩
section
variable {X : Cx}
theorem vs_keyO {o i e : Expr} {j : Nat} {te tb : TE} {a b : WE} {spos pos : Pos} (hu : X.A.units + 1 < cLine) (h : VE X e te a) (ho : PE X o (tVar j)) (hi : VE X i tb b)
    (ha : ∀ v, assign (.Subscript o i spos) X.env v = (do
      let ov ← holding [v] (eval o X.env)
      let iv ← holding [v, ov] (eval i X.env)
      standAt spos
      holding [v, ov, iv] (setItem ov iv v)
      release [v, ov, iv] []) := by intro _; rfl)
    (hs : swapsWithSole [.Subscript o i spos] e pos.line X.env = pure false := by rfl) (hw : swappedStores [.Subscript o i spos] e X.env = pure none := by rfl) (h1 : (assignEach [.Subscript o i spos] X.env).map (·.2) = [assign (.Subscript o i spos) X.env] := by rfl) :
    VS X (.Assign [.Subscript o i spos] e pos) (tAsg te (gSub (tVar j) tb rSetD)) (vKeyO j b a) := ⟨ps_asg h.pe (pg_sub ho hi.pe (set_dict hu) ha) hs hw h1, snd_keyO h.snd hi.snd⟩
theorem vg_keyO {o i : Expr} {j : Nat} {tb : TE} {b : WE} {pos : Pos} (hu : X.A.units + 1 < cLine) (ho : PE X o (tVar j)) (hi : VE X i tb b)
    (ha : ∀ v, assign (.Subscript o i pos) X.env v = (do
      let ov ← holding [v] (eval o X.env)
      let iv ← holding [v, ov] (eval i X.env)
      standAt pos
      holding [v, ov, iv] (setItem ov iv v)
      release [v, ov, iv] []) := by intro _; rfl) : VG X (.Subscript o i pos) (gSub (tVar j) tb rSetD) (wKeyO j b) [] := ⟨pg_sub ho hi.pe (set_dict hu) ha, snd_gKeyO hi.snd⟩
end

/-! ### for k in d: d[k].append(c), d[k].clear() -/
def okL (n : Nat) (ks : List (Key × O)) : Prop := ∀ kv ∈ ks, ∃ q ds, kv.2 = O.ls q ds ∧ ds.length ≤ n
def onForMut (i y : Nat) (pd : Pd) (e : Env) (o : O) : Prop := onDcO o fun p ks => y < e.length ∧ (ks.map (·.1)).Nodup ∧ ∃ n, okL n ks ∧ n + ks.length < sizeLine ∧ ∀ ks' : List (Key × O), ks'.map (·.1) = ks.map (·.1) → okL (n + ks.length) ks' → pd.nx ((e.set i (some (.dcO p ks'))).set y none)
def vForMut (i y : Nat) : WS := fun x pd e => onO (.pl i) e (onForMut i y pd e)
/-- the body changes one list -/
def MutBody (i y : Nat) (tb : TS) (f : List V → List V) : Prop := ∀ (σ : L2.St) (H : Hp) (D : Ends) (p q : Addr) (kvs : List (Key × V)) (k : Key) (xs : List V), σ[i]? = some (some (.ref p)) → σ[y]? = some (some (kV k)) → Rd H p (.dK kvs) → valV kvs k = some (.ref q) → H q = some (.lst xs) → xs.length < sizeLine → D.nx σ (upd H q (.lst (f xs))) → tb D σ H
theorem upd_comm {H : Hp} {p q : Addr} {a b : HO} (h : q ≠ p) : upd (upd H p a) q b = upd (upd H q b) p a := by
  funext x
  by_cases h1 : x = q
  · subst h1
    rw [upd_same, upd_ne h, upd_same]
  · by_cases h2 : x = p
    · subst h2
      rw [upd_ne h1, upd_same, upd_same]
    · rw [upd_ne h1, upd_ne h2, upd_ne h2, upd_ne h1]
theorem upd_back {H : Hp} {p : Addr} {a b : HO} (h : H p = some b) : upd (upd H p a) p b = H := by
  funext x
  by_cases h1 : x = p
  · subst h1
    rw [upd_same, h]
  · rw [upd_ne h1, upd_ne h1]
theorem snd_forMut {K : PySem.W.Frag} {i y : Nat} {tb : TS} {f : List V → List V} {g : List D → List D} (hiy : i ≠ y) (hb : MutBody i y tb f) (hg : ∀ G ds vs, Rps K G ds vs → Rps K G (g ds) (f vs)) (hl : ∀ ds, (g ds).length ≤ ds.length + 1) : SndS K (tLk (tFor (iKeys (tVar i)) (gName y) tb)) (vForMut i y) := fun φ e σ G H x pd D R X t E => by
  obtain ⟨o, h0, t⟩ := onO_iff.mp t
  obtain ⟨p, ks, rfl, hy, hnd, n, hok, hn, t⟩ := onDcO_iff.mp t
  have h0' : eget e i = some (.dcO p ks) := h0
  obtain ⟨v, hv, ho⟩ := R.get (eget_some.mp h0')
  obtain ⟨rfl, gp, vs, hp, hvs⟩ := ho.dcO
  have hlen : vs.length = ks.length := by
    have := congrArg List.length (OAtk.keys ks vs hvs)
    simpa using this
  have hvnd : (vs.map (·.1)).Nodup := by rw [OAtk.keys ks vs hvs]; exact hnd
  have hσ : y < σ.length := by rw [R.len]; exact hy
  refine .inl ⟨p, _, hp, trivial, fun od => ⟨_, hv, p, od, rfl, .inl ⟨vs, upd_same, ?_⟩⟩⟩
  refine ⟨fun j m σ' H' => m = ks.length - j ∧ j ≤ ks.length ∧ ∃ H0 e' ks', Rel K φ e' σ' G H0 ∧ H' = upd H0 p (.frz od (.dK vs)) ∧ H0 p = some (.dK vs) ∧ eget e' i = some (.dcO p ks') ∧ σ'[i]? = some (some (.ref p)) ∧ y < σ'.length ∧ e'.set y none = (e.set i (some (.dcO p ks'))).set y none ∧ ks'.map (·.1) = ks.map (·.1) ∧ okL (n + j) ks', ⟨ks.length, by simp, Nat.zero_le _, H, e, ks, R, rfl, hp, h0', hv, hσ, ?_, rfl, hok⟩, ?_⟩
  · have : e[i]? = some (some (.dcO p ks)) := eget_some.mp h0'
    obtain ⟨hi, he⟩ := List.getElem?_eq_some_iff.mp this
    rw [show e.set i (some (.dcO p ks)) = e by rw [← he]; exact List.set_getElem_self hi]
  rintro j m σ1 H1 ⟨rfl, hj, H0, e1, ks1, R1, rfl, hp0, g1, s1, y1, es, hk1, ok1⟩
  by_cases hlt : j < ks.length
  · have hl1 : ks1.length = ks.length := by
      have := congrArg List.length hk1
      simpa using this
    have hj1 : j < ks1.length := by omega
    obtain ⟨q, ds, hq, hql⟩ := ok1 _ (List.getElem_mem hj1)
    have hat : ks1[j]? = some ((ks1[j]).1, .ls q ds) := by rw [List.getElem?_eq_getElem hj1, ← hq]
    have M := R1.mvout (eget_some.mp g1) s1
    obtain ⟨_, _, vs1, hp1, hvs1⟩ := M.headOAt.dcO
    have ev : vs1 = vs := by
      rw [hp0] at hp1
      cases hp1
      rfl
    subst ev
    obtain ⟨w, hw, how⟩ := OAtk.get ks1 vs1 j _ _ hvs1 hat
    obtain ⟨rfl, gq, us, hqs, hus⟩ := how.ls
    have nd : ((O.dcO p ks1).fp ++ fpe (e1.set i none)).Nodup := M.nd
    obtain ⟨n1, n2, n3⟩ := nodup_app nd
    have n1' : (p :: O.fpk ks1).Nodup := by
      have := n1
      simp only [O.fp] at this
      exact this
    have hqm : q ∈ O.fpk ks1 := fpk_mem ks1 j hat
    have qp : q ≠ p := fun z => by
      subst z
      exact (List.nodup_cons.mp n1').1 hqm
    have hul : us.length = ds.length := Rps.len _ _ hus
    refine .inr ⟨⟨upd_same, by omega⟩, fun σ' H' => _, fun σ' H' h' => ⟨ks.length - (j + 1), by omega, h'⟩, fun z H' hz => ?_⟩
    obtain ⟨rfl, k, v', hv', rfl⟩ := hz
    rw [hw] at hv'
    cases hv'
    refine hb _ _ _ p q vs1 (ks1[j]).1 us ?_ ?_ (.inr ⟨od, upd_same⟩) (val_nodup vs1 j _ _ hvnd hw) (by rw [upd_ne qp]; exact hqs) (by omega) ?_
    · rw [List.getElem?_set_ne (Ne.symm hiy)]
      exact s1
    · rw [List.getElem?_set_self y1]
    · have M2 := M.mut (o' := .dcO p (ks1.set j ((ks1[j]).1, .ls q (g ds)))) (p := q) (u := .lst (f us)) (by simp only [O.fp]; exact List.mem_cons_of_mem _ hqm) (by
        simp only [O.fp]
        rw [fpk_set ks1 j hat]
        exact List.Sublist.refl _) (by
        unfold OAt
        exact ⟨rfl, gp, vs1, by rw [upd_ne (Ne.symm qp)]; exact hp0, OAtk.setL gq (hg _ _ _ hus) ks1 vs1 j (List.nodup_cons.mp n1').2 hat hvs1⟩)
      have R2 := M2.putback s1
      rw [List.set_set] at R2
      have R3 := (R2.consPu (rp_kD (ks1[j]).1)).putin y
      refine ⟨rfl, hlt, upd H0 q (.lst (f us)), _, ks1.set j ((ks1[j]).1, .ls q (g ds)), R3, upd_comm qp, by rw [upd_ne (Ne.symm qp)]; exact hp0, ?_, ?_, by rw [List.length_set]; exact y1, ?_, ?_, ?_⟩
      · refine eget_some.mpr ?_
        rw [List.getElem?_set_ne (Ne.symm hiy)]
        exact List.getElem?_set_self (List.getElem?_eq_some_iff.mp (eget_some.mp g1)).1
      · rw [List.getElem?_set_ne (Ne.symm hiy)]
        exact s1
      · rw [List.set_set, List.set_comm _ _ hiy, es, List.set_comm _ _ hiy.symm, List.set_set]
      · rw [← hk1, List.map_set]
        refine List.ext_getElem? fun a => ?_
        rw [List.getElem?_set]
        split
        · rename_i ha
          subst ha
          split
          · rw [List.getElem?_map, hat]
            rfl
          · rename_i hb
            rw [List.length_map] at hb
            exact absurd hj1 hb
        · rfl
      · intro kv hkv
        rcases List.mem_or_eq_of_mem_set hkv with h | h
        · obtain ⟨q', ds', a, b⟩ := ok1 kv h
          exact ⟨q', ds', a, by omega⟩
        · subst h
          exact ⟨q, g ds, rfl, by have := hl ds; omega⟩
  · have ej : j = ks.length := by omega
    subst ej
    refine .inl ⟨⟨upd_same, by omega⟩, upd_same, ?_⟩
    rw [upd_back hp0]
    have R2 := R1.drop y
    rw [es] at R2
    exact E.nx _ _ _ _ (t ks1 hk1 ok1) R2
/-- the bodies -/
theorem mutApp {K : PySem.W.Frag} {i y : Nat} {x : Str} : MutBody i y (tDrop (tBM K "list" rAppend (tOp (rIxA K) (tVar i) (tVar y)) (tCons (tC (.str x)) tNil))) (fun xs => xs ++ [.str x]) := fun σ H D p q kvs k xs h1 h2 h3 h4 h5 h6 h7 =>
  ⟨_, h1, _, h2, .inr ⟨p, _, rfl, .inl ⟨kvs, k, h3, rfl, h4.symm⟩, .inl ⟨rfl, xs, SqL.of h5⟩, q, xs, _, rfl, rfl, h5, h6, h7⟩⟩
theorem mutClr {K : PySem.W.Frag} {i y : Nat} : MutBody i y (tDrop (tBM0 K "list" rClear (tOp (rIxA K) (tVar i) (tVar y)))) (fun _ => []) := fun σ H D p q kvs k xs h1 h2 h3 h4 h5 h6 h7 =>
  ⟨_, h1, _, h2, .inr ⟨p, _, rfl, .inl ⟨kvs, k, h3, rfl, h4.symm⟩, .inl ⟨rfl, xs, SqL.of h5⟩, q, xs, rfl, rfl, h5, h7⟩⟩
theorem snd_forApp {K : PySem.W.Frag} {i y : Nat} {x : Str} (hiy : i ≠ y) : SndS K (tLk (tFor (iKeys (tVar i)) (gName y) (tDrop (tBM K "list" rAppend (tOp (rIxA K) (tVar i) (tVar y)) (tCons (tC (.str x)) tNil))))) (vForMut i y) :=
  snd_forMut (g := fun ds => ds ++ [.str x]) hiy mutApp (fun G ds vs h => Rps.app ds _ vs _ h (Rps.one rp_str)) (fun ds => by rw [List.length_append]; exact Nat.le_refl _)
theorem snd_forClr {K : PySem.W.Frag} {i y : Nat} (hiy : i ≠ y) : SndS K (tLk (tFor (iKeys (tVar i)) (gName y) (tDrop (tBM0 K "list" rClear (tOp (rIxA K) (tVar i) (tVar y)))))) (vForMut i y) :=
  snd_forMut (g := fun _ => []) hiy mutClr (fun G ds vs h => Rps.nil) (fun ds => by simp)
theorem e_forMut {i y : Nat} {x : XP} {pd : Pd} {e : Env} : vForMut i y x pd e = onO (.pl i) e (onForMut i y pd e) := rfl
theorem e_onForMut {i y : Nat} {pd : Pd} {e : Env} {p : Addr} {ks : List (Key × O)} : onForMut i y pd e (.dcO p ks) = (y < e.length ∧ (ks.map (·.1)).Nodup ∧ ∃ n, okL n ks ∧ n + ks.length < sizeLine ∧ ∀ ks' : List (Key × O), ks'.map (·.1) = ks.map (·.1) → okL (n + ks.length) ks' → pd.nx ((e.set i (some (.dcO p ks'))).set y none)) := rfl
theorem e_dict0O {x : XP} {e : Env} {post : O → Env → Prop} : vDict0O x e post = ∀ p, post (.dcO p []) e := rfl
def kKeyO1 (j : Nat) (b : WE) (pd : Pd) (oa : O) (e1 : Env) : Prop := (∃ o, eget e1 j = some o) ∧ b noX e1 (kKeyO j oa pd)
theorem e_keyO {j : Nat} {b a : WE} {x : XP} {pd : Pd} {e : Env} : vKeyO j b a x pd e = a x e (kKeyO1 j b pd) := rfl
theorem e_keyO1 {j : Nat} {b : WE} {pd : Pd} {oa : O} {e1 : Env} : kKeyO1 j b pd oa e1 = ((∃ o, eget e1 j = some o) ∧ b noX e1 (kKeyO j oa pd)) := rfl
def kKeyO2 (j : Nat) (oa : O) (pd : Pd) (e2 : Env) (k : Key) (oc : O) : Prop := onDcO oc fun p ks => ks.length < sizeLine ∧ (ks.any fun kv => decide (kv.1 = k)) = false ∧ pd.nx (e2.set j (some (.dcO p (ks ++ [(k, oa)]))))
theorem e_kKeyO {j : Nat} {oa : O} {pd : Pd} {x : Str} {e2 : Env} : kKeyO j oa pd (.pu (.str x)) e2 = kOn (eget e2 j) (kKeyO2 j oa pd e2 (.inr x)) := by
  show onO (.pl j) e2 (kKeyO2 j oa pd e2 (.inr x)) = _
  unfold onO
  show (match eget e2 j with | some o => kKeyO2 j oa pd e2 (.inr x) o | none => False) = _
  cases eget e2 j <;> rfl
theorem e_kKeyO2 {j : Nat} {oa : O} {pd : Pd} {e2 : Env} {k : Key} {p : Addr} {ks : List (Key × O)} : kKeyO2 j oa pd e2 k (.dcO p ks) = (ks.length < sizeLine ∧ (ks.any fun kv => decide (kv.1 = k)) = false ∧ pd.nx (e2.set j (some (.dcO p (ks ++ [(k, oa)]))))) := rfl
theorem e_wkeyO {j : Nat} {b : WE} {d : D} {e : Env} {post : Env → Prop} : wKeyO j b d e post = ((∃ o, eget e j = some o) ∧ b noX e (kKeyP j d post)) := rfl
def kKeyP2 (j : Nat) (d : D) (post : Env → Prop) (e2 : Env) (k : Key) (oc : O) : Prop := onDcO oc fun p ks => ks.length < sizeLine ∧ post (e2.set j (some (.dcO p (putO ks k (.pu d)))))
theorem e_kKeyP {j : Nat} {d : D} {post : Env → Prop} {x : Str} {e2 : Env} : kKeyP j d post (.pu (.str x)) e2 = kOn (eget e2 j) (kKeyP2 j d post e2 (.inr x)) := by
  show onO (.pl j) e2 (kKeyP2 j d post e2 (.inr x)) = _
  unfold onO
  show (match eget e2 j with | some o => kKeyP2 j d post e2 (.inr x) o | none => False) = _
  cases eget e2 j <;> rfl
theorem e_kKeyP2 {j : Nat} {d : D} {post : Env → Prop} {e2 : Env} {k : Key} {p : Addr} {ks : List (Key × O)} : kKeyP2 j d post e2 k (.dcO p ks) = (ks.length < sizeLine ∧ post (e2.set j (some (.dcO p (putO ks k (.pu d)))))) := rfl
end Vl

namespace Vl
open PySem PySem.Spec PyProof.Rows L2
theorem e_tdO {p : Addr} {ks : List (Key × O)} : O.toD (.dcO p ks) = .dct (O.toDk ks) := by simp only [O.toD]
theorem e_isNO {neg : Bool} {p : Addr} {ks : List (Key × O)} {post : O → Prop} : vIsN neg (.dcO p ks) post = post (.pu (.bl neg)) := by
  show post (.pu (.bl (if neg then !false else false))) = _
  cases neg <;> rfl
section
variable {X : Cx} {tg iter : Expr} {st : Stmt} {i y : Nat} {x : Str} {g : TG} {pos : Pos}
/-- for k in d: d[k].append(c) -/
theorem vs_forApp (hp : PassesOwn (model X.prog X.w) X.A X.env X.xe) (hc : X.calm = true) (hiy : i ≠ y) (hi : PI X tg iter (iKeys (tVar i))) (hg : PG X tg (gName y)) (hb : PS X st (tDrop (tBM X.K "list" rAppend (tOp (rIxA X.K) (tVar i) (tVar y)) (tCons (tC (.str x)) tNil))))
    (hs : ∀ x, foldedSetIterable iter X.env x = pure x := by intro _; rfl) : VS X (.For tg iter [st] [] pos) (tLk (tFor (iKeys (tVar i)) (gName y) (tDrop (tBM X.K "list" rAppend (tOp (rIxA X.K) (tVar i) (tVar y)) (tCons (tC (.str x)) tNil))))) (vForMut i y) :=
  ⟨ps_lk (ps_for hp hc hi hg (pss_one hb) hs), snd_forApp hiy⟩
/-- for k in d: d[k].clear() -/
theorem vs_forClr (hp : PassesOwn (model X.prog X.w) X.A X.env X.xe) (hc : X.calm = true) (hiy : i ≠ y) (hi : PI X tg iter (iKeys (tVar i))) (hg : PG X tg (gName y)) (hb : PS X st (tDrop (tBM0 X.K "list" rClear (tOp (rIxA X.K) (tVar i) (tVar y)))))
    (hs : ∀ x, foldedSetIterable iter X.env x = pure x := by intro _; rfl) : VS X (.For tg iter [st] [] pos) (tLk (tFor (iKeys (tVar i)) (gName y) (tDrop (tBM0 X.K "list" rClear (tOp (rIxA X.K) (tVar i) (tVar y)))))) (vForMut i y) :=
  ⟨ps_lk (ps_for hp hc hi hg (pss_one hb) hs), snd_forClr hiy⟩
end
end Vl

namespace Vl
open PySem PySem.Spec PyProof.Rows L2

/-! ### tuples of which more is known: they have no dict of their own -/
theorem call_tupC {X : Cx} : CallR X (.type "tuple") (fun xs H Q => ∃ p ys, xs = [.ref p] ∧ SqL X.K H p ys ∧ ∀ l o, H l = none → o.dict = .none → Q (.ref l) (upd H l (.frz o (.tup ys)))) := by
  intro pins s σ H xs us Q I r h
  obtain ⟨p, ys, rfl, hq, q⟩ := h
  obtain ⟨u, rfl, rx⟩ := vals1 r
  cases rx
  obtain ⟨its, r', pl, hz⟩ := I.list hq
  have hlen := r'.length
  refine call_tuple_list pl.isList (fun h' kp => ?_) (by simp only [List.size_toArray] <;> omega)
  have J : Inv X pins σ H { s with heap := h' } := I.kept (t' := s.toks) kp
  have J2 : Inv X pins σ (upd H h'.objs.size (.frz { cls := .type "tuple", data := .seq its.toArray } (.tup ys))) { s with heap := h'.push { cls := .type "tuple", data := .seq its.toArray } } :=
    J.laid (t' := s.toks) (fun b o e => Heap.get?_push_of_some _ e) (Nat.le_refl _) ⟨Heap.get?_push_size _ rfl, hz, its, r', IsTup.new _ _⟩
  exact ⟨.ref h'.objs.size, _, J2, rfl, q _ _ (J.hok.fresh (Nat.le_refl _)) rfl⟩
/-- tuple(xs): as one wants -/
def gTupleC : G1 := fun o post => match o with
  | .pu (.lst ds) => post (.pu (.tup ds)) ∨ post (.pu (.tupN ds))
  | .ls _ ds => post (.pu (.tup ds)) ∨ post (.pu (.tupN ds))
  | _ => False
theorem Rel.newTupN {K : PySem.W.Frag} {φ : Fx} {e : Env} {σ : L2.St} {G H : Hp} {p : Addr} {o : Obj} {ds : List D} {vs : List V} (R : Rel K φ e σ G H) (hp : H p = none) (hd : o.dict = .none) (hs : Rps K G ds vs) : Rel K φ (some (.pu (.tupN ds)) :: e) (some (.ref p) :: σ) (upd G p (.frz o (.tup vs))) (upd H p (.frz o (.tup vs))) := by
  have N := R.newG (u := .frz o (.tup vs)) hp
  refine N.1.consPu ?_
  unfold Rp
  exact ⟨p, o, vs, rfl, .inr ⟨o, upd_same⟩, .inl upd_same, hd, Rps.mono N.2 ds vs hs⟩
def rTupC (K : PySem.W.Frag) : List V → Hp → VK → Prop := fun xs H Q => (∃ p ys, xs = [.ref p] ∧ ((SqL K H p ys ∧ ∀ l, H l = none → Q (.ref l) (upd H l (.tup ys))) ∨ (SqT K H p ys ∧ Q (.ref p) H))) ∨ ∃ p ys, xs = [.ref p] ∧ SqL K H p ys ∧ ∀ l o, H l = none → o.dict = .none → Q (.ref l) (upd H l (.frz o (.tup ys)))
theorem call_tupleC {X : Cx} : CallR X (.type "tuple") (rTupC X.K) := CallR.or call_tuple_of call_tupC
theorem sr_tupleC {K : PySem.W.Frag} : SndRN K (rTupC K) (g1 gTupleC) := snd_g1 fun φ e σ G H o1 v1 post Q R a p q => by
  have key : ∀ ds, (o1 = .pu (.lst ds) ∨ ∃ p, o1 = .ls p ds) → (post (.pu (.tup ds)) ∨ post (.pu (.tupN ds))) → rTupC K [v1] H Q := fun ds ho p => by
    obtain ⟨l, vs, rfl, hs, hv⟩ := a.lst R.sub ho
    rcases p with p | p
    · exact .inl ⟨_, vs, rfl, .inl ⟨hs, fun l hl => q _ _ _ _ p (R.newTup hl hv)⟩⟩
    · exact .inr ⟨_, vs, rfl, hs, fun l o hl hd => q _ _ _ _ p (R.newTupN hl hd hv)⟩
  unfold gTupleC at p
  split at p
  · exact key _ (.inl rfl) p
  · exact key _ (.inr ⟨_, rfl⟩) p
  · exact p.elim
theorem e_gTupleC1 {ds : List D} {k : O → Prop} : gTupleC (.pu (.lst ds)) k = (k (.pu (.tup ds)) ∨ k (.pu (.tupN ds))) := rfl
theorem e_gTupleC2 {p : Addr} {ds : List D} {k : O → Prop} : gTupleC (.ls p ds) k = (k (.pu (.tup ds)) ∨ k (.pu (.tupN ds))) := rfl
/-- less is known -/
def wkD : D → D
  | .tupN ds => .tup ds
  | d => d
def wkO : O → O
  | .pu d => .pu (wkD d)
  | o => o
theorem OAt.wk {K : PySem.W.Frag} {G H : Hp} {o : O} {v : V} (h : OAt K G H o v) : OAt K G H (wkO o) v := by
  cases o with
  | pu d =>
    cases d with
    | tupN ds =>
      unfold OAt Rp at h
      obtain ⟨a, o, vs, e, q, _, _, r⟩ := h
      show OAt K G H (.pu (.tup ds)) v
      unfold OAt Rp
      exact ⟨a, vs, e, .inl q, r⟩
    | _ => exact h
  | _ => exact h
theorem fp_wk (o : O) : (wkO o).fp = o.fp := by
  cases o with
  | pu d => show O.fp (.pu (wkD d)) = _; unfold O.fp; rfl
  | _ => rfl
def vWk (a : WE) : WE := fun x e post => a x e fun o e' => post (wkO o) e'
theorem Rel.wk {K : PySem.W.Frag} {φ : Fx} {e : Env} {σ : L2.St} {G H : Hp} {o : O} {v : V} (S : Rel K φ (some o :: e) (some v :: σ) G H) : Rel K φ (some (wkO o) :: e) (some v :: σ) G H := by
  have a := S.headOAt.wk
  cases o with
  | pu d =>
    refine S.tail.consPu ?_
    have a : OAt K G H (.pu (wkD d)) v := a
    unfold OAt at a
    exact a
  | _ => exact S
theorem SndE.wk {K : PySem.W.Frag} {te : TE} {a : WE} (h : SndE K te a) : SndE K te (vWk a) := fun φ e σ G H x post Q R X t q =>
  h φ e σ G H x _ _ R X t fun o e' v G' H' p S => q (wkO o) e' v G' H' p S.wk
theorem VE.wk {X : Cx} {e : Expr} {te : TE} {t : WE} (h : VE X e te t) : VE X e te (vWk t) := ⟨h.pe, h.snd.wk⟩
def kWk (post : O → Env → Prop) (o : O) (e : Env) : Prop := post (wkO o) e
theorem e_wk {a : WE} {x : XP} {e : Env} {post : O → Env → Prop} : vWk a x e post = a x e (kWk post) := rfl
theorem e_kwk1 {post : O → Env → Prop} {ds : List D} {e : Env} : kWk post (.pu (.tupN ds)) e = post (.pu (.tup ds)) e := rfl
theorem e_kwk2 {post : O → Env → Prop} {ds : List D} {e : Env} : kWk post (.pu (.tup ds)) e = post (.pu (.tup ds)) e := rfl
theorem e_kwk3 {post : O → Env → Prop} {s : Str} {e : Env} : kWk post (.pu (.str s)) e = post (.pu (.str s)) e := rfl
/-! ### t.m(..) -/
def tBMT (K : PySem.W.Frag) (r : V → List V → Hp → VK → Prop) (to : TE) (t : TA) : TE := fun σ H Q => to σ H fun x J => (∃ p o vs, x = .ref p ∧ Rd J p (.frz o (.tup vs)) ∧ o.dict = .none) ∧ t σ J fun xs L => r x xs L Q
section
variable {X : Cx} {o e : Expr} {es : List Expr} {to : TE} {t : TA} {name : Str} {apos cpos : Pos} {id : String} {r : V → List V → Hp → VK → Prop}
theorem frz_get {P : Program} {w : World} {H : Hp} {h : Heap} {a : Addr} {o : Obj} {u : HO} (k : HOk P w H h) (e : Rd H a (.frz o u)) : h.get? a = some o ∧ ObjOk P w H h a u := by
  rcases e with e | ⟨o', e⟩
  · exact k a _ e
  · exact (k a _ e).2
theorem pe_bmT (pa : PlainAttrs "tuple") (slot : Slot "tuple" name id) (hty : typeOf (.builtin id) = pure (.type "method_descriptor")) (hm : MtR X id r) (ho : PE X o to) (ha : PA X (e :: es) t)
    (hbase : attributeBase o name X.env (eval o X.env) = eval o X.env := by rfl)
    (hfew : ((backTo cpos (starEach (e :: es) X.env)).all (fun x => !x.1) && (backToKw cpos (keywordEach [] X.env)).all (fun x => x.1.isSome) && decide ((e :: es).length + ([] : List Keyword).length + (if ([] : List Keyword).isEmpty then 0 else 1) < 30)) = true := by rfl)
    (hline : (apos.endLine == cpos.line) = true := by rfl) (hs : starEach (e :: es) X.env = (false, eval e X.env) :: starEach es X.env := by rfl) (hplain : (backTo cpos (starEach es X.env)).any (·.1) = false := by rfl) :
    PE X (.Call (.Attribute o name apos) (e :: es) [] cpos) (tBMT X.K r to t) := by
  refine ⟨fun pins s σ H Q I h => ?_⟩
  refine wpAny_Call_method_late hbase hfew hline rfl (thn (ho.run pins s σ H _ I h) fun v w ⟨x, J, I2, rv, ⟨p, ob, vs, ex, hf, hd⟩, q⟩ => ?_)
  subst ex
  obtain rfl : v = Value.ref p := rv
  obtain ⟨g, _, its, _, o2, g2, c2, _⟩ := frz_get I2.hok hf
  obtain rfl : ob = o2 := Option.some.inj (g.symm.trans g2)
  refine ⟨"tuple", id, pa, slot, hty, ⟨ob, g, c2⟩, fun a ea => by cases ea; exact ⟨ob, g, hd⟩, ?_⟩
  have hA := ha.run cpos pins w σ J _ I2 q
  rw [hs] at hA ⊢
  refine Calls.callWith_builtin (by show (false || (backTo cpos (starEach es X.env)).any (·.1)) = false; rw [hplain] <;> rfl) (Calls.evalArgs_plain ?_)
  exact thn hA fun us s2 ⟨ws, L, I3, r2, q2⟩ => hm pins s2 σ L (.ref p) ws _ us Q I3 rfl r2 q2
end
def vMtT (g : GM) (qa : WQ) (wa : WA) : WE := fun x e post => qa x e fun q e1 => onO q e1 fun o => (∃ ds, o = .pu (.tupN ds)) ∧ wa x e1 fun qs e2 => onO q e2 fun o' => onOs qs e2 fun os => g o' os fun r => post r e2
theorem snd_mtT {K : PySem.W.Frag} {r : V → List V → Hp → VK → Prop} {g : GM} {to : TE} {qa : WQ} {ta : TA} {wa : WA} (ho : SndQ K to qa) (ha : SndA K ta wa) (hr : SndRM K r g) : SndE K (tBMT K r to ta) (vMtT g qa wa) := fun φ e σ G H x post Q R X t q => by
  refine ho φ e σ G H x _ _ R X t fun q1 e1 v1 G1 H1 p1 R1 k1 => ?_
  obtain ⟨o, g1, ⟨ds, rfl⟩, p1⟩ := onO_iff.mp p1
  have a1 := R1.opnd k1 g1
  unfold OAt Rp at a1
  obtain ⟨ad, ob, vs, ev, _, hf, hd, _⟩ := a1
  refine ⟨⟨ad, ob, vs, ev, R1.sub _ _ hf, hd⟩, ?_⟩
  have F := Rel.frame (ts := [q1.slot]) (vs := [some v1]) R1 rfl
  refine ha _ e1 σ G1 H1 x _ _ F.1 (ExOk.frame (ts := [q1.slot]) (vs := [some v1]) X R1 rfl) p1 fun qs e2 ws G2 H2 p2 R2 k2 => ?_
  obtain ⟨o', g2, p2⟩ := onO_iff.mp p2
  have R3 : Rel K φ ((q1 :: qs).map Opnd.slot ++ e2) ((v1 :: ws).map some ++ σ) G2 H2 := F.2 _ _ _ _ R2
  obtain ⟨os, z, p3⟩ := Rel.opnds (q1 :: qs) (v1 :: ws) (fun os => ∃ o'' r, os = o'' :: r ∧ g o'' r fun r => post r e2) R3 (.cons k1 k2) (by
    unfold onOs
    rw [onO_iff]
    refine ⟨o', g2, ?_⟩
    have mono : ∀ (qs : List Opnd) (k k' : List O → Prop), (∀ os, k os → k' os) → onOs qs e2 k → onOs qs e2 k' := by
      intro qs
      induction qs with
      | nil => intro k k' h p; exact h _ p
      | cons a r ih =>
        intro k k' h p
        unfold onOs at p ⊢
        obtain ⟨o, g, p⟩ := onO_iff.mp p
        exact onO_iff.mpr ⟨o, g, ih _ _ (fun os => h _) p⟩
    exact mono qs _ _ (fun os h => ⟨o', os, rfl, h⟩) p2)
  obtain ⟨o'', r', e0, p4⟩ := p3
  subst e0
  cases z with
  | cons a b => exact hr φ e2 σ G2 H2 o'' v1 r' ws _ Q (Rel.untemps _ _ R3 (.cons k1 k2)) a b p4 fun o v G' H' pd rd => q o e2 v G' H' pd rd
theorem ve_mtT {X : Cx} {o e : Expr} {es : List Expr} {to : TE} {qa : WQ} {t : TA} {wa : WA} {name : Str} {apos cpos : Pos} {id : String} {r : V → List V → Hp → VK → Prop} {g : GM} (pa : PlainAttrs "tuple") (slot : Slot "tuple" name id) (hty : typeOf (.builtin id) = pure (.type "method_descriptor"))
    (hm : MtR X id r) (hr : SndRM X.K r g) (ho : VQ X o to qa) (ha : VA X (e :: es) t wa)
    (hbase : attributeBase o name X.env (eval o X.env) = eval o X.env := by rfl)
    (hfew : ((backTo cpos (starEach (e :: es) X.env)).all (fun x => !x.1) && (backToKw cpos (keywordEach [] X.env)).all (fun x => x.1.isSome) && decide ((e :: es).length + ([] : List Keyword).length + (if ([] : List Keyword).isEmpty then 0 else 1) < 30)) = true := by rfl)
    (hline : (apos.endLine == cpos.line) = true := by rfl) (hs : starEach (e :: es) X.env = (false, eval e X.env) :: starEach es X.env := by rfl) (hplain : (backTo cpos (starEach es X.env)).any (·.1) = false := by rfl) :
    VE X (.Call (.Attribute o name apos) (e :: es) [] cpos) (tBMT X.K r to t) (vMtT g qa wa) := ⟨pe_bmT pa slot hty hm ho.pe ha.pa hbase hfew hline hs hplain, snd_mtT ho.snd ha.snd hr⟩
def gCountTN : GM := fun o os post => on1 os fun a => match o with
  | .pu (.tupN ds) => inNOk a.toD ds ∧ post (.pu (.int (cntD a.toD ds : Nat)))
  | _ => False
theorem sr_countTN {K : PySem.W.Frag} : SndRM K (rCntT K) gCountTN := fun φ e σ G H o v os vs post Q R a z p q => by
  unfold gCountTN at p
  obtain ⟨b, rfl, p⟩ := on1_iff.mp p
  split at p
  · cases z with
    | cons c d =>
      cases d
      obtain ⟨l, ws, rfl, hs, hv⟩ := OAt.tup R.sub a.wk
      exact ⟨_, _, l, ws, _, rfl, rfl, hs, Rps.mono R.sub _ _ hv, c.rp R.sub, p.1, q _ _ G H p.2 (R.consPu rp_int)⟩
  · exact p.elim
def kMtT2 (g : GM) (wa : WA) (x : XP) (post : O → Env → Prop) (q : Opnd) (e : Env) (o : O) : Prop := (∃ ds, o = .pu (.tupN ds)) ∧ wa x e (kMt3 g post q)
def kMtT (g : GM) (wa : WA) (x : XP) (post : O → Env → Prop) (q : Opnd) (e : Env) : Prop := onO q e (kMtT2 g wa x post q e)
theorem e_mtT {g : GM} {qa : WQ} {wa : WA} {x : XP} {e : Env} {post : O → Env → Prop} : vMtT g qa wa x e post = qa x e (kMtT g wa x post) := rfl
theorem e_kmtT {g : GM} {wa : WA} {x : XP} {post : O → Env → Prop} {q : Opnd} {e : Env} : kMtT g wa x post q e = onO q e (kMtT2 g wa x post q e) := rfl
theorem e_kmtT2 {g : GM} {wa : WA} {x : XP} {post : O → Env → Prop} {q : Opnd} {e : Env} {ds : List D} : kMtT2 g wa x post q e (.pu (.tupN ds)) = wa x e (kMt3 g post q) := by
  unfold kMtT2
  simp
theorem e_gCountTN {ds : List D} {a : O} {post : O → Prop} : gCountTN (.pu (.tupN ds)) [a] post = (inNOk a.toD ds ∧ post (.pu (.int (cntD a.toD ds : Nat)))) := rfl
end Vl

namespace Lw
open PySem PySem.Spec PyProof.Rows L2 Vl
local macro_rules | `(tactic| walk_at "v") => `(tactic| try simp only [e_kE, e_on1, e_eg0, e_egS, e_ov, e_op, e_var, e_kvar, e_mv, e_kmv, e_pl, e_pq, e_kpq, e_c, e_Q, e_kq, e_onI, e_onB, e_onS, e_onLst1, e_onLst2, e_onLs, e_onDc, e_on1_, e_opt, e_tdp, e_tdl, e_tdd, e_op1, e_kop1, e_kop1g, e_op2, e_kop2, e_kop2b, e_kop2c, e_kop2d, e_gMod, e_gFdiv, e_gPow, e_gSubI, e_gLt, e_gLe, e_gGt, e_gGe, e_gNeg, e_gAdd1, e_gAdd2, e_gAdd3, e_gMul1, e_gMul2, e_gMul3, e_kPu, e_kChar, e_gIx1, e_gIx2, e_gIx3, e_gIx4, e_at0, e_at1, e_at2, e_at3, e_at4, e_atm1, e_gEq, e_gNe, e_isN1, e_isN2, e_test, e_ktest, e_andT, e_kandT, e_orT, e_korT, e_notT, e_knotT, e_ifE, e_kifE, e_andV, e_kandV, e_orV, e_korV, e_notV, e_knotV, e_yes, e_vpN, e_vpC, e_kvp, e_kvp2, e_tup, e_ktup, e_lst, e_klst, e_voN, e_voS, e_ksome, e_sl, e_ksl, e_ksl2, e_ksl3, e_ksl4, e_gSl1, e_gSl2, e_gSl3, e_gSl4, e_os0, e_osS, e_kos, e_kos2, e_vaN, e_vaC, e_kva, e_kva2, e_cb, e_kcb, e_kcb2, e_g1, e_g2, e_gLen1, e_gList1, e_gTuple1, e_gLen2, e_gList2, e_gTuple2, e_gLen3, e_gList3, e_gTuple3, e_gLen4, e_gLen5, e_gLen6, e_gAbs, e_gInt1, e_gInt2, e_gMax, e_gMin, e_gDm, e_isi, e_kisi, e_isi_str12, e_isi_tuple12, e_isi_list12, e_isi_list7, e_isi_dict12, e_isi_dict7, e_isi_int12, e_mt, e_kmt, e_kmt2, e_kmt3, e_kmt4, e_kmt5, e_tyS, e_tyL, e_tyL2, e_tyD, e_gSS, e_gJoin, e_mut, e_mut0, e_kmut, e_kmut0, e_kmut2, e_kmut3, e_kmut4, e_gAppend, e_gClear, e_ext, e_kext, e_kext2, e_kext3, e_next, e_seq, e_brk, e_cnt, e_drop, e_kdrop, e_ret, e_retN, e_if, e_kif, e_set, e_kset, e_asg, e_kasg, e_name, e_wnil, e_wcons, e_kw, e_wtup, e_sub, e_ksub, e_ksub3, e_ksub5, e_ex, e_ix1_0, e_ix2_0, e_ix2_1, e_ix3_0, e_ix3_1, e_ix3_2, e_ix4_0, e_ix4_1, e_ix4_2, e_ix4_3, e_ix5_0, e_ix5_1, e_ix5_2, e_ix5_3, e_ix5_4, e_for, e_wseq, e_kseq1, e_kseq2, e_kseq3, e_wr1, e_kr1, e_wr2, e_kr2, e_body, e_kwh, e_lc, e_klc, e_klc2, e_wp0, e_wp1, e_kl1, e_kl2, e_kl3, e_vvN, e_vvC, e_kvv, e_kvv2, e_vvM, e_kmvv, e_kmvv2, e_vlt, e_klt, e_klt2, e_klt3, e_call, e_kcall, e_kret, e_pb0, e_pb1, e_pbE, e_pb2, e_pb3, pb1n, pb2n, pb3n, pb4n, pb5n, pb6n, rangeD_len, dStrs_map, eqv_str, eqv_int, eqv_bl, eqv_nil, cmpb_nil, cmpb_str, cmpb_int, cmpb_bl, dep_str, dep_int, dep_bl, dep_non, dep_nil, nd_lst, nd_tup, nd_str, nd_int, nd_bl, nd_non, List.set_cons_zero, List.set_cons_succ, List.map_cons, List.map_nil, List.length_cons, List.length_nil, true_and, and_true, Bool.not_true, Bool.not_false, decide_eq_true_eq, decide_eq_false_iff_not, Bool.not_eq_true', Bool.not_eq_false', forall_const, true_implies, reduceCtorEq, false_implies, Nat.reduceAdd, Nat.reduceLeDiff, sizeLine, Nat.zero_add, List.take_succ_cons, List.take_zero, List.nil_append, List.cons_append, List.replicate_succ, List.replicate_zero, Nat.reduceSub, Nat.reducePow, implies_true, List.replicate, not_true_eq_false, not_false_eq_true, eq_self, e_dict0, e_gAddL1, e_gAddL2, e_gAddL3, e_gAddL4, e_gAddL5, e_gAddL6, e_gAddL7, e_gLtA1, e_gLtA2, e_key, e_kkey1, e_kkey2, e_kkey3, e_gDictD1, e_gDictD2, e_enum, e_kenum, e_rev, e_krev, e_lrev, e_klrev1, e_klrev2, e_isi_bool, e_gIxD1, e_gIxDi1, e_gInD1false, e_gInD1true, e_gIxD2, e_gIxDi2, e_gInD2false, e_gInD2true, e_look, e_gInL1false, e_gInL1true, e_gInL2false, e_gInL2true, e_gInL3false, e_gInL3true, e_forD, e_kforD, e_lcD, e_klcD, e_get1, e_kget1, e_isDo1, e_isDo2, e_kget1b, e_kget1c1, e_kget1c2, e_get2, e_kget2, e_kget2b, e_kget2c, e_kget2d1, e_kget2d2, e_zip, e_kzip, e_gCount1, e_gCount2, e_gDictA1, e_gDictA2, e_gDictA3, e_gDictA4, e_gList5, e_gList6, e_gSorted1, e_gSorted2, e_gInN1, e_gInN2, e_gInN3, e_gInN4, e_gInN5, e_gInN6, e_gMinDf1, e_isi_str_non, e_vpu, e_kpuA, e_rbT, e_krbT, e_rb, e_krb1, e_krb2, e_krb3, e_krb4, e_frz0, e_frzN, e_frzS, e_gIdx1, e_gIdx2, e_forK, e_kforK, e_enumK, e_kenumK1, e_kenumK2, e_zipK, e_kzipK1, e_kzipK2, e_kzipK3, e_kzipK4, e_at5, e_at6, e_gItemsL1, e_gItemsL2, e_gNeH, e_orA, e_korA1, e_korA2, e_nn1, e_nn2, e_nn3, e_nn4, e_nn5, e_nn6, e_nn7, e_nn8, e_nn9, e_gSortA1, e_gSortA2, e_gSortA3, e_gSortI1, e_gSortI2, e_gCountT, e_gIsB1, e_gIsB2, e_forMut, e_onForMut, e_dict0O, e_keyO, e_keyO1, e_kKeyO, e_kKeyO2, e_wkeyO, e_kKeyP, e_kKeyP2, e_tdO, e_isNO, e_gTupleC1, e_gTupleC2, e_wk, e_kwk1, e_kwk2, e_kwk3, e_mtT, e_kmtT, e_kmtT2, e_gCountTN])
local macro_rules | `(tactic| walk_at "w") => `(tactic| try simp only [e_kE, e_on1, e_eg0, e_egS, e_ov, e_op, e_var, e_kvar, e_mv, e_kmv, e_pl, e_pq, e_kpq, e_c, e_Q, e_kq, e_onI, e_onB, e_onS, e_onLst1, e_onLst2, e_onLs, e_onDc, e_on1_, e_opt, e_tdp, e_tdl, e_tdd, e_op1, e_kop1, e_kop1g, e_op2, e_kop2, e_kop2b, e_kop2c, e_kop2d, e_gMod, e_gFdiv, e_gPow, e_gSubI, e_gLt, e_gLe, e_gGt, e_gGe, e_gNeg, e_gAdd1, e_gAdd2, e_gAdd3, e_gMul1, e_gMul2, e_gMul3, e_kPu, e_kChar, e_gIx1, e_gIx2, e_gIx3, e_gIx4, e_at0, e_at1, e_at2, e_at3, e_at4, e_atm1, e_gEq, e_gNe, e_isN1, e_isN2, e_test, e_ktest, e_andT, e_kandT, e_orT, e_korT, e_notT, e_knotT, e_ifE, e_kifE, e_andV, e_kandV, e_orV, e_korV, e_notV, e_knotV, e_yes, e_vpN, e_vpC, e_kvp, e_kvp2, e_tup, e_ktup, e_lst, e_klst, e_voN, e_voS, e_ksome, e_sl, e_ksl, e_ksl2, e_ksl3, e_ksl4, e_gSl1, e_gSl2, e_gSl3, e_gSl4, e_os0, e_osS, e_kos, e_kos2, e_vaN, e_vaC, e_kva, e_kva2, e_cb, e_kcb, e_kcb2, e_g1, e_g2, e_gLen1, e_gList1, e_gTuple1, e_gLen2, e_gList2, e_gTuple2, e_gLen3, e_gList3, e_gTuple3, e_gLen4, e_gLen5, e_gLen6, e_gAbs, e_gInt1, e_gInt2, e_gMax, e_gMin, e_gDm, e_isi, e_kisi, e_isi_str12, e_isi_tuple12, e_isi_list12, e_isi_list7, e_isi_dict12, e_isi_dict7, e_isi_int12, e_mt, e_kmt, e_kmt2, e_kmt3, e_kmt4, e_kmt5, e_tyS, e_tyL, e_tyL2, e_tyD, e_gSS, e_gJoin, e_mut, e_mut0, e_kmut, e_kmut0, e_kmut2, e_kmut3, e_kmut4, e_gAppend, e_gClear, e_ext, e_kext, e_kext2, e_kext3, e_next, e_seq, e_brk, e_cnt, e_drop, e_kdrop, e_ret, e_retN, e_kif, e_set, e_kset, e_asg, e_kasg, e_name, e_wnil, e_wcons, e_kw, e_wtup, e_sub, e_ksub, e_ksub3, e_ksub5, e_ex, e_ix1_0, e_ix2_0, e_ix2_1, e_ix3_0, e_ix3_1, e_ix3_2, e_ix4_0, e_ix4_1, e_ix4_2, e_ix4_3, e_ix5_0, e_ix5_1, e_ix5_2, e_ix5_3, e_ix5_4, e_for, e_wseq, e_kseq1, e_kseq2, e_kseq3, e_wr1, e_kr1, e_wr2, e_kr2, e_body, e_kwh, e_lc, e_klc, e_klc2, e_wp0, e_wp1, e_kl1, e_kl2, e_kl3, e_vvN, e_vvC, e_kvv, e_kvv2, e_vvM, e_kmvv, e_kmvv2, e_vlt, e_klt, e_klt2, e_klt3, e_call, e_kcall, e_kret, e_pb0, e_pb1, e_pbE, e_pb2, e_pb3, pb1n, pb2n, pb3n, pb4n, pb5n, pb6n, rangeD_len, dStrs_map, eqv_str, eqv_int, eqv_bl, eqv_nil, cmpb_nil, cmpb_str, cmpb_int, cmpb_bl, dep_str, dep_int, dep_bl, dep_non, dep_nil, nd_lst, nd_tup, nd_str, nd_int, nd_bl, nd_non, List.set_cons_zero, List.set_cons_succ, List.map_cons, List.map_nil, List.length_cons, List.length_nil, true_and, and_true, Bool.not_true, Bool.not_false, decide_eq_true_eq, decide_eq_false_iff_not, Bool.not_eq_true', Bool.not_eq_false', forall_const, true_implies, reduceCtorEq, false_implies, Nat.reduceAdd, Nat.reduceLeDiff, sizeLine, Nat.zero_add, List.take_succ_cons, List.take_zero, List.nil_append, List.cons_append, List.replicate_succ, List.replicate_zero, Nat.reduceSub, Nat.reducePow, implies_true, List.replicate, not_true_eq_false, not_false_eq_true, eq_self, e_dict0, e_gAddL1, e_gAddL2, e_gAddL3, e_gAddL4, e_gAddL5, e_gAddL6, e_gAddL7, e_gLtA1, e_gLtA2, e_key, e_kkey1, e_kkey2, e_kkey3, e_gDictD1, e_gDictD2, e_enum, e_kenum, e_rev, e_krev, e_lrev, e_klrev1, e_klrev2, e_isi_bool, e_gIxD1, e_gIxDi1, e_gInD1false, e_gInD1true, e_gIxD2, e_gIxDi2, e_gInD2false, e_gInD2true, e_look, e_gInL1false, e_gInL1true, e_gInL2false, e_gInL2true, e_gInL3false, e_gInL3true, e_forD, e_kforD, e_lcD, e_klcD, e_get1, e_kget1, e_isDo1, e_isDo2, e_kget1b, e_kget1c1, e_kget1c2, e_get2, e_kget2, e_kget2b, e_kget2c, e_kget2d1, e_kget2d2, e_zip, e_kzip, e_gCount1, e_gCount2, e_gDictA1, e_gDictA2, e_gDictA3, e_gDictA4, e_gList5, e_gList6, e_gSorted1, e_gSorted2, e_gInN1, e_gInN2, e_gInN3, e_gInN4, e_gInN5, e_gInN6, e_gMinDf1, e_isi_str_non, e_vpu, e_kpuA, e_rbT, e_krbT, e_rb, e_krb1, e_krb2, e_krb3, e_krb4, e_frz0, e_frzN, e_frzS, e_gIdx1, e_gIdx2, e_forK, e_kforK, e_enumK, e_kenumK1, e_kenumK2, e_zipK, e_kzipK1, e_kzipK2, e_kzipK3, e_kzipK4, e_at5, e_at6, e_gItemsL1, e_gItemsL2, e_gNeH, e_orA, e_korA1, e_korA2, e_nn1, e_nn2, e_nn3, e_nn4, e_nn5, e_nn6, e_nn7, e_nn8, e_nn9, e_gSortA1, e_gSortA2, e_gSortA3, e_gSortI1, e_gSortI2, e_gCountT, e_gIsB1, e_gIsB2, e_forMut, e_onForMut, e_dict0O, e_keyO, e_keyO1, e_kKeyO, e_kKeyO2, e_wkeyO, e_kKeyP, e_kKeyP2, e_tdO, e_isNO, e_gTupleC1, e_gTupleC2, e_wk, e_kwk1, e_kwk2, e_kwk3, e_mtT, e_kmtT, e_kmtT2, e_gCountTN])
local macro_rules | `(tactic| walk_at "s") => `(tactic| ((repeat' with_reducible apply And.intro) <;> try omega))
def top (i : Nat) : Stmt := PySem.Challenge.pw_speechloom_k23_meanings_counted_and_pair.main.body.getD i (.Pass ⟨0, 0, 0, 0⟩)
def isInts (ds : List D) : Prop := ∃ ns : List Int, ds = ns.map D.int
def isBox (ds : List D) : Prop := ∃ a b c : Int, ds = [.int a, .int b, .int c]
abbrev pM (p : Str × Str) : D := .tup [.str p.1, .str p.2]
inductive M where
  | mk (a : Str) (ms : List (Str × Str)) (ps : List (Str × M))
mutual
def M.d : M → D
  | .mk a ms ps => .tup [.str a, .tup (ms.map pM), .tup (M.dps ps)]
def M.dps : List (Str × M) → List D
  | [] => []
  | (r, m) :: t => .tup [.str r, m.d] :: M.dps t
end
abbrev pD2 (p : Str × M) : D := .tup [.str p.1, p.2.d]
theorem dps_map : ∀ ps : List (Str × M), M.dps ps = ps.map pD2
  | [] => by unfold M.dps; rfl
  | (r, m) :: t => by unfold M.dps; rw [dps_map t]; rfl
theorem d_mk (a : Str) (ms : List (Str × Str)) (ps : List (Str × M)) : (M.mk a ms ps).d = .tup [.str a, .tup (ms.map pM), .tup (ps.map pD2)] := by
  unfold M.d
  rw [dps_map]
mutual
def M.nodes : M → Nat
  | .mk _ _ ps => 1 + M.nodesL ps
def M.nodesL : List (Str × M) → Nat
  | [] => 0
  | (_, m) :: t => m.nodes + M.nodesL t
end
mutual
def M.depth : M → Nat
  | .mk _ _ ps => 1 + M.depthL ps
def M.depthL : List (Str × M) → Nat
  | [] => 0
  | (_, m) :: t => max m.depth (M.depthL t)
end
def M.isH : M → Bool
  | .mk a ms _ => decide (a = "") && decide (ms = [])
mutual
def M.has : M → Bool
  | .mk a ms ps => (decide (a = "") && decide (ms = [])) || M.hasL ps
def M.hasL : List (Str × M) → Bool
  | [] => false
  | (_, m) :: t => m.has || M.hasL t
end
/-- by the parts -/
theorem M.ind {P : M → Prop} (h : ∀ a ms ps, (∀ p ∈ ps, P p.2) → P (.mk a ms ps)) : ∀ m, P m := by
  intro m
  have : ∀ n, ∀ m : M, sizeOf m < n → P m := fun n => by
    induction n with
    | zero => intro m h; omega
    | succ n ih =>
      intro m hm
      cases m with
      | mk a ms ps =>
        refine h a ms ps fun p hp => ih p.2 ?_
        have h1 := List.sizeOf_lt_of_mem hp
        have h2 : sizeOf p.2 < sizeOf p := by cases p; simp; omega
        simp at hm
        omega
  exact this _ m (Nat.lt_succ_self _)
mutual
theorem M.inj : ∀ (a b : M), a.d = b.d → a = b
  | .mk a ms ps, .mk b ns qs, h => by
    unfold M.d at h
    simp only [D.tup.injEq, List.cons.injEq, D.str.injEq, and_true] at h
    obtain ⟨rfl, h2, h3⟩ := h
    have e2 : ms = ns := by
      have inj : ∀ (a b : List (Str × Str)), a.map pM = b.map pM → a = b := fun a => by
        induction a with
        | nil => intro b h; cases b with
          | nil => rfl
          | cons _ _ => cases h
        | cons x r ih => intro b h; cases b with
          | nil => cases h
          | cons y s =>
            obtain ⟨x1, x2⟩ := x
            obtain ⟨y1, y2⟩ := y
            simp only [List.map_cons, List.cons.injEq, D.tup.injEq, D.str.injEq, and_true] at h
            obtain ⟨⟨rfl, rfl⟩, h2⟩ := h
            rw [ih s h2]
      exact inj _ _ h2
    rw [e2, M.injL ps qs h3]
theorem M.injL : ∀ (a b : List (Str × M)), M.dps a = M.dps b → a = b
  | [], [], _ => rfl
  | [], (_, _) :: _, h => by unfold M.dps at h; cases h
  | (_, _) :: _, [], h => by unfold M.dps at h; cases h
  | (r, m) :: t, (q, n) :: u, h => by
    unfold M.dps at h
    simp only [List.cons.injEq, D.tup.injEq, D.str.injEq, and_true] at h
    obtain ⟨⟨rfl, h1⟩, h2⟩ := h
    rw [M.inj m n h1, M.injL t u h2]
end

theorem strs_noD (ms : List (Str × Str)) : noDs (ms.map pM) = true := noDs_all fun d hd => by
  obtain ⟨p, _, rfl⟩ := List.mem_map.mp hd
  exact noD_tup fun d hd => by
    simp only [List.mem_cons, List.not_mem_nil, or_false] at hd
    rcases hd with rfl | rfl <;> (unfold noD; rfl)
theorem M.noD (m : M) : Vl.noD m.d = true := by
  refine M.ind (P := fun m => Vl.noD m.d = true) (fun a ms ps ih => ?_) m
  rw [d_mk]
  refine noD_tup fun d hd => ?_
  simp only [List.mem_cons, List.not_mem_nil, or_false] at hd
  rcases hd with rfl | rfl | rfl
  · unfold Vl.noD; rfl
  · unfold Vl.noD; exact strs_noD ms
  · refine noD_tup fun d hd => ?_
    obtain ⟨p, hp, rfl⟩ := List.mem_map.mp hd
    refine noD_tup fun d hd => ?_
    simp only [List.mem_cons, List.not_mem_nil, or_false] at hd
    rcases hd with rfl | rfl
    · unfold Vl.noD; rfl
    · exact ih p hp
theorem M.wf (m : M) : Vl.wf m.d = true := by
  refine M.ind (P := fun m => Vl.wf m.d = true) (fun a ms ps ih => ?_) m
  rw [d_mk]
  refine wf_tup fun d hd => ?_
  simp only [List.mem_cons, List.not_mem_nil, or_false] at hd
  rcases hd with rfl | rfl | rfl
  · unfold Vl.wf; rfl
  · refine wf_tup fun d hd => ?_
    obtain ⟨p, hp, rfl⟩ := List.mem_map.mp hd
    refine wf_tup fun d hd => ?_
    simp only [List.mem_cons, List.not_mem_nil, or_false] at hd
    rcases hd with rfl | rfl <;> (unfold Vl.wf; rfl)
  · refine wf_tup fun d hd => ?_
    obtain ⟨p, hp, rfl⟩ := List.mem_map.mp hd
    refine wf_tup fun d hd => ?_
    simp only [List.mem_cons, List.not_mem_nil, or_false] at hd
    rcases hd with rfl | rfl
    · unfold Vl.wf; rfl
    · exact ih p hp
theorem M.depth_le {ps : List (Str × M)} {p : Str × M} (h : p ∈ ps) : p.2.depth ≤ M.depthL ps := by
  induction ps with
  | nil => cases h
  | cons q t ih =>
    obtain ⟨r, m⟩ := q
    unfold M.depthL
    rcases List.mem_cons.mp h with rfl | h
    · exact Nat.le_max_left _ _
    · exact Nat.le_trans (ih h) (Nat.le_max_right _ _)
theorem M.dep (m : M) : Vl.dep m.d ≤ 3 * m.depth := by
  refine M.ind (P := fun m => Vl.dep m.d ≤ 3 * m.depth) (fun a ms ps ih => ?_) m
  rw [d_mk]
  have hd : (M.mk a ms ps).depth = 1 + M.depthL ps := by unfold M.depth; rfl
  rw [hd]
  refine Nat.le_trans (dep_tup (n := 3 * M.depthL ps + 2) fun d hd => ?_) (by omega)
  simp only [List.mem_cons, List.not_mem_nil, or_false] at hd
  rcases hd with rfl | rfl | rfl
  · rw [dep_str]; omega
  · refine Nat.le_trans (dep_tup (n := 1) fun d hd => ?_) (by omega)
    obtain ⟨p, hp, rfl⟩ := List.mem_map.mp hd
    refine dep_tup fun d hd => ?_
    simp only [List.mem_cons, List.not_mem_nil, or_false] at hd
    rcases hd with rfl | rfl <;> (rw [dep_str]; omega)
  · refine Nat.le_trans (dep_tup (n := 3 * M.depthL ps + 1) fun d hd => ?_) (by omega)
    obtain ⟨p, hp, rfl⟩ := List.mem_map.mp hd
    refine dep_tup fun d hd => ?_
    simp only [List.mem_cons, List.not_mem_nil, or_false] at hd
    rcases hd with rfl | rfl
    · rw [dep_str]; omega
    · have := ih p hp
      have := M.depth_le hp
      omega
theorem cmpbs_pM : ∀ a b : List (Str × Str), cmpbs (a.map pM) (b.map pM) = true
  | [], b => by unfold cmpbs; rfl
  | a :: as, [] => by unfold cmpbs; rfl
  | a :: as, b :: bs => by
    rw [List.map_cons, List.map_cons]
    unfold cmpbs
    rw [cmpbs_pM as bs]
    simp [cmpb, cmpbs]
mutual
theorem M.cmp : ∀ (a b : M), cmpb a.d b.d = true
  | .mk a ms ps, .mk b ns qs => by
    unfold M.d
    simp only [cmpb, cmpbs, Bool.and_eq_true]
    exact ⟨trivial, cmpbs_pM ms ns, M.cmpL ps qs, trivial⟩
theorem M.cmpL : ∀ (a b : List (Str × M)), cmpbs (M.dps a) (M.dps b) = true
  | [], _ => by unfold M.dps cmpbs; rfl
  | (_, _) :: _, [] => by unfold M.dps cmpbs; rfl
  | (r, m) :: t, (q, n) :: u => by
    unfold M.dps
    simp only [cmpb, cmpbs, Bool.and_eq_true]
    exact ⟨⟨trivial, M.cmp m n, trivial⟩, M.cmpL t u⟩
end
mutual
theorem M.eqI : ∀ (a b : M), eqv a.d b.d = true → a = b
  | .mk a ms ps, .mk b ns qs, h => by
    unfold M.d at h
    simp only [eqv, eqvs, Bool.and_eq_true, beq_iff_eq] at h
    obtain ⟨rfl, h2, h3, _⟩ := h
    have e2 : ms = ns := by
      have inj : ∀ (a b : List (Str × Str)), eqvs (a.map pM) (b.map pM) = true → a = b := fun a => by
        induction a with
        | nil => intro b h; cases b with
          | nil => rfl
          | cons _ _ => simp [eqvs] at h
        | cons x r ih => intro b h; cases b with
          | nil => simp [eqvs] at h
          | cons y s =>
            obtain ⟨x1, x2⟩ := x
            obtain ⟨y1, y2⟩ := y
            simp only [List.map_cons, eqv, eqvs, Bool.and_eq_true, beq_iff_eq] at h
            obtain ⟨⟨rfl, rfl, _⟩, h2⟩ := h
            rw [ih s h2]
      exact inj _ _ h2
    rw [e2, M.eqIL ps qs h3]
theorem M.eqIL : ∀ (a b : List (Str × M)), eqvs (M.dps a) (M.dps b) = true → a = b
  | [], [], _ => rfl
  | [], (_, _) :: _, h => by unfold M.dps at h; simp [eqvs] at h
  | (_, _) :: _, [], h => by unfold M.dps at h; simp [eqvs] at h
  | (r, m) :: t, (q, n) :: u, h => by
    unfold M.dps at h
    simp only [eqv, eqvs, Bool.and_eq_true, beq_iff_eq] at h
    obtain ⟨⟨rfl, h1, _⟩, h2⟩ := h
    rw [M.eqI m n h1, M.eqIL t u h2]
end
theorem alike_pM : ∀ a b : List (Str × Str), PySem.W.alikeAll (D.pys (a.map pM)) (D.pys (b.map pM)) = true
  | [], b => by unfold D.pys PySem.W.alikeAll; rfl
  | a :: as, [] => by
    simp [D.pys, PySem.W.alikeAll]
  | a :: as, b :: bs => by
    have := alike_pM as bs
    simp [D.pys, D.py, PySem.W.alike, PySem.W.alikeAll, this]
mutual
theorem M.alk : ∀ (a b : M), PySem.W.alike a.d.py b.d.py = true
  | .mk a ms ps, .mk b ns qs => by
    have h1 := alike_pM ms ns
    have h2 := M.alkL ps qs
    unfold M.d
    simp [D.pys, D.py, PySem.W.alike, PySem.W.alikeAll, h1, h2]
theorem M.alkL : ∀ (a b : List (Str × M)), PySem.W.alikeAll (D.pys (M.dps a)) (D.pys (M.dps b)) = true
  | [], _ => by unfold M.dps D.pys PySem.W.alikeAll; rfl
  | (_, _) :: _, [] => by unfold M.dps; simp [D.pys, PySem.W.alikeAll]
  | (r, m) :: t, (q, n) :: u => by
    have h1 := M.alk m n
    have h2 := M.alkL t u
    unfold M.dps
    simp [D.pys, D.py, PySem.W.alike, PySem.W.alikeAll, h1, h2]
end
theorem alk2 (p q : Str × M) : PySem.W.alike (pD2 p).py (pD2 q).py = true := by
  have h := M.alk p.2 q.2
  simp [D.pys, D.py, PySem.W.alike, PySem.W.alikeAll, h]
theorem noD2 (p : Str × M) : Vl.noD (pD2 p) = true := noD_tup fun d hd => by
  simp only [List.mem_cons, List.not_mem_nil, or_false] at hd
  rcases hd with rfl | rfl
  · unfold Vl.noD; rfl
  · exact M.noD _
theorem dep2 (p : Str × M) : Vl.dep (pD2 p) ≤ 3 * p.2.depth + 1 := dep_tup fun d hd => by
  simp only [List.mem_cons, List.not_mem_nil, or_false] at hd
  rcases hd with rfl | rfl
  · rw [dep_str]; omega
  · exact M.dep _
theorem eqI2 (p q : Str × M) (h : eqv (pD2 p) (pD2 q) = true) : p = q := by
  obtain ⟨r, m⟩ := p
  obtain ⟨s, n⟩ := q
  simp only [eqv, eqvs, Bool.and_eq_true, beq_iff_eq] at h
  obtain ⟨rfl, h1, _⟩ := h
  rw [M.eqI m n h1]
theorem cmp2 (p q : Str × M) : cmpb (pD2 p) (pD2 q) = true := by
  have := M.cmp p.2 q.2
  simp [cmpb, cmpbs, this]
theorem toks_eq {x y : PyData} (ha : PySem.W.alike x y = true) (h : PySem.W.keyToks x = PySem.W.keyToks y) : PyData.eqv x y = true := by
  cases e : PyData.eqv x y with
  | true => rfl
  | false =>
    exfalso
    have := (PySem.W.toks_eqv x y ha).2 e [.inl 0] [.inl 1]
    rw [h, PySem.W.lex_pre, PyProof.Rows.lex_irrefl] at this
    exact absurd this (by decide)
theorem leD_anti (p q : Str × M) (h1 : leD (pD2 p) (pD2 q) = true) (h2 : leD (pD2 q) (pD2 p) = true) : p = q := by
  unfold leD at h1 h2
  rw [PySem.W.dataLe_eq] at h1 h2
  simp only [cond_false, Bool.not_eq_true'] at h1 h2
  have e := PyProof.Rows.lex_total _ _ h2 h1
  have := toks_eq (alk2 p q) e
  rw [py_eqv _ _ (noD2 p) (noD2 q) (cmp2 p q)] at this
  exact eqI2 p q this
theorem leD_tot : PySem.W.TotalLe leD :=
  have h := PySem.W.sortLe_total (PyProof.Rows.listOrd PyProof.Rows.itemOrd) false fun d : D => PySem.W.keyToks d.py
  ⟨fun a b c h1 h2 => h.trans a b c h1 h2, fun a b => h.total a b⟩
def le2 (p q : Str × M) : Bool := leD (pD2 p) (pD2 q)
def srt (ps : List (Str × M)) : List (Str × M) := ps.mergeSort le2
theorem sort_ps (ps : List (Str × M)) : sortD (ps.map pD2) = (srt ps).map pD2 := (PySem.W.sort_maps pD2 fun _ _ _ _ => rfl).symm
theorem srt_perm (ps : List (Str × M)) : (srt ps).Perm ps := List.mergeSort_perm _ _
theorem srt_sorted (ps : List (Str × M)) : (srt ps).Pairwise fun a b => le2 a b = true := List.pairwise_mergeSort (le := le2) (fun a b c h1 h2 => leD_tot.trans (pD2 a) (pD2 b) (pD2 c) h1 h2) (fun a b => by
  rw [Bool.or_eq_true]
  exact leD_tot.total (pD2 a) (pD2 b)) ps
theorem srt_eq {L N : List (Str × M)} (h : L.Perm N) : srt L = srt N :=
  List.Perm.eq_of_pairwise (fun a b _ _ h1 h2 => leD_anti a b h1 h2) (srt_sorted L) (srt_sorted N) ((srt_perm L).trans (h.trans (srt_perm N).symm))
theorem srt_idem (L : List (Str × M)) : srt (srt L) = srt L := srt_eq (srt_perm L)
theorem srtOk_ps {ps : List (Str × M)} (h : M.depthL ps ≤ 19) : srtOk (ps.map pD2) := by
  refine ⟨noDs_all fun d hd => ?_, ?_, .inl fun d hd => ?_, fun d hd => ?_⟩
  · obtain ⟨p, _, rfl⟩ := List.mem_map.mp hd
    exact noD2 p
  · rintro d hd d' hd'
    obtain ⟨_, h1, rfl⟩ := List.mem_map.mp hd
    obtain ⟨_, h2, rfl⟩ := List.mem_map.mp hd'
    obtain ⟨p, _, rfl⟩ := List.mem_map.mp h1
    obtain ⟨q, _, rfl⟩ := List.mem_map.mp h2
    exact alk2 p q
  · obtain ⟨_, h1, rfl⟩ := List.mem_map.mp hd
    obtain ⟨p, _, rfl⟩ := List.mem_map.mp h1
    exact ⟨.str p.1, [p.2.d.py], by simp [D.py, D.pys]⟩
  · obtain ⟨p, hp, rfl⟩ := List.mem_map.mp hd
    have := dep2 p
    have := M.depth_le hp
    omega
theorem nodesL_app (a b : List (Str × M)) : M.nodesL (a ++ b) = M.nodesL a + M.nodesL b := by
  induction a with
  | nil => rw [List.nil_append]; simp [M.nodesL]
  | cons p t ih =>
    obtain ⟨r, m⟩ := p
    rw [List.cons_append]
    simp only [M.nodesL, ih]
    omega
theorem depthL_app (a b : List (Str × M)) : M.depthL (a ++ b) = max (M.depthL a) (M.depthL b) := by
  induction a with
  | nil => rw [List.nil_append]; simp [M.depthL]
  | cons p t ih =>
    obtain ⟨r, m⟩ := p
    rw [List.cons_append]
    simp only [M.depthL, ih]
    omega
theorem hasL_any (a : List (Str × M)) : M.hasL a = a.any fun p => p.2.has := by
  induction a with
  | nil => unfold M.hasL; rfl
  | cons p t ih =>
    obtain ⟨r, m⟩ := p
    unfold M.hasL
    rw [ih, List.any_cons]
theorem nodesL_perm {a b : List (Str × M)} (h : a.Perm b) : M.nodesL a = M.nodesL b := by
  induction h with
  | nil => rfl
  | cons p h ih => obtain ⟨r, m⟩ := p; unfold M.nodesL; rw [ih]
  | swap p q l => obtain ⟨r, m⟩ := p; obtain ⟨s, n⟩ := q; simp only [M.nodesL]; omega
  | trans _ _ h1 h2 => exact h1.trans h2
theorem depthL_perm {a b : List (Str × M)} (h : a.Perm b) : M.depthL a = M.depthL b := by
  induction h with
  | nil => rfl
  | cons p h ih => obtain ⟨r, m⟩ := p; unfold M.depthL; rw [ih]
  | swap p q l => obtain ⟨r, m⟩ := p; obtain ⟨s, n⟩ := q; simp only [M.depthL]; omega
  | trans _ _ h1 h2 => exact h1.trans h2
theorem nodes_pos (m : M) : 1 ≤ m.nodes := by
  cases m
  unfold M.nodes
  omega
theorem depth_nodes (m : M) : m.depth ≤ m.nodes := by
  refine M.ind (P := fun m => m.depth ≤ m.nodes) (fun a ms ps ih => ?_) m
  unfold M.depth M.nodes
  have : M.depthL ps ≤ M.nodesL ps := by
    induction ps with
    | nil => unfold M.depthL M.nodesL; exact Nat.le_refl _
    | cons p t ih2 =>
      obtain ⟨r, m⟩ := p
      have h1 := ih (r, m) List.mem_cons_self
      have h2 := ih2 fun q hq => ih q (List.mem_cons_of_mem _ hq)
      have h1 : m.depth ≤ m.nodes := h1
      unfold M.depthL M.nodesL
      omega
  omega
theorem len_nodesL (ps : List (Str × M)) : ps.length ≤ M.nodesL ps := by
  induction ps with
  | nil => exact Nat.zero_le _
  | cons p t ih =>
    obtain ⟨r, m⟩ := p
    have := nodes_pos m
    unfold M.nodesL
    rw [List.length_cons]
    omega
theorem eqv_ms (ms : List (Str × Str)) : eqv (.tup (ms.map pM)) (.tup []) = decide (ms = []) := by
  cases ms with
  | nil => simp [eqv, eqvs]
  | cons p t => simp [eqv, eqvs]
theorem cmp_ms (ms : List (Str × Str)) : cmpb (.tup (ms.map pM)) (.tup []) = true := by
  cases ms with
  | nil => simp [cmpb, cmpbs]
  | cons p t => simp [cmpb, cmpbs]
theorem dep_ms (ms : List (Str × Str)) : dep (.tup (ms.map pM)) ≤ 2 := dep_tup fun d hd => by
  obtain ⟨p, hp, rfl⟩ := List.mem_map.mp hd
  refine dep_tup fun d hd => ?_
  simp only [List.mem_cons, List.not_mem_nil, or_false] at hd
  rcases hd with rfl | rfl <;> (rw [dep_str]; omega)
mutual
def M.holes : M → Nat
  | .mk a ms ps => (if a = "" ∧ ms = [] then 1 else 0) + M.holesL ps
def M.holesL : List (Str × M) → Nat
  | [] => 0
  | (_, m) :: t => m.holes + M.holesL t
end
def hB (b : Bool) : Nat := if b then 1 else 0
def hH (a : Str) (ms : List (Str × Str)) : Nat := if a = "" ∧ ms = [] then 1 else 0
theorem holes_mk (a : Str) (ms : List (Str × Str)) (ps : List (Str × M)) : (M.mk a ms ps).holes = hH a ms + M.holesL ps := by
  unfold M.holes hH
  rfl
theorem holesL_app (a b : List (Str × M)) : M.holesL (a ++ b) = M.holesL a + M.holesL b := by
  induction a with
  | nil => rw [List.nil_append]; simp [M.holesL]
  | cons p t ih =>
    obtain ⟨r, m⟩ := p
    rw [List.cons_append]
    simp only [M.holesL, ih]
    omega
theorem holesL_perm {a b : List (Str × M)} (h : a.Perm b) : M.holesL a = M.holesL b := by
  induction h with
  | nil => rfl
  | cons p h ih => obtain ⟨r, m⟩ := p; unfold M.holesL; rw [ih]
  | swap p q l => obtain ⟨r, m⟩ := p; obtain ⟨s, n⟩ := q; simp only [M.holesL]; omega
  | trans _ _ h1 h2 => exact h1.trans h2
mutual
theorem M.has_eq : ∀ m : M, m.has = decide (0 < m.holes)
  | .mk a ms ps => by
    unfold M.has M.holes
    rw [M.hasL_eq ps, ← Bool.decide_and, ← Bool.decide_or]
    refine decide_eq_decide.mpr ?_
    split
    · rename_i h
      exact ⟨fun _ => by omega, fun _ => .inl h⟩
    · rename_i h
      exact ⟨fun g => by rcases g with g | g <;> first | exact absurd g h | omega, fun g => .inr (by omega)⟩
theorem M.hasL_eq : ∀ ps : List (Str × M), M.hasL ps = decide (0 < M.holesL ps)
  | [] => by unfold M.hasL M.holesL; rfl
  | (r, m) :: t => by
    unfold M.hasL M.holesL
    rw [M.has_eq m, M.hasL_eq t, ← Bool.decide_or]
    exact decide_eq_decide.mpr ⟨fun g => by omega, fun g => by omega⟩
end
mutual
def M.ok : M → Prop
  | .mk _ _ ps => srt ps = ps ∧ M.okL ps
def M.okL : List (Str × M) → Prop
  | [] => True
  | (_, m) :: t => m.ok ∧ M.okL t
end
theorem ok_mk (a : Str) (ms : List (Str × Str)) (ps : List (Str × M)) : (M.mk a ms ps).ok = (srt ps = ps ∧ M.okL ps) := by
  unfold M.ok
  rfl
theorem okL_all (ps : List (Str × M)) : M.okL ps ↔ ∀ p ∈ ps, p.2.ok := by
  induction ps with
  | nil => unfold M.okL; simp
  | cons p t ih =>
    obtain ⟨r, m⟩ := p
    unfold M.okL
    rw [ih]
    simp
theorem ok_srt (a : Str) (ms : List (Str × Str)) {ps : List (Str × M)} (h : ∀ p ∈ ps, p.2.ok) : (M.mk a ms (srt ps)).ok := by
  rw [ok_mk]
  exact ⟨srt_idem ps, (okL_all _).2 fun p hp => h p ((srt_perm ps).mem_iff.mp hp)⟩
theorem nodes_mk (a : Str) (ms : List (Str × Str)) (ps : List (Str × M)) : (M.mk a ms ps).nodes = 1 + M.nodesL ps := by
  unfold M.nodes
  rfl
theorem depth_mk (a : Str) (ms : List (Str × Str)) (ps : List (Str × M)) : (M.mk a ms ps).depth = 1 + M.depthL ps := by
  unfold M.depth
  rfl
theorem nd_M (m : M) : notDct m.d = true := by
  cases m
  rw [d_mk]
  rfl
theorem eqv_M (m : M) : eqv m.d m.d = true := eqv_refl _ m.noD
theorem cmp_M (m n : M) : cmpb m.d n.d = true := M.cmp m n
theorem kb1 : kitB "int" "bool" = some false := by decide +kernel
theorem kb2 : kitB "bool" "bool" = some true := by decide +kernel
theorem e_isi_boolI {i : Int} {post : O → Vl.Env → Prop} {e : Vl.Env} : kIsi2 "bool" post e (.pu (.int i)) = post (.pu (.bl false)) e := by
  show (match kitB "int" "bool" with | some b => post (.pu (.bl b)) e | none => False) = _
  rw [kb1]
theorem e_isi_boolB {b : Bool} {post : O → Vl.Env → Prop} {e : Vl.Env} : kIsi2 "bool" post e (.pu (.bl b)) = post (.pu (.bl true)) e := by
  show (match kitB "bool" "bool" with | some b => post (.pu (.bl b)) e | none => False) = _
  rw [kb2]
abbrev s_is_hole : Stmt := top 1
abbrev N_is_hole : List PySem.Str := ["meaning"]
abbrev P_is_hole : List PySem.Str := ["meaning"]
theorem sc_is_hole : FnScope N_is_hole P_is_hole (defScope s_is_hole) := ⟨rfl, rfl, rfl, by decide +kernel, rfl, by decide +kernel, by decide +kernel⟩
abbrev s_nodes_of : Stmt := top 2
abbrev N_nodes_of : List PySem.Str := ["meaning", "role", "inner"]
abbrev P_nodes_of : List PySem.Str := ["meaning"]
theorem sc_nodes_of : FnScope N_nodes_of P_nodes_of (defScope s_nodes_of) := ⟨rfl, rfl, rfl, by decide +kernel, rfl, by decide +kernel, by decide +kernel⟩
abbrev s_has_hole : Stmt := top 3
abbrev N_has_hole : List PySem.Str := ["meaning", "role", "inner"]
abbrev P_has_hole : List PySem.Str := ["meaning"]
theorem sc_has_hole : FnScope N_has_hole P_has_hole (defScope s_has_hole) := ⟨rfl, rfl, rfl, by decide +kernel, rfl, by decide +kernel, by decide +kernel⟩
abbrev s_with_pairs : Stmt := top 4
abbrev N_with_pairs : List PySem.Str := ["meaning", "pairs", "atom", "marks", "own"]
abbrev P_with_pairs : List PySem.Str := ["meaning", "pairs"]
theorem sc_with_pairs : FnScope N_with_pairs P_with_pairs (defScope s_with_pairs) := ⟨rfl, rfl, rfl, by decide +kernel, rfl, by decide +kernel, by decide +kernel⟩
abbrev s_with_pair : Stmt := top 5
abbrev N_with_pair : List PySem.Str := ["meaning", "role", "inner"]
abbrev P_with_pair : List PySem.Str := ["meaning", "role", "inner"]
theorem sc_with_pair : FnScope N_with_pair P_with_pair (defScope s_with_pair) := ⟨rfl, rfl, rfl, by decide +kernel, rfl, by decide +kernel, by decide +kernel⟩
abbrev s_law_cell_at : Stmt := top 7
abbrev N_law_cell_at : List PySem.Str := ["_law_script", "_law_k"]
abbrev P_law_cell_at : List PySem.Str := ["_law_script", "_law_k"]
theorem sc_law_cell_at : FnScope N_law_cell_at P_law_cell_at (defScope s_law_cell_at) := ⟨rfl, rfl, rfl, by decide +kernel, rfl, by decide +kernel, by decide +kernel⟩
abbrev s_law_mixed : Stmt := top 8
abbrev N_law_mixed : List PySem.Str := ["_law_number", "_law_k", "_law_once", "_law_twice"]
abbrev P_law_mixed : List PySem.Str := ["_law_number", "_law_k"]
theorem sc_law_mixed : FnScope N_law_mixed P_law_mixed (defScope s_law_mixed) := ⟨rfl, rfl, rfl, by decide +kernel, rfl, by decide +kernel, by decide +kernel⟩
abbrev s_law_box : Stmt := top 9
abbrev N_law_box : List PySem.Str := ["_law_script", "_law_k", "_law_cell"]
abbrev P_law_box : List PySem.Str := ["_law_script", "_law_k"]
theorem sc_law_box : FnScope N_law_box P_law_box (defScope s_law_box) := ⟨rfl, rfl, rfl, by decide +kernel, rfl, by decide +kernel, by decide +kernel⟩
abbrev s_law_take : Stmt := top 10
abbrev N_law_take : List PySem.Str := ["_law_box_here", "_law_many", "_law_found"]
abbrev P_law_take : List PySem.Str := ["_law_box_here", "_law_many"]
theorem sc_law_take : FnScope N_law_take P_law_take (defScope s_law_take) := ⟨rfl, rfl, rfl, by decide +kernel, rfl, by decide +kernel, by decide +kernel⟩
abbrev s_law_meaning : Stmt := top 11
abbrev N_law_meaning : List PySem.Str := ["_law_box_here", "_law_many", "_law_hole", "_law_atom", "_law_marks", "_law_left", "_law_pairs", "_law_some", "_law_inner", "_law_role"]
abbrev P_law_meaning : List PySem.Str := ["_law_box_here", "_law_many", "_law_hole"]
theorem sc_law_meaning : FnScope N_law_meaning P_law_meaning (defScope s_law_meaning) := ⟨rfl, rfl, rfl, by decide +kernel, rfl, by decide +kernel, by decide +kernel⟩
abbrev s_law_nodes : Stmt := top 12
abbrev N_law_nodes : List PySem.Str := ["_law_meaning_here", "_law_waiting", "_law_many", "_law_role", "_law_one"]
abbrev P_law_nodes : List PySem.Str := ["_law_meaning_here"]
theorem sc_law_nodes : FnScope N_law_nodes P_law_nodes (defScope s_law_nodes) := ⟨rfl, rfl, rfl, by decide +kernel, rfl, by decide +kernel, by decide +kernel⟩
abbrev s_law_holed : Stmt := top 13
abbrev N_law_holed : List PySem.Str := ["_law_meaning_here", "_law_waiting", "_law_one", "_law_role", "_law_inner"]
abbrev P_law_holed : List PySem.Str := ["_law_meaning_here"]
theorem sc_law_holed : FnScope N_law_holed P_law_holed (defScope s_law_holed) := ⟨rfl, rfl, rfl, by decide +kernel, rfl, by decide +kernel, by decide +kernel⟩
abbrev s_law_right : Stmt := top 14
abbrev N_law_right : List PySem.Str := ["_law_box_here", "_law_one", "_law_other", "_law_role", "_law_due", "_law_turn", "_law_meaning_here", "_law_again"]
abbrev P_law_right : List PySem.Str := ["_law_box_here"]
theorem sc_law_right : FnScope N_law_right P_law_right (defScope s_law_right) := ⟨rfl, rfl, rfl, by decide +kernel, rfl, by decide +kernel, by decide +kernel⟩
abbrev s_law : Stmt := top 15
abbrev N_law : List PySem.Str := ["_law_script", "_law_k"]
abbrev P_law : List PySem.Str := ["_law_script"]
theorem sc_law : FnScope N_law P_law (defScope s_law) := ⟨rfl, rfl, rfl, by decide +kernel, rfl, by decide +kernel, by decide +kernel⟩
def ct_is_hole : Ct := fun os post => match os with
  | [.pu d] => ∃ m : M, d = m.d ∧ ∀ fin, post (.pu (.bl m.isH)) fin
  | _ => False
theorem q_is_hole {d : D} {post : O → Vl.Env → Prop} : ct_is_hole [.pu d] post = (∃ m : M, d = m.d ∧ ∀ fin, post (.pu (.bl m.isH)) fin) := rfl
theorem len_is_hole : ∀ os post, ct_is_hole os post → os.length = P_is_hole.length := fun os post h => by
  unfold ct_is_hole at h
  split at h
  · rfl
  · exact h.elim
/- is_hole: 0 meaning -/
def rd_is_hole : WS :=
    (vRet (vAndV (vOp2 (gEq false) (vQ (vOp2 gIx (vPq 0) (vQ (vC (.int 0))))) (vQ (vC (.str ("" : PySem.Str))))) (vOp2 (gEq false) (vQ (vOp2 gIx (vPq 0) (vQ (vC (.int 1))))) (vQ (vTup vpNil)))))
def ct_nodes_of (n : Nat) : Ct := fun os post => match os with
  | [.pu d] => ∃ m : M, d = m.d ∧ m.depth ≤ n ∧ m.nodes ≤ 1000 ∧ ∀ fin, post (.pu (.int m.nodes)) fin
  | _ => False
theorem q_nodes_of {n : Nat} {d : D} {post : O → Vl.Env → Prop} : ct_nodes_of n [.pu d] post = (∃ m : M, d = m.d ∧ m.depth ≤ n ∧ m.nodes ≤ 1000 ∧ ∀ fin, post (.pu (.int m.nodes)) fin) := rfl
theorem depth_pos (m : M) : 1 ≤ m.depth := by
  cases m
  unfold M.depth
  omega
theorem nodes_le {ps : List (Str × M)} {p : Str × M} (h : p ∈ ps) : p.2.nodes ≤ M.nodesL ps := by
  induction ps with
  | nil => cases h
  | cons q t ih =>
    obtain ⟨r, m⟩ := q
    unfold M.nodesL
    rcases List.mem_cons.mp h with rfl | h
    · exact Nat.le_add_right _ _
    · exact Nat.le_trans (ih h) (Nat.le_add_left _ _)
theorem dInts_nodes : ∀ ps : List (Str × M), ∃ ns : List Int, dInts (ps.map fun p => D.int p.2.nodes) = some ns ∧ ns.sum = (M.nodesL ps : Nat)
  | [] => ⟨[], rfl, by simp [M.nodesL]⟩
  | (r, m) :: t => by
    obtain ⟨ns, h1, h2⟩ := dInts_nodes t
    refine ⟨(m.nodes : Int) :: ns, ?_, ?_⟩
    · show (dInts (t.map fun p => D.int p.2.nodes)).map _ = _
      rw [h1]
      rfl
    · rw [List.sum_cons, h2]
      simp [M.nodesL]
theorem gSum_nodes {p : Addr} {ps : List (Str × M)} {k : O → Prop} : gSum (.ls p (ps.map fun p => D.int p.2.nodes)) k = k (.pu (.int (M.nodesL ps : Nat))) := by
  obtain ⟨ns, h1, h2⟩ := dInts_nodes ps
  show (match dInts (ps.map fun p => D.int p.2.nodes) with | some ns => k (.pu (.int ns.sum)) | none => False) = _
  rw [h1]
  show k (.pu (.int ns.sum)) = _
  rw [h2]
theorem gPop_snoc {p : Addr} {xs : List D} {y : D} {k : O → O → Prop} (h : k (.pu y) (.ls p xs)) : gPop (.ls p (xs ++ [y])) [] k := by
  refine pop_of (by simp) ?_
  rw [List.getLast_concat, List.dropLast_concat]
  exact h
theorem snoc_of {α : Type} {l : List α} (h : l ≠ []) : ∃ a b, l = a ++ [b] := ⟨l.dropLast, l.getLast h, (List.dropLast_concat_getLast h).symm⟩
def sumN (ms : List M) : Nat := (ms.map M.nodes).sum
theorem sumN_app (a b : List M) : sumN (a ++ b) = sumN a + sumN b := by
  unfold sumN
  rw [List.map_append, List.sum_append]
theorem sumN_ps : ∀ ps : List (Str × M), sumN (ps.map (·.2)) = M.nodesL ps
  | [] => by simp [sumN, M.nodesL]
  | (r, m) :: t => by
    have := sumN_ps t
    unfold sumN at this ⊢
    rw [List.map_cons, List.map_cons, List.sum_cons, this]
    simp [M.nodesL]
theorem len_sumN (ws : List M) : ws.length ≤ sumN ws := by
  induction ws with
  | nil => exact Nat.zero_le _
  | cons w t ih =>
    have := nodes_pos w
    unfold sumN at ih ⊢
    rw [List.map_cons, List.sum_cons, List.length_cons]
    omega
theorem dep_ws {ws : List M} (h : ∀ w ∈ ws, w.depth ≤ 19) : Vl.dep (.lst (ws.map M.d)) ≤ 60 := by
  refine Nat.le_trans (dep_lst (n := 57) fun d hd => ?_) (by omega)
  obtain ⟨w, hw, rfl⟩ := List.mem_map.mp hd
  have := M.dep w
  have := h w hw
  omega
theorem len_nodes_of (n : Nat) : ∀ os post, ct_nodes_of n os post → os.length = P_nodes_of.length := fun os post h => by
  unfold ct_nodes_of at h
  split at h
  · rfl
  · exact h.elim
theorem no_nodes_of : ∀ os post, ct_nodes_of 0 os post → False := by
  intro os post h
  unfold ct_nodes_of at h
  split at h
  · obtain ⟨m, _, h1, _⟩ := h
    have := depth_pos m
    omega
  · exact h
/- nodes_of: 0 meaning, 1 role, 2 inner -/
def rd_nodes_of (ctS : Ct) : WS :=
    (vRet (vOp2 gAddL (vQ (vC (.int 1))) (vQ (vCB (g1 gSum) (vaCons (vQ (vLc (wSeq false (vOp2 gIx (vPq 0) (vQ (vC (.int 2))))) (wTup 2 (wCons (wName 1) (wCons (wName 2) wNil))) vYes (vCall ctS (vvCons (vVar 2) vvNil)) [1, 2])) vaNil)))))
def ct_has_hole (n : Nat) : Ct := fun os post => match os with
  | [.pu d] => ∃ m : M, d = m.d ∧ m.depth ≤ n ∧ m.nodes ≤ 1000 ∧ ∀ fin, post (.pu (.bl m.has)) fin
  | _ => False
theorem q_has_hole {n : Nat} {d : D} {post : O → Vl.Env → Prop} : ct_has_hole n [.pu d] post = (∃ m : M, d = m.d ∧ m.depth ≤ n ∧ m.nodes ≤ 1000 ∧ ∀ fin, post (.pu (.bl m.has)) fin) := rfl
theorem len_has_hole (n : Nat) : ∀ os post, ct_has_hole n os post → os.length = P_has_hole.length := fun os post h => by
  unfold ct_has_hole at h
  split at h
  · rfl
  · exact h.elim
theorem no_has_hole : ∀ os post, ct_has_hole 0 os post → False := by
  intro os post h
  unfold ct_has_hole at h
  split at h
  · obtain ⟨m, _, h1, _⟩ := h
    have := depth_pos m
    omega
  · exact h
/- has_hole: 0 meaning, 1 role, 2 inner -/
def rd_has_hole (ctS : Ct) : WS :=
    (vRet (vOrV (vCall ct_is_hole (vvCons (vVar 0) vvNil)) (vCB (g1 gAny) (vaCons (vQ (vLc (wSeq false (vOp2 gIx (vPq 0) (vQ (vC (.int 2))))) (wTup 2 (wCons (wName 1) (wCons (wName 2) wNil))) vYes (vCall ctS (vvCons (vVar 2) vvNil)) [1, 2])) vaNil))))
abbrev dN (a : Str) (ms : List (Str × Str)) (ps : List (Str × M)) : D := .tup [.str a, .tup (ms.map pM), .tupN (ps.map pD2)]
def ct_with_pairs : Ct := fun os post => match os with
  | [.pu d, .pu c] => ∃ (a : Str) (ms : List (Str × Str)) (ps qs : List (Str × M)), d = (M.mk a ms ps).d ∧ c = .lst (qs.map pD2) ∧ M.depthL (ps ++ qs) ≤ 19 ∧ (ps ++ qs).length ≤ 1000 ∧ ((∀ fin, post (.pu (M.mk a ms (srt (ps ++ qs))).d) fin) ∨ ∀ fin, post (.pu (dN a ms (srt (ps ++ qs)))) fin)
  | _ => False
theorem q_with_pairs {d c : D} {post : O → Vl.Env → Prop} : ct_with_pairs [.pu d, .pu c] post = (∃ (a : Str) (ms : List (Str × Str)) (ps qs : List (Str × M)), d = (M.mk a ms ps).d ∧ c = .lst (qs.map pD2) ∧ M.depthL (ps ++ qs) ≤ 19 ∧ (ps ++ qs).length ≤ 1000 ∧ ((∀ fin, post (.pu (M.mk a ms (srt (ps ++ qs))).d) fin) ∨ ∀ fin, post (.pu (dN a ms (srt (ps ++ qs)))) fin)) := rfl
theorem len_with_pairs : ∀ os post, ct_with_pairs os post → os.length = P_with_pairs.length := fun os post h => by
  unfold ct_with_pairs at h
  split at h
  · rfl
  · exact h.elim
/- with_pairs: 0 meaning, 1 pairs, 2 atom, 3 marks, 4 own -/
def rd_with_pairs : WS :=
    (vSeq (vAsg (vVar 0) (wTup 3 (wCons (wName 2) (wCons (wName 3) (wCons (wName 4) wNil)))))
    (vRet (vTup (vpCons (vVar 2) (vpCons (vVar 3) (vpCons (vCB (g1 gTupleC) (vaCons (vQ (vCB (g1 gSortA) (vaCons (vQ (vOp2 gAddL (vPq 4) (vQ (vCB (g1 gTuple) (vaCons (vPq 1) vaNil))))) vaNil))) vaNil)) vpNil))))))
def ct_with_pair : Ct := fun os post => match os with
  | [.pu d, .pu (.str r), .pu e] => ∃ (a : Str) (ms : List (Str × Str)) (ps : List (Str × M)) (m : M), d = (M.mk a ms ps).d ∧ e = m.d ∧ M.depthL (ps ++ [(r, m)]) ≤ 19 ∧ ps.length ≤ 900 ∧ ((∀ fin, post (.pu (M.mk a ms (srt (ps ++ [(r, m)]))).d) fin) ∨ ∀ fin, post (.pu (dN a ms (srt (ps ++ [(r, m)])))) fin)
  | _ => False
theorem q_with_pair {d e : D} {r : Str} {post : O → Vl.Env → Prop} : ct_with_pair [.pu d, .pu (.str r), .pu e] post = (∃ (a : Str) (ms : List (Str × Str)) (ps : List (Str × M)) (m : M), d = (M.mk a ms ps).d ∧ e = m.d ∧ M.depthL (ps ++ [(r, m)]) ≤ 19 ∧ ps.length ≤ 900 ∧ ((∀ fin, post (.pu (M.mk a ms (srt (ps ++ [(r, m)]))).d) fin) ∨ ∀ fin, post (.pu (dN a ms (srt (ps ++ [(r, m)])))) fin)) := rfl
theorem len_with_pair : ∀ os post, ct_with_pair os post → os.length = P_with_pair.length := fun os post h => by
  unfold ct_with_pair at h
  split at h
  · rfl
  · exact h.elim
/- with_pair: 0 meaning, 1 role, 2 inner -/
def rd_with_pair : WS :=
    (vRet (vCall ct_with_pairs (vvCons (vVar 0) (vvCons (vPu (vLst (vpCons (vTup (vpCons (vVar 1) (vpCons (vVar 2) vpNil))) vpNil))) vvNil))))
def ct_law_cell_at : Ct := fun os post => match os with
  | [.pu (.lst ds), .pu (.int k)] => isInts ds ∧ ds.length ≤ 63 ∧ 0 ≤ k ∧ ∀ (r : Int) (fin : Vl.Env), post (.pu (.int r)) fin
  | _ => False
theorem q_cell_at {ds : List D} {k : Int} {post : O → Vl.Env → Prop} : ct_law_cell_at [.pu (.lst ds), .pu (.int k)] post = (isInts ds ∧ ds.length ≤ 63 ∧ 0 ≤ k ∧ ∀ (r : Int) (fin : Vl.Env), post (.pu (.int r)) fin) := rfl
theorem len_law_cell_at : ∀ os post, ct_law_cell_at os post → os.length = P_law_cell_at.length := fun os post h => by
  unfold ct_law_cell_at at h
  split at h
  · rfl
  · exact h.elim
/- _law_cell_at: 0 _law_script, 1 _law_k -/
def rd_law_cell_at : WS :=
    (vSeq (vIf (vTest (vOp2 gLtA (vPq 1) (vQ (vCB (g1 gLen) (vaCons (vPq 0) vaNil))))) (vRet (vOp2 gIx (vPq 0) (vPq 1))) vNext)
    (vRet (vC (.int 0))))
def ct_law_mixed : Ct := fun os post => match os with
  | [.pu (.int _), .pu (.int _)] => ∀ (r : Int) (fin : Vl.Env), 0 ≤ r → r < 2147483629 → post (.pu (.int r)) fin
  | _ => False
theorem q_mixed {i k : Int} {post : O → Vl.Env → Prop} : ct_law_mixed [.pu (.int i), .pu (.int k)] post = (∀ (r : Int) (fin : Vl.Env), 0 ≤ r → r < 2147483629 → post (.pu (.int r)) fin) := rfl
theorem len_law_mixed : ∀ os post, ct_law_mixed os post → os.length = P_law_mixed.length := fun os post h => by
  unfold ct_law_mixed at h
  split at h
  · rfl
  · exact h.elim
/- _law_mixed: 0 _law_number, 1 _law_k, 2 _law_once, 3 _law_twice -/
def rd_law_mixed : WS :=
    (vSeq (vSet 2 (vOp2 gMod (vQ (vOp2 gMul (vQ (vOp2 gAddL (vQ (vOp2 gAddL (vQ (vOp2 gMod (vPq 0) (vQ (vC (.int 1000000007))))) (vQ (vOp2 gMul (vQ (vC (.int 7))) (vPq 1))))) (vQ (vC (.int 1))))) (vQ (vC (.int 48271))))) (vQ (vC (.int 2147483647)))))
    (vSeq (vSet 3 (vOp2 gMod (vQ (vOp2 gMul (vPq 2) (vQ (vOp2 gAddL (vQ (vOp2 gAddL (vQ (vOp2 gMod (vPq 2) (vQ (vC (.int 1009))))) (vPq 1))) (vQ (vC (.int 3))))))) (vQ (vC (.int 998244353)))))
    (vRet (vOp2 gMod (vQ (vOp2 gAddL (vQ (vOp2 gMul (vPq 3) (vQ (vC (.int 69621))))) (vPq 2))) (vQ (vC (.int 2147483629)))))))
def ct_law_box : Ct := fun os post => match os with
  | [.pu (.lst ds), .pu (.int k)] => isInts ds ∧ ds.length ≤ 63 ∧ 0 ≤ k ∧ ∀ (p : Addr) (bx : List D) (fin : Vl.Env), isBox bx → post (.ls p bx) fin
  | _ => False
theorem q_box {ds : List D} {k : Int} {post : O → Vl.Env → Prop} : ct_law_box [.pu (.lst ds), .pu (.int k)] post = (isInts ds ∧ ds.length ≤ 63 ∧ 0 ≤ k ∧ ∀ (p : Addr) (bx : List D) (fin : Vl.Env), isBox bx → post (.ls p bx) fin) := rfl
theorem len_law_box : ∀ os post, ct_law_box os post → os.length = P_law_box.length := fun os post h => by
  unfold ct_law_box at h
  split at h
  · rfl
  · exact h.elim
/- _law_box: 0 _law_script, 1 _law_k, 2 _law_cell -/
def rd_law_box : WS :=
    (vSeq (vSet 2 (vCall ct_law_cell_at (vvCons (vVar 0) (vvCons (vVar 1) vvNil))))
    (vRet (vLst (vpCons (vOp2 gMul (vQ (vCB (g1 gAbs) (vaCons (vPq 2) vaNil))) (vQ (vCB (g1 gInt) (vaCons (vQ (vOp2 gGe (vQ (vCB (g1 gAbs) (vaCons (vPq 2) vaNil))) (vQ (vOp2 gPow (vQ (vC (.int 10))) (vQ (vC (.int 18))))))) vaNil)))) (vpCons (vCall ct_law_mixed (vvCons (vVar 2) (vvCons (vOp2 gAddL (vQ (vC (.int 900))) (vPq 1)) vvNil))) (vpCons (vC (.int 0)) vpNil))))))
def ct_law_take : Ct := fun os post => match os with
  | [.ls p bx, .pu (.int m)] => isBox bx ∧ 0 < m ∧ m < 1073741824 ∧ ∀ (r : Int) (by' : List D) (fin : Vl.Env), 0 ≤ r → r < m → isBox by' → post (.pu (.int r)) (some (.ls p by') :: fin)
  | _ => False
theorem q_take {p : Addr} {bx : List D} {m : Int} {post : O → Vl.Env → Prop} : ct_law_take [.ls p bx, .pu (.int m)] post = (isBox bx ∧ 0 < m ∧ m < 1073741824 ∧ ∀ (r : Int) (by' : List D) (fin : Vl.Env), 0 ≤ r → r < m → isBox by' → post (.pu (.int r)) (some (.ls p by') :: fin)) := rfl
theorem len_law_take : ∀ os post, ct_law_take os post → os.length = P_law_take.length := fun os post h => by
  unfold ct_law_take at h
  split at h
  · rfl
  · exact h.elim
/- _law_take: 0 _law_box_here, 1 _law_many, 2 _law_found -/
def rd_law_take : WS :=
    (vSeq (vIf (vTest (vOp2 gGt (vQ (vOp2 gIx (vPq 0) (vQ (vC (.int 0))))) (vQ (vC (.int 0))))) (vSeq (vSet 2 (vOp2 gMod (vQ (vOp2 gIx (vPq 0) (vQ (vC (.int 0))))) (vPq 1)))
    (vSeq (vAsg (vOp2 gFdiv (vQ (vOp2 gIx (vPq 0) (vQ (vC (.int 0))))) (vPq 1)) (wSub 0 (vC (.int 0))))
    (vRet (vMv 2)))) vNext)
    (vSeq (vAsg (vOp2 gAddL (vQ (vOp2 gIx (vPq 0) (vQ (vC (.int 2))))) (vQ (vC (.int 1)))) (wSub 0 (vC (.int 2))))
    (vRet (vOp2 gMod (vQ (vCall ct_law_mixed (vvCons (vOp2 gIx (vPq 0) (vQ (vC (.int 1)))) (vvCons (vOp2 gIx (vPq 0) (vQ (vC (.int 2)))) vvNil)))) (vPq 1)))))
def ct_law_nodes : Ct := fun os post => match os with
  | [.pu d] => ∃ m : M, d = m.d ∧ m.depth ≤ 19 ∧ m.nodes ≤ 1000 ∧ ∀ fin, post (.pu (.int m.nodes)) fin
  | _ => False
theorem q_law_nodes {d : D} {post : O → Vl.Env → Prop} : ct_law_nodes [.pu d] post = (∃ m : M, d = m.d ∧ m.depth ≤ 19 ∧ m.nodes ≤ 1000 ∧ ∀ fin, post (.pu (.int m.nodes)) fin) := rfl
theorem len_law_nodes : ∀ os post, ct_law_nodes os post → os.length = P_law_nodes.length := fun os post h => by
  unfold ct_law_nodes at h
  split at h
  · rfl
  · exact h.elim
/- _law_nodes: 0 _law_meaning_here, 1 _law_waiting, 2 _law_many, 3 _law_role, 4 _law_one -/
def rd_law_nodes : WS :=
    (vSeq (vSet 1 (vLst (vpCons (vVar 0) vpNil)))
    (vSeq (vSet 2 (vC (.int 0)))
    (vSeq (vWhile (vTest (vOp2 (gEq true) (vPq 1) (vQ (vLst vpNil)))) (vSeq (vSet 2 (vOp2 gAddL (vPq 2) (vQ (vC (.int 1)))))
    (vDrop (vExtend 1 (vLc (wSeq false (vOp2 gIx (vQ (vMut0 "list" 1 gPop)) (vQ (vC (.int 2))))) (wTup 2 (wCons (wName 3) (wCons (wName 4) wNil))) vYes (vVar 4) [3, 4])))))
    (vRet (vMv 2)))))
def ct_law_holed : Ct := fun os post => match os with
  | [.pu d] => ∃ m : M, d = m.d ∧ m.depth ≤ 19 ∧ m.nodes ≤ 1000 ∧ ∀ fin, post (.pu (.bl m.has)) fin
  | _ => False
theorem q_law_holed {d : D} {post : O → Vl.Env → Prop} : ct_law_holed [.pu d] post = (∃ m : M, d = m.d ∧ m.depth ≤ 19 ∧ m.nodes ≤ 1000 ∧ ∀ fin, post (.pu (.bl m.has)) fin) := rfl
theorem len_law_holed : ∀ os post, ct_law_holed os post → os.length = P_law_holed.length := fun os post h => by
  unfold ct_law_holed at h
  split at h
  · rfl
  · exact h.elim
/- _law_holed: 0 _law_meaning_here, 1 _law_waiting, 2 _law_one, 3 _law_role, 4 _law_inner -/
def rd_law_holed : WS :=
    (vSeq (vSet 1 (vLst (vpCons (vVar 0) vpNil)))
    (vSeq (vWhile (vTest (vOp2 (gEq true) (vPq 1) (vQ (vLst vpNil)))) (vSeq (vSet 2 (vMut0 "list" 1 gPop))
    (vSeq (vIf (vAndT (vTest (vOp2 (gEq false) (vQ (vOp2 gIx (vPq 2) (vQ (vC (.int 0))))) (vQ (vC (.str ("" : PySem.Str)))))) (vTest (vOp2 (gEq false) (vQ (vOp2 gIx (vPq 2) (vQ (vC (.int 1))))) (vQ (vTup vpNil))))) (vRet (vC (.bl true))) vNext)
    (vDrop (vExtend 1 (vLc (wSeq false (vOp2 gIx (vPq 2) (vQ (vC (.int 2))))) (wTup 2 (wCons (wName 3) (wCons (wName 4) wNil))) vYes (vVar 4) [3, 4]))))))
    (vRet (vC (.bl false)))))
def mK (m : List (Str × Str)) : List (Key × D) := m.map fun p => (Sum.inr p.1, D.str p.2)
theorem fItems_mK (m : List (Str × Str)) : fItems (mK m) = m.map pM := by
  unfold fItems mK
  rw [List.map_map]
  rfl
theorem pairs_mK : ∀ m : List (Str × Str), dPairs (m.map pM) = some (mK m)
  | [] => rfl
  | (n, v) :: m => by
    show (match dKey (.str n), dPairs (m.map pM) with | some y, some t => some ((y, D.str v) :: t) | _, _ => none) = _
    rw [pairs_mK m]
    rfl
theorem put_mK2 (b : List (Str × Str)) (s v : Str) : ∃ c, putD (mK b) (.inr s) (.str v) = mK c := by
  unfold putD
  split
  · refine ⟨b.map fun p => if p.1 = s then (p.1, v) else p, ?_⟩
    unfold mK
    rw [List.map_map, List.map_map]
    apply List.map_congr_left
    intro p _
    dsimp only [Function.comp]
    by_cases h : p.1 = s
    · simp [h]
    · simp [h]
  · exact ⟨b ++ [(s, v)], by unfold mK; rw [List.map_append]; rfl⟩
theorem merge_mK : ∀ (m b : List (Str × Str)), ∃ c, mergeD (mK b) (mK m) = mK c
  | [], b => ⟨b, rfl⟩
  | (n, v) :: m, b => by
    obtain ⟨c, hc⟩ := put_mK2 b n v
    obtain ⟨c2, hc2⟩ := merge_mK m c
    refine ⟨c2, ?_⟩
    show mergeD (putD (mK b) (.inr n) (.str v)) (mK m) = _
    rw [hc, hc2]
theorem cut_map {α β : Type} (f : α → β) (xs : List α) (a b : Option Int) : cut (xs.map f) a b = (cut xs a b).map f := by
  unfold cut
  rw [List.length_map, List.map_take, List.map_drop]
theorem srtOk_pM (ms : List (Str × Str)) : srtOk (ms.map pM) := by
  refine ⟨strs_noD ms, ?_, .inl fun d hd => ?_, fun d hd => ?_⟩
  · rintro d hd d' hd'
    obtain ⟨_, h1, rfl⟩ := List.mem_map.mp hd
    obtain ⟨_, h2, rfl⟩ := List.mem_map.mp hd'
    obtain ⟨p, _, rfl⟩ := List.mem_map.mp h1
    obtain ⟨q, _, rfl⟩ := List.mem_map.mp h2
    simp [D.py, D.pys, PySem.W.alike, PySem.W.alikeAll]
  · obtain ⟨_, h1, rfl⟩ := List.mem_map.mp hd
    obtain ⟨p, _, rfl⟩ := List.mem_map.mp h1
    exact ⟨.str p.1, [.str p.2], by simp [D.py, D.pys]⟩
  · obtain ⟨p, _, rfl⟩ := List.mem_map.mp hd
    refine Nat.le_trans (dep_tup (n := 0) fun d hd => ?_) (by omega)
    simp only [List.mem_cons, List.not_mem_nil, or_false] at hd
    rcases hd with rfl | rfl <;> (rw [dep_str]; omega)
theorem sort_pM (ms : List (Str × Str)) : sortD (ms.map pM) = (ms.mergeSort fun a b => leD (pM a) (pM b)).map pM := (PySem.W.sort_maps pM fun _ _ _ _ => rfl).symm
def ct_law_meaning (n : Nat) : Ct := fun os post => match os with
  | [.ls p bx, .pu (.int k), .pu (.bl b)] => isBox bx ∧ ∃ j : Nat, k = j ∧ 1 ≤ j ∧ j ≤ 13 ∧ j ≤ n ∧ ∀ (m : M) (by' : List D) (fin : Vl.Env), m.nodes ≤ j → m.holes = hB b → m.ok → isBox by' → post (.pu m.d) (some (.ls p by') :: fin)
  | _ => False
theorem q_meaning {n : Nat} {p : Addr} {bx : List D} {k : Int} {b : Bool} {post : O → Vl.Env → Prop} : ct_law_meaning n [.ls p bx, .pu (.int k), .pu (.bl b)] post = (isBox bx ∧ ∃ j : Nat, k = j ∧ 1 ≤ j ∧ j ≤ 13 ∧ j ≤ n ∧ ∀ (m : M) (by' : List D) (fin : Vl.Env), m.nodes ≤ j → m.holes = hB b → m.ok → isBox by' → post (.pu m.d) (some (.ls p by') :: fin)) := rfl
theorem len_law_meaning (n : Nat) : ∀ os post, ct_law_meaning n os post → os.length = P_law_meaning.length := fun os post h => by
  unfold ct_law_meaning at h
  split at h
  · rfl
  · exact h.elim
theorem no_law_meaning : ∀ os post, ct_law_meaning 0 os post → False := by
  intro os post h
  unfold ct_law_meaning at h
  split at h
  · obtain ⟨_, j, _, h1, _, h2, _⟩ := h
    omega
  · exact h
/- _law_meaning: 0 _law_box_here, 1 _law_many, 2 _law_hole, 3 _law_atom, 4 _law_marks, 5 _law_left, 6 _law_pairs, 7 _law_some, 8 _law_inner, 9 _law_role -/
def rd_law_meaning (ctS : Ct) : WS :=
    (vSeq (vSet 3 (vOp2 gIx (vQ (vLst (vpCons (vC (.str ("cat" : PySem.Str))) (vpCons (vC (.str ("see" : PySem.Str))) (vpCons (vC (.str ("x" : PySem.Str))) (vpCons (vC (.str ("a" : PySem.Str))) (vpCons (vC (.str ("dog" : PySem.Str))) (vpCons (vC (.str ("zz" : PySem.Str))) vpNil)))))))) (vQ (vCall ct_law_take (vvLt 0 (vvCons (vC (.int 6)) vvNil))))))
    (vSeq (vSet 4 (vSl (vQ (vSl (vQ (vLst (vpCons (vTup (vpCons (vC (.str ("num" : PySem.Str))) (vpCons (vC (.str ("one" : PySem.Str))) vpNil))) (vpCons (vTup (vpCons (vC (.str ("num" : PySem.Str))) (vpCons (vC (.str ("two" : PySem.Str))) vpNil))) (vpCons (vTup (vpCons (vC (.str ("gen" : PySem.Str))) (vpCons (vC (.str ("he" : PySem.Str))) vpNil))) (vpCons (vTup (vpCons (vC (.str ("a" : PySem.Str))) (vpCons (vC (.str ("b" : PySem.Str))) vpNil))) vpNil)))))) (voSome (vCall ct_law_take (vvLt 0 (vvCons (vC (.int 4)) vvNil)))) voNone)) voNone (voSome (vCall ct_law_take (vvLt 0 (vvCons (vC (.int 3)) vvNil))))))
    (vSeq (vSet 4 (vCB (g1 gTuple) (vaCons (vQ (vOp1 gSortI (vQ (vCB (g1 gDictA) (vaCons (vPq 4) vaNil))))) vaNil)))
    (vSeq (vIf (vAndT (vTest (vOp2 (gEq true) (vPq 4) (vQ (vTup vpNil)))) (vTest (vOp2 (gEq false) (vQ (vCall ct_law_take (vvLt 0 (vvCons (vC (.int 5)) vvNil)))) (vQ (vC (.int 0)))))) (vSet 3 (vC (.str ("" : PySem.Str)))) vNext)
    (vSeq (vSet 5 (vOp2 gSubI (vPq 1) (vQ (vC (.int 1)))))
    (vSeq (vSet 6 (vLst vpNil))
    (vSeq (vIf (vAndT (vTest (vVar 2)) (vOrT (vTest (vOp2 gLtA (vPq 5) (vQ (vC (.int 1))))) (vTest (vOp2 (gEq false) (vQ (vCall ct_law_take (vvLt 0 (vvCons (vC (.int 3)) vvNil)))) (vQ (vC (.int 0))))))) (vAsg (vTup (vpCons (vC (.str ("" : PySem.Str))) (vpCons (vTup vpNil) (vpCons (vC (.bl false)) vpNil)))) (wTup 3 (wCons (wName 3) (wCons (wName 4) (wCons (wName 2) wNil))))) vNext)
    (vSeq (vWhile (vAndT (vTest (vOp2 gGt (vPq 5) (vQ (vC (.int 0))))) (vOrT (vTest (vVar 2)) (vTest (vOp2 gGt (vQ (vCall ct_law_take (vvLt 0 (vvCons (vC (.int 5)) vvNil)))) (vQ (vC (.int 0))))))) (vSeq (vSet 7 (vOp2 gAddL (vQ (vC (.int 1))) (vQ (vCall ct_law_take (vvLt 0 (vvCons (vVar 5) vvNil))))))
    (vSeq (vSet 8 (vCall ctS (vvLt 0 (vvCons (vVar 7) (vvCons (vVar 2) vvNil)))))
    (vSeq (vSet 2 (vC (.bl false)))
    (vSeq (vSet 9 (vOp2 gIx (vQ (vLst (vpCons (vC (.str ("who" : PySem.Str))) (vpCons (vC (.str ("what" : PySem.Str))) (vpCons (vC (.str ("to" : PySem.Str))) (vpCons (vC (.str ("a" : PySem.Str))) (vpCons (vC (.str ("of" : PySem.Str))) vpNil))))))) (vQ (vCall ct_law_take (vvLt 0 (vvCons (vC (.int 5)) vvNil))))))
    (vSeq (vDrop (vMut "list" 6 gAppend (vpCons (vTup (vpCons (vVar 9) (vpCons (vVar 8) vpNil))) vpNil)))
    (vSeq (vSet 5 (vOp2 gSubI (vPq 5) (vQ (vCall ct_law_nodes (vvCons (vVar 8) vvNil)))))
    (vIf (vAndT (vTest (vOp2 gGe (vPq 5) (vQ (vCall ct_law_nodes (vvCons (vVar 8) vvNil))))) (vAndT (vTest (vOp2 (gEq false) (vQ (vCall ct_law_take (vvLt 0 (vvCons (vC (.int 6)) vvNil)))) (vQ (vC (.int 0))))) (vNotT (vTest (vCall ct_law_holed (vvCons (vVar 8) vvNil)))))) (vSeq (vDrop (vMut "list" 6 gAppend (vpCons (vTup (vpCons (vVar 9) (vpCons (vVar 8) vpNil))) vpNil)))
    (vSet 5 (vOp2 gSubI (vPq 5) (vQ (vCall ct_law_nodes (vvCons (vVar 8) vvNil)))))) vNext))))))))
    (vRet (vTup (vpCons (vVar 3) (vpCons (vVar 4) (vpCons (vCB (g1 gTuple) (vaCons (vQ (vCB (g1 gSortA) (vaCons (vPq 6) vaNil))) vaNil)) vpNil)))))))))))))
def ct_law_right : Ct := fun os post => match os with
  | [.ls p bx] => isBox bx ∧ ∀ (by' : List D) (fin : Vl.Env), post (.pu (.bl true)) (some (.ls p by') :: fin)
  | _ => False
theorem q_right {p : Addr} {bx : List D} {post : O → Vl.Env → Prop} : ct_law_right [.ls p bx] post = (isBox bx ∧ ∀ (by' : List D) (fin : Vl.Env), post (.pu (.bl true)) (some (.ls p by') :: fin)) := rfl
theorem len_law_right : ∀ os post, ct_law_right os post → os.length = P_law_right.length := fun os post h => by
  unfold ct_law_right at h
  split at h
  · rfl
  · exact h.elim
/- _law_right: 0 _law_box_here, 1 _law_one, 2 _law_other, 3 _law_role, 4 _law_due, 5 _law_turn, 6 _law_meaning_here, 7 _law_again -/
def rd_law_right : WS :=
    (vSeq (vSet 1 (vCall (ct_law_meaning 40) (vvLt 0 (vvCons (vOp2 gAddL (vQ (vC (.int 1))) (vQ (vCall ct_law_take (vvLt 0 (vvCons (vC (.int 12)) vvNil))))) (vvCons (vOp2 (gEq false) (vQ (vCall ct_law_take (vvLt 0 (vvCons (vC (.int 2)) vvNil)))) (vQ (vC (.int 0)))) vvNil)))))
    (vSeq (vSet 2 (vCall (ct_law_meaning 40) (vvLt 0 (vvCons (vOp2 gAddL (vQ (vC (.int 1))) (vQ (vCall ct_law_take (vvLt 0 (vvCons (vC (.int 5)) vvNil))))) (vvCons (vOp2 (gEq false) (vQ (vCall ct_law_take (vvLt 0 (vvCons (vC (.int 4)) vvNil)))) (vQ (vC (.int 0)))) vvNil)))))
    (vSeq (vSet 3 (vOp2 gIx (vQ (vLst (vpCons (vC (.str ("who" : PySem.Str))) (vpCons (vC (.str ("what" : PySem.Str))) (vpCons (vC (.str ("to" : PySem.Str))) (vpCons (vC (.str ("a" : PySem.Str))) (vpCons (vC (.str ("of" : PySem.Str))) (vpCons (vC (.str ("zz" : PySem.Str))) vpNil)))))))) (vQ (vCall ct_law_take (vvLt 0 (vvCons (vC (.int 6)) vvNil))))))
    (vSeq (vSet 4 (vTup (vpCons (vOp2 gIx (vPq 1) (vQ (vC (.int 0)))) (vpCons (vOp2 gIx (vPq 1) (vQ (vC (.int 1)))) (vpCons (vCB (g1 gTuple) (vaCons (vQ (vCB (g1 gSortA) (vaCons (vQ (vOp2 gAddL (vQ (vLst (vpCons (vTup (vpCons (vVar 3) (vpCons (vVar 2) vpNil))) vpNil))) (vQ (vCB (g1 gList) (vaCons (vQ (vOp2 gIx (vPq 1) (vQ (vC (.int 2))))) vaNil))))) vaNil))) vaNil)) vpNil)))))
    (vSeq (vFor (wRange1 (vpCons (vC (.int 2)) vpNil)) (wName 5) (vSeq (vIf (vOrT (vTest (vOp2 (gEq true) (vQ (vCall (ct_nodes_of 40) (vvCons (vVar 1) vvNil))) (vQ (vCall ct_law_nodes (vvCons (vVar 1) vvNil))))) (vOrT (vTest (vIsi "bool" (vQ (vCall (ct_nodes_of 40) (vvCons (vVar 1) vvNil))))) (vTest (vOp2 (gEq true) (vQ (vCall ct_with_pair (vvCons (vVar 1) (vvCons (vVar 3) (vvCons (vVar 2) vvNil))))) (vPq 4))))) (vRet (vC (.bl false))) vNext)
    (vFor (wSeq true (vLst (vpCons (vVar 1) (vpCons (vVar 2) (vpCons (vVar 4) vpNil))))) (wName 6) (vIf (vOrT (vNotT (vTest (vIsi "bool" (vQ (vCall (ct_has_hole 40) (vvCons (vVar 6) vvNil)))))) (vTest (vOp2 (gEq true) (vQ (vCall (ct_has_hole 40) (vvCons (vVar 6) vvNil))) (vQ (vCall ct_law_holed (vvCons (vVar 6) vvNil)))))) (vRet (vC (.bl false))) vNext))))
    (vSeq (vIf (vTest (vOp2 (gEq true) (vQ (vCall (ct_nodes_of 40) (vvCons (vPu (vCall ct_with_pair (vvCons (vVar 1) (vvCons (vVar 3) (vvCons (vVar 2) vvNil))))) vvNil))) (vQ (vOp2 gAddL (vQ (vCall ct_law_nodes (vvCons (vVar 1) vvNil))) (vQ (vCall ct_law_nodes (vvCons (vVar 2) vvNil))))))) (vRet (vC (.bl false))) vNext)
    (vSeq (vSet 7 (vCall ct_with_pair (vvCons (vVar 4) (vvCons (vVar 3) (vvCons (vVar 2) vvNil)))))
    (vRet (vAndV (vOp2 (gEq false) (vQ (vCB (g1 gLen) (vaCons (vQ (vWk (vOp2 gIx (vPq 7) (vQ (vC (.int 2)))))) vaNil))) (vQ (vOp2 gAddL (vQ (vCB (g1 gLen) (vaCons (vQ (vOp2 gIx (vPq 1) (vQ (vC (.int 2))))) vaNil))) (vQ (vC (.int 2)))))) (vAndV (vOp2 (gEq false) (vQ (vCB (g1 gList) (vaCons (vQ (vWk (vOp2 gIx (vPq 7) (vQ (vC (.int 2)))))) vaNil))) (vQ (vCB (g1 gSortA) (vaCons (vQ (vWk (vOp2 gIx (vPq 7) (vQ (vC (.int 2)))))) vaNil)))) (vOp2 gGt (vQ (vMtT gCountTN (vQ (vOp2 gIx (vPq 7) (vQ (vC (.int 2))))) (vaCons (vQ (vTup (vpCons (vVar 3) (vpCons (vVar 2) vpNil)))) vaNil))) (vQ (vC (.int 1))))))))))))))
abbrev ct_law : Ct := ctLaw
theorem len_law : ∀ os post, ct_law os post → os.length = P_law.length := fun os post h => by
  obtain ⟨ns, rfl, _⟩ := h
  rfl
/- law: 0 _law_script, 1 _law_k -/
def rd_law : WS :=
    (vSeq (vIf (vOrT (vTest (vOp2 (gEq true) (vQ (vCall (ct_nodes_of 40) (vvCons (vTup (vpCons (vC (.str ("cat" : PySem.Str))) (vpCons (vTup vpNil) (vpCons (vTup vpNil) vpNil)))) vvNil))) (vQ (vC (.int 1))))) (vOrT (vTest (vOp1 (gIsB true false) (vQ (vCall (ct_has_hole 40) (vvCons (vTup (vpCons (vC (.str ("cat" : PySem.Str))) (vpCons (vTup vpNil) (vpCons (vTup vpNil) vpNil)))) vvNil))))) (vTest (vOp1 (gIsB true true) (vQ (vCall (ct_has_hole 40) (vvCons (vTup (vpCons (vC (.str ("" : PySem.Str))) (vpCons (vTup vpNil) (vpCons (vTup vpNil) vpNil)))) vvNil))))))) (vRet (vC (.bl false))) vNext)
    (vSeq (vFor (wRange1 (vpCons (vOp2 gAddL (vQ (vC (.int 1))) (vQ (vCB (g2 gMin2) (vaCons (vQ (vC (.int 12))) (vaCons (vQ (vCB (g1 gLen) (vaCons (vPq 0) vaNil))) vaNil))))) vpNil)) (wName 1) (vIf (vNotT (vTest (vCall ct_law_right (vvCons (vCall ct_law_box (vvCons (vVar 0) (vvCons (vVar 1) vvNil))) vvNil)))) (vRet (vC (.bl false))) vNext))
    (vRet (vC (.bl true)))))
section
theorem pu_is_hole : ∀ os post, ct_is_hole os post → rd_is_hole noX ⟨fun e => post (.pu .non) (List.take P_is_hole.length e), fun o e => post o (List.take P_is_hole.length e), fun _ => False, fun _ => False⟩ (os.map some ++ List.replicate (N_is_hole.length - P_is_hole.length) none) := by
  intro os post h
  unfold ct_is_hole at h
  split at h
  case h_2 => exact h.elim
  obtain ⟨⟨a, ms, ps⟩, rfl, q⟩ := h
  rw [d_mk]
  have dd := dep_ms ms
  unfold rd_is_hole
  walk_at "v"
  rw [cmp_ms, eqv_ms]
  unfold M.isH at q
  dsimp only at q
  refine ⟨fun h => ⟨by omega, rfl, ?_⟩, fun h => ?_⟩
  · rw [decide_eq_true (show a = "" from h), Bool.true_and] at q
    exact q _
  · rw [decide_eq_false (show ¬ a = "" from h), Bool.false_and] at q
    exact q _
theorem pu_nodes_of (n : Nat) : ∀ os post, ct_nodes_of (n + 1) os post → rd_nodes_of (ct_nodes_of n) noX ⟨fun e => post (.pu .non) (List.take P_nodes_of.length e), fun o e => post o (List.take P_nodes_of.length e), fun _ => False, fun _ => False⟩ (os.map some ++ List.replicate (N_nodes_of.length - P_nodes_of.length) none) := by
  intro os post h
  unfold ct_nodes_of at h
  split at h
  case h_2 => exact h.elim
  obtain ⟨⟨a, ms, ps⟩, rfl, hd, hn, q⟩ := h
  rw [d_mk]
  unfold M.depth at hd
  unfold M.nodes at hn q
  have hl := len_nodesL ps
  unfold rd_nodes_of
  walk_at "v"
  refine ⟨by rw [List.length_map]; omega, ?_⟩
  refine lcL_all pD2 ps (fun p => .int p.2.nodes) (fun p hp acc F hF => ?_) ?_
  · walk_at "v"
    rw [q_nodes_of]
    have h1 := M.depth_le hp
    have h2 := nodes_le hp
    refine ⟨p.2, rfl, by omega, by omega, fun f1 => ?_⟩
    walk_at "v"
    exact hF
  walk_at "v"
  intros
  rw [gSum_nodes]
  walk_at "v"
  have e : (1 : Int) + (M.nodesL ps : Nat) = ((1 + M.nodesL ps : Nat) : Int) := by omega
  rw [e]
  exact q _
theorem pu_has_hole (n : Nat) : ∀ os post, ct_has_hole (n + 1) os post → rd_has_hole (ct_has_hole n) noX ⟨fun e => post (.pu .non) (List.take P_has_hole.length e), fun o e => post o (List.take P_has_hole.length e), fun _ => False, fun _ => False⟩ (os.map some ++ List.replicate (N_has_hole.length - P_has_hole.length) none) := by
  intro os post h
  unfold ct_has_hole at h
  split at h
  case h_2 => exact h.elim
  obtain ⟨⟨a, ms, ps⟩, rfl, hd, hn, q⟩ := h
  have hm := d_mk a ms ps
  unfold M.depth at hd
  unfold M.nodes at hn
  have hl := len_nodesL ps
  have eh : (M.mk a ms ps).has = ((M.mk a ms ps).isH || ps.any fun p => p.2.has) := by
    rw [← hasL_any]
    unfold M.has M.isH
    rfl
  unfold rd_has_hole
  walk_at "v"
  rw [q_is_hole]
  refine ⟨_, rfl, fun f1 => ?_⟩
  walk_at "v"
  refine ⟨fun e => ?_, fun e => ?_⟩
  · rw [eh, e, Bool.true_or] at q
    exact q _
  · rw [eh, e, Bool.false_or] at q
    rw [hm]
    walk_at "v"
    refine ⟨by rw [List.length_map]; omega, ?_⟩
    refine lcL_all pD2 ps (fun p => .bl p.2.has) (fun p hp acc F hF => ?_) ?_
    · walk_at "v"
      rw [q_has_hole]
      have h1 := M.depth_le hp
      have h2 := nodes_le hp
      refine ⟨p.2, rfl, by omega, by omega, fun f1 => ?_⟩
      walk_at "v"
      exact hF
    walk_at "v"
    intros
    rw [show (ps.map fun p => D.bl p.2.has) = (ps.map fun p => p.2.has).map D.bl by rw [List.map_map]; rfl, gAny_map, List.any_map]
    exact q _
theorem pu_with_pairs : ∀ os post, ct_with_pairs os post → rd_with_pairs noX ⟨fun e => post (.pu .non) (List.take P_with_pairs.length e), fun o e => post o (List.take P_with_pairs.length e), fun _ => False, fun _ => False⟩ (os.map some ++ List.replicate (N_with_pairs.length - P_with_pairs.length) none) := by
  intro os post h
  unfold ct_with_pairs at h
  split at h
  case h_2 => exact h.elim
  obtain ⟨a, ms, ps, qs, rfl, rfl, hd, hl, q⟩ := h
  rw [d_mk]
  rw [d_mk] at q
  rw [List.length_append] at hl
  unfold rd_with_pairs
  walk_at "v"
  rw [← List.map_append]
  refine ⟨by rw [List.length_map, List.length_map]; omega, srtOk_ps hd, ?_⟩
  intros
  rw [sort_ps]
  rcases q with q | q
  · exact .inl (q _)
  · exact .inr (q _)
theorem pu_with_pair : ∀ os post, ct_with_pair os post → rd_with_pair noX ⟨fun e => post (.pu .non) (List.take P_with_pair.length e), fun o e => post o (List.take P_with_pair.length e), fun _ => False, fun _ => False⟩ (os.map some ++ List.replicate (N_with_pair.length - P_with_pair.length) none) := by
  intro os post h
  unfold ct_with_pair at h
  split at h
  case h_2 => exact h.elim
  obtain ⟨a, ms, ps, m, rfl, rfl, hd, hl, q⟩ := h
  unfold rd_with_pair
  walk_at "v"
  intros
  rw [q_with_pairs]
  refine ⟨a, ms, ps, [(_, m)], rfl, rfl, hd, by simp; omega, ?_⟩
  rcases q with q | q
  · refine .inl fun f1 => ?_
    walk_at "v"
    exact q _
  · refine .inr fun f1 => ?_
    walk_at "v"
    exact q _
theorem pu_law_cell_at : ∀ os post, ct_law_cell_at os post → rd_law_cell_at noX ⟨fun e => post (.pu .non) (List.take P_law_cell_at.length e), fun o e => post o (List.take P_law_cell_at.length e), fun _ => False, fun _ => False⟩ (os.map some ++ List.replicate (N_law_cell_at.length - P_law_cell_at.length) none) := by
  intro os post h
  unfold ct_law_cell_at at h
  split at h
  case h_2 => exact h.elim
  rename_i ds k
  obtain ⟨⟨ns, rfl⟩, hl, h0, q⟩ := h
  unfold rd_law_cell_at
  walk_at "v"
  refine ⟨fun hk => ?_, fun _ => q _ _⟩
  refine onAt_of h0 hk fun j hj _ => ?_
  walk_at "v"
  rw [List.getElem_map]
  exact q _ _
theorem pu_law_mixed : ∀ os post, ct_law_mixed os post → rd_law_mixed noX ⟨fun e => post (.pu .non) (List.take P_law_mixed.length e), fun o e => post o (List.take P_law_mixed.length e), fun _ => False, fun _ => False⟩ (os.map some ++ List.replicate (N_law_mixed.length - P_law_mixed.length) none) := by
  intro os post h
  unfold ct_law_mixed at h
  split at h
  case h_2 => exact h.elim
  rename_i i k
  unfold rd_law_mixed
  walk_at "v"
  refine ⟨by omega, .inl (by omega), .inr (by omega), by omega, by omega, .inl ?_, by omega, .inr (by omega), by omega, h _ _ (Int.emod_nonneg _ (by omega)) (Int.emod_lt_of_pos _ (by omega))⟩
  have h1 := Int.emod_nonneg ((i % 1000000007 + 7 * k + 1) * 48271) (b := 2147483647) (by omega)
  have h2 := Int.emod_lt_of_pos ((i % 1000000007 + 7 * k + 1) * 48271) (b := 2147483647) (by omega)
  omega
theorem pu_law_box : ∀ os post, ct_law_box os post → rd_law_box noX ⟨fun e => post (.pu .non) (List.take P_law_box.length e), fun o e => post o (List.take P_law_box.length e), fun _ => False, fun _ => False⟩ (os.map some ++ List.replicate (N_law_box.length - P_law_box.length) none) := by
  intro os post h
  unfold ct_law_box at h
  split at h
  case h_2 => exact h.elim
  rename_i ds k
  obtain ⟨hi, hl, h0, q⟩ := h
  unfold rd_law_box
  walk_at "v"
  rw [q_cell_at]
  refine ⟨hi, hl, h0, fun r fin => ?_⟩
  walk_at "v"
  refine ⟨⟨by omega, by omega, by decide⟩, .inr ?_, ?_⟩
  · split <;> omega
  rw [q_mixed]
  intro r2 fin2 _ _
  walk_at "v"
  intro p
  exact q _ _ _ ⟨_, _, _, rfl⟩
theorem pu_law_take : ∀ os post, ct_law_take os post → rd_law_take noX ⟨fun e => post (.pu .non) (List.take P_law_take.length e), fun o e => post o (List.take P_law_take.length e), fun _ => False, fun _ => False⟩ (os.map some ++ List.replicate (N_law_take.length - P_law_take.length) none) := by
  intro os post h
  unfold ct_law_take at h
  split at h
  case h_2 => exact h.elim
  rename_i p bx m
  obtain ⟨⟨a, b, c, rfl⟩, h0, h1, q⟩ := h
  unfold rd_law_take
  walk_at "v"
  refine ⟨fun _ => ⟨h0, ⟨h0, h1⟩, ?_⟩, fun _ => ?_⟩
  · exact q _ _ _ (Int.emod_nonneg _ (by omega)) (Int.emod_lt_of_pos _ h0) ⟨_, _, _, rfl⟩
  · rw [q_mixed]
    intro r fin _ _
    walk_at "v"
    exact ⟨h0, q _ _ _ (Int.emod_nonneg _ (by omega)) (Int.emod_lt_of_pos _ h0) ⟨_, _, _, rfl⟩⟩
theorem pu_law_nodes : ∀ os post, ct_law_nodes os post → rd_law_nodes noX ⟨fun e => post (.pu .non) (List.take P_law_nodes.length e), fun o e => post o (List.take P_law_nodes.length e), fun _ => False, fun _ => False⟩ (os.map some ++ List.replicate (N_law_nodes.length - P_law_nodes.length) none) := by
  intro os post h
  unfold ct_law_nodes at h
  split at h
  case h_2 => exact h.elim
  obtain ⟨m, rfl, hd, hn, q⟩ := h
  unfold rd_law_nodes
  walk_at "v"
  intro p1
  refine wh_ind (fun k e => ∃ (ws : List M) (c : Int) (x3 x4 : Option O), sumN ws = k ∧ c + k = m.nodes ∧ 0 ≤ c ∧ (∀ w ∈ ws, w.depth ≤ 19) ∧ e = [some (.pu m.d), some (.ls p1 (ws.map M.d)), some (.pu (.int c)), x3, x4]) m.nodes ⟨[m], 0, _, _, by simp [sumN], by omega, by omega, (fun w hw => by rw [List.mem_singleton.mp hw]; exact hd), rfl⟩ ?_
  rintro k e ⟨ws, c, x3, x4, hk, hc, hc0, hw, rfl⟩ F hF
  walk_at "v"
  refine ⟨dep_ws hw, fun h => ?_, fun h => ?_⟩
  · obtain ⟨vs, w, rfl⟩ := snoc_of (show ws ≠ [] from fun z => h (by rw [z]; rfl))
    obtain ⟨a, ms, ps⟩ := w
    have hlen := len_sumN vs
    rw [sumN_app] at hk
    have e1 : sumN [M.mk a ms ps] = 1 + M.nodesL ps := by simp [sumN, M.nodes]
    have hpl := len_nodesL ps
    have hwd := hw (M.mk a ms ps) (by simp)
    unfold M.depth at hwd
    rw [List.map_append]
    refine gPop_snoc ?_
    rw [d_mk]
    walk_at "v"
    refine ⟨by rw [List.length_map]; omega, ?_⟩
    refine lcL_all pD2 ps (fun p => p.2.d) (fun p hp acc F2 hF2 => ?_) ?_
    · walk_at "v"
      exact hF2
    walk_at "v"
    rw [show (ps.map fun p => p.2.d) = (ps.map (·.2)).map M.d by rw [List.map_map]; rfl, ← List.map_append]
    refine ⟨by rw [List.length_map, List.length_map, List.length_map]; omega, hF (k - 1) _ (by omega) ⟨vs ++ ps.map (·.2), c + 1, _, _, by rw [sumN_app, sumN_ps]; omega, by omega, by omega, fun w hw' => ?_, rfl⟩⟩
    rcases List.mem_append.mp hw' with h' | h'
    · exact hw w (List.mem_append_left _ h')
    · obtain ⟨p, hp, rfl⟩ := List.mem_map.mp h'
      have := M.depth_le hp
      omega
  · have : ws = [] := by simpa using h
    subst this
    have : k = 0 := by rw [← hk]; rfl
    rw [show c = (m.nodes : Int) by omega]
    exact q _
theorem pu_law_holed : ∀ os post, ct_law_holed os post → rd_law_holed noX ⟨fun e => post (.pu .non) (List.take P_law_holed.length e), fun o e => post o (List.take P_law_holed.length e), fun _ => False, fun _ => False⟩ (os.map some ++ List.replicate (N_law_holed.length - P_law_holed.length) none) := by
  intro os post h
  unfold ct_law_holed at h
  split at h
  case h_2 => exact h.elim
  obtain ⟨m, rfl, hd, hn, q⟩ := h
  unfold rd_law_holed
  walk_at "v"
  intro p1
  refine wh_ind (fun k e => ∃ (ws : List M) (x2 x3 x4 : Option O), sumN ws = k ∧ k ≤ m.nodes ∧ (ws.any fun w => w.has) = m.has ∧ (∀ w ∈ ws, w.depth ≤ 19) ∧ e = [some (.pu m.d), some (.ls p1 (ws.map M.d)), x2, x3, x4]) m.nodes ⟨[m], _, _, _, by simp [sumN], Nat.le_refl _, by simp, (fun w hw => by rw [List.mem_singleton.mp hw]; exact hd), rfl⟩ ?_
  rintro k e ⟨ws, x2, x3, x4, hk, hc, ha, hw, rfl⟩ F hF
  walk_at "v"
  refine ⟨dep_ws hw, fun h => ?_, fun h => ?_⟩
  · obtain ⟨vs, w, rfl⟩ := snoc_of (show ws ≠ [] from fun z => h (by rw [z]; rfl))
    obtain ⟨a, ms, ps⟩ := w
    have hlen := len_sumN vs
    rw [sumN_app] at hk
    have e1 : sumN [M.mk a ms ps] = 1 + M.nodesL ps := by simp [sumN, M.nodes]
    have hpl := len_nodesL ps
    have hwd := hw (M.mk a ms ps) (by simp)
    unfold M.depth at hwd
    have dd := dep_ms ms
    have eh : (M.mk a ms ps).has = ((decide (a = "") && decide (ms = [])) || ps.any fun p => p.2.has) := by
      rw [← hasL_any]
      unfold M.has
      rfl
    rw [List.any_append, List.any_cons, List.any_nil, Bool.or_false, eh] at ha
    rw [List.map_append]
    refine gPop_snoc ?_
    rw [d_mk]
    walk_at "w"
    unfold vIf
    walk_at "v"
    rw [cmp_ms, eqv_ms]
    walk_at "v"
    refine ⟨fun ha' => ⟨by omega, ?_⟩, fun ha' => ?_⟩
    · by_cases hm : ms = []
      · rw [if_pos hm]
        rw [decide_eq_true (show a = "" from ha'), decide_eq_true hm, Bool.and_self, Bool.true_or, Bool.or_true] at ha
        rw [← ha] at q
        exact q _
      · rw [if_neg hm]
        have hno : (decide (a = "") && decide (ms = [])) = false := by rw [decide_eq_false hm, Bool.and_false]
        refine ⟨by rw [List.length_map]; omega, ?_⟩
        refine lcL_all pD2 ps (fun p => p.2.d) (fun p hp acc F2 hF2 => ?_) ?_
        · walk_at "v"
          exact hF2
        walk_at "v"
        rw [show (ps.map fun p => p.2.d) = (ps.map (·.2)).map M.d by rw [List.map_map]; rfl, ← List.map_append]
        rw [hno, Bool.false_or] at ha
        refine ⟨by rw [List.length_map, List.length_map, List.length_map]; omega, hF (k - 1) _ (by omega) ⟨vs ++ ps.map (·.2), _, _, _, by rw [sumN_app, sumN_ps]; omega, by omega, by rw [List.any_append, List.any_map]; exact ha, fun w hw' => ?_, rfl⟩⟩
        rcases List.mem_append.mp hw' with h' | h'
        · exact hw w (List.mem_append_left _ h')
        · obtain ⟨p, hp, rfl⟩ := List.mem_map.mp h'
          have := M.depth_le hp
          omega
    · rw [if_neg not_false]
      have hno : (decide (a = "") && decide (ms = [])) = false := by rw [decide_eq_false (show ¬ a = "" from ha'), Bool.false_and]
      refine ⟨by rw [List.length_map]; omega, ?_⟩
      refine lcL_all pD2 ps (fun p => p.2.d) (fun p hp acc F2 hF2 => ?_) ?_
      · walk_at "v"
        exact hF2
      walk_at "v"
      rw [show (ps.map fun p => p.2.d) = (ps.map (·.2)).map M.d by rw [List.map_map]; rfl, ← List.map_append]
      rw [hno, Bool.false_or] at ha
      refine ⟨by rw [List.length_map, List.length_map, List.length_map]; omega, hF (k - 1) _ (by omega) ⟨vs ++ ps.map (·.2), _, _, _, by rw [sumN_app, sumN_ps]; omega, by omega, by rw [List.any_append, List.any_map]; exact ha, fun w hw' => ?_, rfl⟩⟩
      rcases List.mem_append.mp hw' with h' | h'
      · exact hw w (List.mem_append_left _ h')
      · obtain ⟨p, hp, rfl⟩ := List.mem_map.mp h'
        have := M.depth_le hp
        omega
  · have : ws = [] := by simpa using h
    subst this
    rw [show m.has = false from ha.symm] at q
    exact q _
set_option maxHeartbeats 4000000 in
theorem pu_law_meaning (n : Nat) : ∀ os post, ct_law_meaning (n + 1) os post → rd_law_meaning (ct_law_meaning n) noX ⟨fun e => post (.pu .non) (List.take P_law_meaning.length e), fun o e => post o (List.take P_law_meaning.length e), fun _ => False, fun _ => False⟩ (os.map some ++ List.replicate (N_law_meaning.length - P_law_meaning.length) none) := by
  -- slow
  intro os post h
  unfold ct_law_meaning at h
  split at h
  case h_2 => exact h.elim
  rename_i p bx k b
  obtain ⟨hb, j, rfl, h1, h13, hjn, q⟩ := h
  unfold rd_law_meaning
  walk_at "w"
  intros
  rw [q_take]
  refine ⟨hb, by omega, by omega, fun r1 bx1 f1 a1 b1 hb1 => ?_⟩
  simp only [e_kret, e_pb1, e_pb2, e_pb0, e_pbE, e_kq, e_kop2b, e_kop2c, e_kop2d, e_ov]
  rw [e_gIx2]
  refine onAt_mem a1 b1 fun d hd => ?_
  obtain ⟨atom, hatom, rfl⟩ : ∃ s : Str, s ≠ "" ∧ d = .str s := by
    simp only [List.mem_cons, List.not_mem_nil, or_false] at hd
    rcases hd with rfl | rfl | rfl | rfl | rfl | rfl <;> exact ⟨_, by decide +kernel, rfl⟩
  walk_at "w"
  intros
  rw [q_take]
  refine ⟨hb1, by omega, by omega, fun r2 bx2 f2 a2 b2 hb2 => ?_⟩
  walk_at "w"
  intros
  rw [q_take]
  refine ⟨hb2, by omega, by omega, fun r3 bx3 f3 a3 b3 hb3 => ?_⟩
  walk_at "w"
  intros
  rw [show [D.tup [.str "num", .str "one"], D.tup [.str "num", .str "two"], D.tup [.str "gen", .str "he"], D.tup [.str "a", .str "b"]] = ([("num", "one"), ("num", "two"), ("gen", "he"), ("a", "b")] : List (Str × Str)).map pM from rfl, cut_map, cut_map, pairs_mK]
  walk_at "w"
  obtain ⟨ms0, e0⟩ := merge_mK (cut (cut ([("num", "one"), ("num", "two"), ("gen", "he"), ("a", "b")] : List (Str × Str)) (some r2) none) none (some r3)) []
  rw [show ([] : List (Key × D)) = mK [] from rfl, e0]
  intros
  rw [fItems_mK]
  refine ⟨srtOk_pM ms0, ?_⟩
  intros
  rw [sort_pM]
  walk_at "w"
  generalize (ms0.mergeSort fun a b => leD (pM a) (pM b)) = ms1
  have dms1 := dep_ms ms1
  refine if_by (fun e => ∃ (bx : List D) (a : Str), isBox bx ∧ hH a ms1 = 0 ∧ e = [some (.ls p bx), some (.pu (.int j)), some (.pu (.bl b)), some (.pu (.str a)), some (.pu (.tup (ms1.map pM))), none, none, none, none, none]) ?_ ?_
  rotate_left
  · intro N hN
    walk_at "v"
    rw [cmp_ms, eqv_ms]
    walk_at "v"
    have hat : hH atom ms1 = 0 := if_neg fun h => hatom h.1
    refine ⟨by omega, fun hm => ?_, fun hm => hN _ ⟨bx3, atom, hb3, hat, rfl⟩⟩
    rw [q_take]
    refine ⟨hb3, by omega, by omega, fun r4 bx4 f4 a4 b4 hb4 => ?_⟩
    walk_at "v"
    exact ⟨fun _ => hN _ ⟨bx4, "", hb4, if_neg fun h => hm h.2, rfl⟩, fun _ => hN _ ⟨bx4, atom, hb4, hat, rfl⟩⟩
  · rintro e ⟨bx, a, hb, ha, rfl⟩
    walk_at "w"
    intro p6
    refine if_by (fun e => ∃ (bx : List D) (a : Str) (ms : List (Str × Str)) (c : Bool), isBox bx ∧ hH a ms + hB c = hB b ∧ (c = true → 2 ≤ j) ∧ e = [some (.ls p bx), some (.pu (.int j)), some (.pu (.bl c)), some (.pu (.str a)), some (.pu (.tup (ms.map pM))), some (.pu (.int ((j : Int) - 1))), some (.ls p6 []), none, none, none]) ?_ ?_
    rotate_left
    · intro N hN
      walk_at "v"
      refine ⟨fun hbt => ⟨fun _ => hN _ ⟨bx, "", [], false, hb, by subst hbt; simp [hH, hB], fun h => (nomatch h), rfl⟩, fun hj1 => ?_⟩, fun hbf => hN _ ⟨bx, a, ms1, b, hb, by omega, fun h => (by rw [hbf] at h; cases h), rfl⟩⟩
      rw [q_take]
      refine ⟨hb, by omega, by omega, fun r4 bx4 f4 a4 b4 hb4 => ?_⟩
      walk_at "v"
      exact ⟨fun _ => hN _ ⟨bx4, "", [], false, hb4, by subst hbt; simp [hH, hB], fun h => (nomatch h), rfl⟩, fun _ => hN _ ⟨bx4, a, ms1, b, hb4, by omega, fun _ => by omega, rfl⟩⟩
    · clear ha a hb bx
      rintro e ⟨bx, a, ms, c, hb, hc, hj, rfl⟩
      walk_at "w"
      refine wh_ind (fun k e => ∃ (bx : List D) (c : Bool) (l : Int) (ps : List (Str × M)) (x7 x8 x9 : Option O), isBox bx ∧ l.toNat = k ∧ 0 ≤ l ∧ 1 + (M.nodesL ps : Int) + l ≤ j ∧ (c = true → 1 ≤ l) ∧ hH a ms + M.holesL ps + hB c = hB b ∧ (∀ p ∈ ps, p.2.ok) ∧ e = [some (.ls p bx), some (.pu (.int j)), some (.pu (.bl c)), some (.pu (.str a)), some (.pu (.tup (ms.map pM))), some (.pu (.int l)), some (.ls p6 (ps.map pD2)), x7, x8, x9]) (j - 1) ⟨bx, c, (j : Int) - 1, [], _, _, _, hb, by omega, by omega, by simp [M.nodesL]; omega, fun h => by have := hj h; omega, by simp [M.holesL]; exact hc, by simp, rfl⟩ ?_
      rintro k e ⟨bx, c, l, ps, x7, x8, x9, hb, hk, h0, hn, hcl, hh, hok, rfl⟩ F hF
      generalize hK : kWh _ _ _ F = K
      have kt : ∀ bx' : List D, isBox bx' → 0 < l → K true [some (.ls p bx'), some (.pu (.int j)), some (.pu (.bl c)), some (.pu (.str a)), some (.pu (.tup (ms.map pM))), some (.pu (.int l)), some (.ls p6 (ps.map pD2)), x7, x8, x9] := by
        intro bx' hb' hl
        rw [← hK, e_kwh]
        refine ⟨fun _ => ?_, fun h => (nomatch h)⟩
        walk_at "w"
        rw [q_take]
        refine ⟨hb', hl, by omega, fun r bx2 f a2 b2 hb2 => ?_⟩
        walk_at "w"
        rw [q_meaning]
        refine ⟨hb2, (1 + r).toNat, by omega, by omega, by omega, by omega, fun m bx3 f3 hm hmh hmo hb3 => ?_⟩
        walk_at "w"
        intros
        rw [q_take]
        refine ⟨hb3, by omega, by omega, fun r4 bx4 f4 a4 b4 hb4 => ?_⟩
        simp only [e_kret, e_pb1, e_pb2, e_pb0, e_pbE, e_kq, e_kop2b, e_kop2c, e_kop2d, e_ov]
        rw [e_gIx2]
        refine onAt_mem a4 b4 fun d hd => ?_
        obtain ⟨role, rfl⟩ : ∃ s : Str, d = .str s := by
          simp only [List.mem_cons, List.not_mem_nil, or_false] at hd
          rcases hd with rfl | rfl | rfl | rfl | rfl <;> exact ⟨_, rfl⟩
        walk_at "w"
        have hlp := len_nodesL ps
        have hdm := depth_nodes m
        have hnp := nodes_pos m
        refine ⟨by rw [List.length_map]; omega, ?_⟩
        rw [q_law_nodes]
        refine ⟨m, rfl, by omega, by omega, fun f6 => ?_⟩
        have e1 : ps.map pD2 ++ [D.tup [.str role, m.d]] = (ps ++ [(role, m)]).map pD2 := by rw [List.map_append]; rfl
        rw [e1]
        have hokp : ∀ p ∈ ps ++ [(role, m)], p.2.ok := fun p hp => by
          rcases List.mem_append.mp hp with h | h
          · exact hok p h
          · rw [List.mem_singleton.mp h]
            exact hmo
        have n1 : M.nodesL (ps ++ [(role, m)]) = M.nodesL ps + m.nodes := by rw [nodesL_app]; simp [M.nodesL]
        have h1 : M.holesL (ps ++ [(role, m)]) = M.holesL ps + hB c := by rw [holesL_app, ← hmh]; simp [M.holesL]
        have done1 : ∀ bx' : List D, isBox bx' → F [some (.ls p bx'), some (.pu (.int j)), some (.pu (.bl false)), some (.pu (.str a)), some (.pu (.tup (ms.map pM))), some (.pu (.int (l - m.nodes))), some (.ls p6 ((ps ++ [(role, m)]).map pD2)), some (.pu (.int (1 + r))), some (.pu m.d), some (.pu (.str role))] := fun bx' hb' =>
          hF (l - m.nodes).toNat _ (by omega) ⟨bx', false, l - m.nodes, ps ++ [(role, m)], _, _, _, hb', rfl, by omega, by omega, fun h => (nomatch h), by rw [h1]; simp [hB]; simp [hB] at hh; omega, hokp, rfl⟩
        walk_at "v"
        rw [q_law_nodes]
        refine ⟨m, rfl, by omega, by omega, fun f7 => ?_⟩
        walk_at "v"
        refine ⟨fun hge => ?_, fun _ => done1 _ hb4⟩
        rw [q_take]
        refine ⟨hb4, by omega, by omega, fun r7 bx7 f8 a7 b7 hb7 => ?_⟩
        walk_at "v"
        refine ⟨fun _ => ?_, fun _ => done1 _ hb7⟩
        rw [q_law_holed]
        refine ⟨m, rfl, by omega, by omega, fun f9 => ?_⟩
        walk_at "v"
        refine ⟨fun hno => ⟨by rw [List.length_map, List.length_append]; simp; omega, ?_⟩, fun _ => done1 _ hb7⟩
        rw [q_law_nodes]
        refine ⟨m, rfl, by omega, by omega, fun f10 => ?_⟩
        rw [M.has_eq, decide_eq_false_iff_not] at hno
        have e2 : (ps ++ [(role, m)]).map pD2 ++ [D.tup [.str role, m.d]] = (ps ++ [(role, m)] ++ [(role, m)]).map pD2 := by simp only [List.map_append, List.map_cons, List.map_nil]
        rw [e2]
        have n2 : M.nodesL (ps ++ [(role, m)] ++ [(role, m)]) = M.nodesL ps + m.nodes + m.nodes := by rw [nodesL_app, n1]; simp [M.nodesL]
        have h2 : M.holesL (ps ++ [(role, m)] ++ [(role, m)]) = M.holesL ps + hB c + m.holes := by rw [holesL_app, h1]; simp [M.holesL]
        walk_at "v"
        refine hF (l - m.nodes - m.nodes).toNat _ (by omega) ⟨bx7, false, l - m.nodes - m.nodes, ps ++ [(role, m)] ++ [(role, m)], _, _, _, hb7, rfl, by omega, by omega, fun h => (nomatch h), by rw [h2]; simp [hB]; simp [hB] at hh; omega, fun p hp => ?_, rfl⟩
        rcases List.mem_append.mp hp with h | h
        · exact hokp p h
        · rw [List.mem_singleton.mp h]
          exact hmo
      have kf : ∀ bx' : List D, isBox bx' → c = false → K false [some (.ls p bx'), some (.pu (.int j)), some (.pu (.bl c)), some (.pu (.str a)), some (.pu (.tup (ms.map pM))), some (.pu (.int l)), some (.ls p6 (ps.map pD2)), x7, x8, x9] := by
        intro bx' hb' hc
        rw [← hK, e_kwh]
        refine ⟨fun h => (nomatch h), fun _ => ?_⟩
        walk_at "w"
        have hdl := depth_nodes (M.mk a ms ps)
        unfold M.depth M.nodes at hdl
        refine ⟨srtOk_ps (by omega), ?_⟩
        rw [sort_ps, ← d_mk]
        refine q _ _ _ ?_ ?_ (ok_srt a ms hok) hb'
        · unfold M.nodes
          rw [nodesL_perm (srt_perm ps)]
          omega
        · rw [holes_mk, holesL_perm (srt_perm ps)]
          subst hc
          exact hh
      clear hK
      walk_at "w"
      refine ⟨fun hl => ⟨fun hc => kt _ hb hl, fun hc => ?_⟩, fun hl => kf _ hb (by
        cases c with
        | false => rfl
        | true => have := hcl rfl; omega)⟩
      rw [q_take]
      refine ⟨hb, by omega, by omega, fun r5 bx5 f5 a5 b5 hb5 => ?_⟩
      walk_at "w"
      by_cases h5 : 0 < r5
      · rw [decide_eq_true h5]
        exact kt _ hb5 hl
      · rw [decide_eq_false h5]
        exact kf _ hb5 hc
set_option maxHeartbeats 4000000 in
theorem pu_law_right : ∀ os post, ct_law_right os post → rd_law_right noX ⟨fun e => post (.pu .non) (List.take P_law_right.length e), fun o e => post o (List.take P_law_right.length e), fun _ => False, fun _ => False⟩ (os.map some ++ List.replicate (N_law_right.length - P_law_right.length) none) := by
  -- slow
  intro os post h
  unfold ct_law_right at h
  split at h
  case h_2 => exact h.elim
  rename_i p bx
  obtain ⟨hb, q⟩ := h
  unfold rd_law_right
  walk_at "w"
  rw [q_take]
  refine ⟨hb, by omega, by omega, fun r1 bx1 f1 a1 b1 hb1 => ?_⟩
  walk_at "w"
  rw [q_take]
  refine ⟨hb1, by omega, by omega, fun r2 bx2 f2 a2 b2 hb2 => ?_⟩
  walk_at "w"
  rw [q_meaning]
  refine ⟨hb2, (1 + r1).toNat, by omega, by omega, by omega, by omega, fun m bx3 f3 hm hmh hmo hb3 => ?_⟩
  walk_at "w"
  rw [q_take]
  refine ⟨hb3, by omega, by omega, fun r3 bx4 f4 a3 b3 hb4 => ?_⟩
  walk_at "w"
  rw [q_take]
  refine ⟨hb4, by omega, by omega, fun r4 bx5 f5 a4 b4 hb5 => ?_⟩
  walk_at "w"
  rw [q_meaning]
  refine ⟨hb5, (1 + r3).toNat, by omega, by omega, by omega, by omega, fun w bx6 f6 hw hwh hwo hb6 => ?_⟩
  walk_at "w"
  intros
  rw [q_take]
  refine ⟨hb6, by omega, by omega, fun r5 bx7 f7 a5 b5 hb7 => ?_⟩
  simp only [e_kret, e_pb1, e_pb2, e_pb0, e_pbE, e_kq, e_kop2b, e_kop2c, e_kop2d, e_ov]
  rw [e_gIx2]
  refine onAt_mem a5 b5 fun d hd => ?_
  obtain ⟨role, rfl⟩ : ∃ s : Str, d = .str s := by
    simp only [List.mem_cons, List.not_mem_nil, or_false] at hd
    rcases hd with rfl | rfl | rfl | rfl | rfl | rfl <;> exact ⟨_, rfl⟩
  obtain ⟨a, ms, ps⟩ := m
  have dd := dep_ms ms
  rw [d_mk]
  walk_at "w"
  have hn1 := nodes_mk a ms ps
  have hd1 := depth_mk a ms ps
  have hmd := depth_nodes (M.mk a ms ps)
  have hwd := depth_nodes w
  have hlp := len_nodesL ps
  have hpm : ((role, w) :: ps).Perm (ps ++ [(role, w)]) := List.perm_append_comm (l₁ := [(role, w)]) (l₂ := ps)
  have hdL : M.depthL (ps ++ [(role, w)]) = max (M.depthL ps) w.depth := by rw [depthL_app]; simp [M.depthL]
  have hnL : M.nodesL (ps ++ [(role, w)]) = M.nodesL ps + w.nodes := by rw [nodesL_app]; simp [M.nodesL]
  refine ⟨by rw [List.length_map]; omega, ?_⟩
  rw [show D.tup [.str role, w.d] :: ps.map pD2 = ((role, w) :: ps).map pD2 from rfl]
  refine ⟨srtOk_ps (by rw [depthL_perm hpm, hdL]; omega), by omega, by omega, ?_⟩
  rw [sort_ps, srt_eq hpm]
  simp only [← d_mk]
  have hdn : (M.mk a ms (srt (ps ++ [(role, w)]))).nodes = 1 + M.nodesL ps + w.nodes := by rw [nodes_mk, nodesL_perm (srt_perm _), hnL]; omega
  have hdd : (M.mk a ms (srt (ps ++ [(role, w)]))).depth = 1 + max (M.depthL ps) w.depth := by rw [depth_mk, depthL_perm (srt_perm _), hdL]
  refine forL_ind (fun ds e => (∀ d ∈ ds, ∃ i, d = D.int i) ∧ ∃ (x5 x6 : Option O), e = [some (.ls p bx7), some (.pu (M.mk a ms ps).d), some (.pu w.d), some (.pu (.str role)), some (.pu (M.mk a ms (srt (ps ++ [(role, w)]))).d), x5, x6, none]) ?_ ?_ _ _ ⟨fun d hd => by obtain ⟨i, _, rfl⟩ := List.mem_map.mp hd; exact ⟨_, rfl⟩, _, _, rfl⟩
  · rintro e ⟨_, x5, x6, rfl⟩
    walk_at "v"
    rw [q_with_pair]
    refine ⟨a, ms, ps, w, rfl, rfl, by rw [hdL]; omega, by omega, ?_⟩
    refine .inl fun f11 => ?_
    walk_at "v"
    rw [q_nodes_of]
    refine ⟨_, rfl, by omega, by omega, fun f8 => ?_⟩
    walk_at "v"
    rw [q_law_nodes]
    refine ⟨_, rfl, by omega, by omega, fun f9 => ?_⟩
    walk_at "v"
    rw [q_law_nodes]
    refine ⟨_, rfl, by omega, by omega, fun f9 => ?_⟩
    walk_at "v"
    refine ⟨fun h => absurd (by rw [hdn, hn1]; omega) h, fun _ => ?_⟩
    rw [q_with_pair]
    have hlL : (srt (ps ++ [(role, w)])).length = ps.length + 1 := by rw [List.Perm.length_eq (srt_perm _), List.length_append]; rfl
    refine ⟨a, ms, srt (ps ++ [(role, w)]), w, rfl, rfl, by rw [depthL_app, depthL_perm (srt_perm _), hdL]; simp [M.depthL]; omega, by omega, ?_⟩
    refine .inr fun f12 => ?_
    simp only [d_mk]
    walk_at "v"
    have hlA : (srt (srt (ps ++ [(role, w)]) ++ [(role, w)])).length = ps.length + 2 := by rw [List.Perm.length_eq (srt_perm _), List.length_append, hlL]; rfl
    have hdA : M.depthL (srt (srt (ps ++ [(role, w)]) ++ [(role, w)])) ≤ 19 := by rw [depthL_perm (srt_perm _), depthL_app, depthL_perm (srt_perm _), hdL]; simp [M.depthL]; omega
    have hpA : (srt (srt (ps ++ [(role, w)]) ++ [(role, w)])).Perm (ps ++ [(role, w)] ++ [(role, w)]) := (srt_perm _).trans ((srt_perm _).append_right _)
    have hnA : noDs ((srt (srt (ps ++ [(role, w)]) ++ [(role, w)])).map pD2) = true := noDs_all fun d hd => by
      obtain ⟨x, _, rfl⟩ := List.mem_map.mp hd
      exact noD2 x
    have hnl : noD (.lst ((srt (srt (ps ++ [(role, w)]) ++ [(role, w)])).map pD2)) = true := by unfold noD; exact hnA
    rw [sort_ps, srt_idem, cmpb_refl _ hnl, eqv_refl _ hnl]
    refine ⟨fun _ => ⟨srtOk_ps hdA, ?_, rfl, fun _ => ⟨⟨noD2 (role, w), hnA, ?_, ?_⟩, ?_⟩, fun h => (nomatch h)⟩, fun h => absurd (by rw [List.length_map, List.length_map, hlA]; omega) h⟩
    · refine Nat.le_trans (dep_lst (n := 58) fun d hd => ?_) (by omega)
      obtain ⟨x, hx, rfl⟩ := List.mem_map.mp hd
      have h1 := dep2 x
      have h2 := M.depth_le hx
      omega
    · have h1 : dep (D.tup [D.str role, w.d]) ≤ 3 * w.depth + 1 := dep2 (role, w)
      omega
    · rw [List.all_eq_true]
      intro d hd
      obtain ⟨x, _, rfl⟩ := List.mem_map.mp hd
      exact cmp2 x (role, w)
    · have hc : 1 < cntD (pD2 (role, w)) ((srt (srt (ps ++ [(role, w)]) ++ [(role, w)])).map pD2) := by
        unfold cntD
        rw [(hpA.map pD2).countP_eq, List.map_append, List.countP_append, List.map_append, List.countP_append]
        have : List.countP (fun d => eqv d (pD2 (role, w))) ([(role, w)].map pD2) = 1 := by
          have e := eqv_refl (pD2 (role, w)) (noD2 _)
          simp only [List.map_cons, List.map_nil]
          rw [List.countP_singleton, if_pos e]
        omega
      have hc2 : 1 < cntD (D.tup [D.str role, w.d]) ((srt (srt (ps ++ [(role, w)]) ++ [(role, w)])).map pD2) := hc
      rw [decide_eq_true (by omega)]
      exact q _ _
  · rintro d ds e ⟨hds, x5, x6, rfl⟩ F hF
    obtain ⟨i, rfl⟩ := hds d List.mem_cons_self
    walk_at "v"
    rw [q_nodes_of]
    refine ⟨_, rfl, by omega, by omega, fun f8 => ?_⟩
    walk_at "v"
    rw [q_law_nodes]
    refine ⟨_, rfl, by omega, by omega, fun f9 => ?_⟩
    walk_at "v"
    rw [q_nodes_of]
    refine ⟨_, rfl, by omega, by omega, fun f10 => ?_⟩
    walk_at "v"
    simp only [e_isi_boolI]
    walk_at "v"
    intros
    rw [q_with_pair]
    refine ⟨a, ms, ps, w, rfl, rfl, by rw [hdL]; omega, by omega, ?_⟩
    refine .inl fun f11 => ?_
    walk_at "v"
    rw [cmp_M, eqv_M, nd_M]
    have hdp := M.dep (M.mk a ms (srt (ps ++ [(role, w)])))
    walk_at "v"
    refine ⟨by omega, ?_⟩
    refine forL_ind (fun ds e => (∀ d ∈ ds, ∃ m : M, d = m.d ∧ m.depth ≤ 19 ∧ m.nodes ≤ 1000) ∧ ∃ (x6 : Option O), e = [some (.ls p bx7), some (.pu (M.mk a ms ps).d), some (.pu w.d), some (.pu (.str role)), some (.pu (M.mk a ms (srt (ps ++ [(role, w)]))).d), some (.pu (.int i)), x6, none]) ?_ ?_ _ _ ⟨fun d hd => ?_, _, rfl⟩
    · rintro e ⟨_, y6, rfl⟩
      exact hF _ ⟨fun d hd => hds d (List.mem_cons_of_mem _ hd), _, _, rfl⟩
    · rintro d ds' e ⟨hds', y6, rfl⟩ F2 hF2
      obtain ⟨m, rfl, g1, g2⟩ := hds' d List.mem_cons_self
      walk_at "v"
      rw [q_has_hole]
      refine ⟨m, rfl, by omega, by omega, fun f13 => ?_⟩
      walk_at "v"
      rw [q_has_hole]
      refine ⟨m, rfl, by omega, by omega, fun f13 => ?_⟩
      walk_at "v"
      rw [q_law_holed]
      refine ⟨m, rfl, by omega, by omega, fun f13 => ?_⟩
      walk_at "v"
      rw [show (m.has == m.has) = true by cases m.has <;> rfl]
      exact ⟨fun h => (nomatch h), fun _ => hF2 _ ⟨fun d hd => hds' d (List.mem_cons_of_mem _ hd), _, rfl⟩⟩
    · simp only [List.mem_cons, List.not_mem_nil, or_false] at hd
      rcases hd with rfl | rfl | rfl
      · exact ⟨_, rfl, by omega, by omega⟩
      · exact ⟨_, rfl, by omega, by omega⟩
      · exact ⟨_, rfl, by omega, by omega⟩
end
section
theorem pu_law : ∀ os post, ct_law os post → rd_law noX ⟨fun e => post (.pu .non) (List.take P_law.length e), fun o e => post o (List.take P_law.length e), fun _ => False, fun _ => False⟩ (os.map some ++ List.replicate (N_law.length - P_law.length) none) := by
  rintro os post ⟨ns, rfl, hlen, q⟩
  unfold rd_law
  have hli : (ns.map D.int).length ≤ 63 := by rw [List.length_map]; exact hlen
  have leaf : ∀ s : Str, (M.mk s [] []).d = .tup [.str s, .tup [], .tup []] := fun s => by rw [d_mk]; rfl
  have n1 : ∀ s : Str, (M.mk s [] []).nodes = 1 := fun s => by rw [nodes_mk]; simp [M.nodesL]
  have g1 : ∀ s : Str, (M.mk s [] []).depth = 1 := fun s => by rw [depth_mk]; simp [M.depthL]
  have c1 : (M.mk "cat" [] []).has = false := by
    rw [M.has_eq, decide_eq_false_iff_not, holes_mk, hH, if_neg (fun h => absurd h.1 (by decide +kernel))]
    simp [M.holesL]
  have c2 : (M.mk "" [] []).has = true := by
    rw [M.has_eq, decide_eq_true_eq, holes_mk, hH, if_pos ⟨rfl, rfl⟩]
    omega
  walk_at "v"
  rw [← leaf, q_nodes_of]
  refine ⟨_, rfl, by rw [g1]; omega, by rw [n1]; omega, fun f1 => ?_⟩
  rw [n1]
  walk_at "v"
  refine ⟨fun h => absurd rfl h, fun _ => ?_⟩
  rw [← leaf, q_has_hole]
  refine ⟨_, rfl, by rw [g1]; omega, by rw [n1]; omega, fun f1 => ?_⟩
  rw [c1]
  walk_at "v"
  rw [← leaf, q_has_hole]
  refine ⟨fun h => absurd h (by decide), fun _ => ⟨_, rfl, by rw [g1]; omega, by rw [n1]; omega, fun f1 => ?_⟩⟩
  rw [c2]
  walk_at "v"
  refine ⟨fun h => absurd h (by decide), fun _ => ⟨by omega, by omega, ?_⟩⟩
  refine forL_ind (fun rest e => (∀ d ∈ rest, ∃ k : Int, d = .int k ∧ 0 ≤ k) ∧ ∃ x1 : Option O, e = [some (.pu (.lst (ns.map D.int))), x1]) ?_ ?_ _ _ ⟨fun d hd => (by obtain ⟨i, _, rfl⟩ := List.mem_map.mp hd; exact ⟨_, rfl, by omega⟩), _, rfl⟩
  · rintro e ⟨_, x1, rfl⟩
    walk_at "v"
    exact q _
  · rintro d r e ⟨hi, x1, rfl⟩ F hF
    obtain ⟨k, rfl, hk⟩ := hi _ List.mem_cons_self
    walk_at "v"
    rw [q_box]
    refine ⟨⟨ns, rfl⟩, hli, hk, fun p bx fin hb => ?_⟩
    walk_at "v"
    rw [q_right]
    refine ⟨hb, fun by' f2 => ?_⟩
    walk_at "v"
    exact hF _ ⟨fun d hd => hi d (List.mem_cons_of_mem _ hd), _, rfl⟩
end
section
variable {P : Program} {w : World} {K : PySem.W.Frag} {mg : Str → Option Value} {base : Heap} {f : Addr} {fd : FuncData}
set_option maxHeartbeats 20000000 in
theorem ok_is_hole (F : Fun K "is_hole" "is_hole" s_is_hole f fd)   : FnOk P w K mg base CX0 1 f fd P_is_hole (spOf K ct_is_hole) :=
  fn_ok ct_is_hole F sc_is_hole len_is_hole rd_is_hole (fun cdv A outer s H E hr => by
    have nd := sc_is_hole.nd
    have hu := hr.units
    have hu1 : (A.deeper (envOfC "is_hole" (defScope s_is_hole) s.heap.objs.size f cdv)).units + 1 < cLine := by omega
    unfold rd_is_hole
    exact ⟨_, (vss_one (vs_ret (ve_and (ve_cmp (op_eqG hu) sr_eq (VE.qq (ve_ix hu1 (vq_at 0) (VE.qq ve_int))) (VE.qq ve_str) (nomark _)) (ve_one (ve_cmp (op_eqG hu) sr_eq (VE.qq (ve_ix hu1 (vq_at 0) (VE.qq ve_int))) (VE.qq (ve_tup vp_nil)) (nomark _))))))⟩) pu_is_hole
set_option maxHeartbeats 20000000 in
theorem ok_nodes_of (n : Nat) (F : Fun K "nodes_of" "nodes_of" s_nodes_of f fd) (c_nodes_of : Callee P w K mg base "nodes_of" (1 + n) P_nodes_of (ct_nodes_of n)) (z_sum : mg "sum" = none) : FnOk P w K mg base CX0 (1 + (n + 1)) f fd P_nodes_of (spOf K (ct_nodes_of (n + 1))) :=
  fn_ok (ct_nodes_of (n + 1)) F sc_nodes_of (len_nodes_of (n + 1)) (rd_nodes_of (ct_nodes_of n)) (fun cdv A outer s H E hr => by
    have nd := sc_nodes_of.nd
    have hu := hr.units
    have hu1 : (A.deeper (envOfC "nodes_of" (defScope s_nodes_of) s.heap.objs.size f cdv)).units + 1 < cLine := by omega
    unfold rd_nodes_of
    exact ⟨_, (vss_one (vs_ret (ve_addL (VE.qq ve_int) (VE.qq (ve_callB (cr_sum rfl) sr_sum rfl z_sum (by decide +kernel) (va_cons (VE.qq (ve_lcD (own := [(("role" : PySem.Str), 1), (("inner" : PySem.Str), 2)]) rfl nd (vi_tup (ve_ix hu1 (vq_at 0) (VE.qq ve_int))) (blkOk_by (N := N_nodes_of) (sc := defScope s_nodes_of) (by decide +kernel)) (vg_tup rfl (vgs_cons (vg_name (i := 1) nd rfl (Or.inl rfl)) (vgs_cons (vg_name (i := 2) nd rfl (Or.inl rfl)) vgs_nil))) vts_nil (ve_cal c_nodes_of hr (by first | omega | (simp only [Nat.add_eq]; omega)) rfl (vv_cons (ve_var 2) vv_nil)) (fun _ _ _ _ _ => (vg_tup rfl (vgs_cons (vg_name (i := 1) nd rfl (Or.inl rfl)) (vgs_cons (vg_name (i := 2) nd rfl (Or.inl rfl)) vgs_nil)))) (by decide) (fun _ _ _ _ _ => vts_nil) (fun _ _ _ _ _ => (ve_cal c_nodes_of hr (by first | omega | (simp only [Nat.add_eq]; omega)) rfl (vv_cons (ve_var 2) vv_nil))))) va_nil))))))⟩) (pu_nodes_of n)
set_option maxHeartbeats 20000000 in
theorem ok_has_hole (n : Nat) (F : Fun K "has_hole" "has_hole" s_has_hole f fd) (c_is_hole : Callee P w K mg base "is_hole" 1 P_is_hole ct_is_hole) (c_has_hole : Callee P w K mg base "has_hole" (2 + n) P_has_hole (ct_has_hole n)) (z_any : mg "any" = none) : FnOk P w K mg base CX0 (2 + (n + 1)) f fd P_has_hole (spOf K (ct_has_hole (n + 1))) :=
  fn_ok (ct_has_hole (n + 1)) F sc_has_hole (len_has_hole (n + 1)) (rd_has_hole (ct_has_hole n)) (fun cdv A outer s H E hr => by
    have nd := sc_has_hole.nd
    have hu := hr.units
    have hu1 : (A.deeper (envOfC "has_hole" (defScope s_has_hole) s.heap.objs.size f cdv)).units + 1 < cLine := by omega
    unfold rd_has_hole
    exact ⟨_, (vss_one (vs_ret (ve_or (ve_cal c_is_hole hr (by first | omega | (simp only [Nat.add_eq]; omega)) rfl (vv_cons (ve_var 0) vv_nil)) (ve_one (ve_callB (cr_any rfl) sr_any rfl z_any (by decide +kernel) (va_cons (VE.qq (ve_lcD (own := [(("role" : PySem.Str), 1), (("inner" : PySem.Str), 2)]) rfl nd (vi_tup (ve_ix hu1 (vq_at 0) (VE.qq ve_int))) (blkOk_by (N := N_has_hole) (sc := defScope s_has_hole) (by decide +kernel)) (vg_tup rfl (vgs_cons (vg_name (i := 1) nd rfl (Or.inl rfl)) (vgs_cons (vg_name (i := 2) nd rfl (Or.inl rfl)) vgs_nil))) vts_nil (ve_cal c_has_hole hr (by first | omega | (simp only [Nat.add_eq]; omega)) rfl (vv_cons (ve_var 2) vv_nil)) (fun _ _ _ _ _ => (vg_tup rfl (vgs_cons (vg_name (i := 1) nd rfl (Or.inl rfl)) (vgs_cons (vg_name (i := 2) nd rfl (Or.inl rfl)) vgs_nil)))) (by decide) (fun _ _ _ _ _ => vts_nil) (fun _ _ _ _ _ => (ve_cal c_has_hole hr (by first | omega | (simp only [Nat.add_eq]; omega)) rfl (vv_cons (ve_var 2) vv_nil))))) va_nil))))))⟩) (pu_has_hole n)
set_option maxHeartbeats 20000000 in
theorem ok_with_pairs (F : Fun K "with_pairs" "with_pairs" s_with_pairs f fd)  (z_tuple : mg "tuple" = none) (z_sorted : mg "sorted" = none) : FnOk P w K mg base CX0 1 f fd P_with_pairs (spOf K ct_with_pairs) :=
  fn_ok ct_with_pairs F sc_with_pairs len_with_pairs rd_with_pairs (fun cdv A outer s H E hr => by
    have nd := sc_with_pairs.nd
    have hu := hr.units
    have hu1 : (A.deeper (envOfC "with_pairs" (defScope s_with_pairs) s.heap.objs.size f cdv)).units + 1 < cLine := by omega
    unfold rd_with_pairs
    exact ⟨_, (vss_cons (vs_asg (ve_var 0) (vg_tup rfl (vgs_cons (vg_name (i := 2) nd rfl (Or.inl rfl)) (vgs_cons (vg_name (i := 3) nd rfl (Or.inl rfl)) (vgs_cons (vg_name (i := 4) nd rfl (Or.inl rfl)) vgs_nil)))))
    (vss_one (vs_ret (ve_tup (vp_cons (ve_var 2) (vp_cons (ve_var 3) (vp_cons (ve_callTy call_tupleC sr_tupleC rfl z_tuple (by decide +kernel) (va_cons (VE.qq (ve_callB (cr_sortA hu) sr_sortA rfl z_sorted (by decide +kernel) (va_cons (VE.qq (ve_addL (vq_at 4) (VE.qq (ve_callTy call_tuple_of sr_tuple rfl z_tuple (by decide +kernel) (va_cons (vq_at 1) va_nil))))) va_nil))) va_nil)) vp_nil)))))))⟩) pu_with_pairs
set_option maxHeartbeats 20000000 in
theorem ok_with_pair (F : Fun K "with_pair" "with_pair" s_with_pair f fd) (c_with_pairs : Callee P w K mg base "with_pairs" 1 P_with_pairs ct_with_pairs)  : FnOk P w K mg base CX0 2 f fd P_with_pair (spOf K ct_with_pair) :=
  fn_ok ct_with_pair F sc_with_pair len_with_pair rd_with_pair (fun cdv A outer s H E hr => by
    have nd := sc_with_pair.nd
    have hu := hr.units
    have hu1 : (A.deeper (envOfC "with_pair" (defScope s_with_pair) s.heap.objs.size f cdv)).units + 1 < cLine := by omega
    unfold rd_with_pair
    exact ⟨_, (vss_one (vs_ret (ve_cal c_with_pairs hr (by decide) rfl (vv_cons (ve_var 0) (vv_cons (VE.pu (ve_lst (vp_cons (ve_tup (vp_cons (ve_var 1) (vp_cons (ve_var 2) vp_nil))) vp_nil))) vv_nil)))))⟩) pu_with_pair
set_option maxHeartbeats 20000000 in
theorem ok_law_cell_at (F : Fun K "_law_cell_at" "_law_cell_at" s_law_cell_at f fd)  (z_len : mg "len" = none) : FnOk P w K mg base CX0 1 f fd P_law_cell_at (spOf K ct_law_cell_at) :=
  fn_ok ct_law_cell_at F sc_law_cell_at len_law_cell_at rd_law_cell_at (fun cdv A outer s H E hr => by
    have nd := sc_law_cell_at.nd
    have hu := hr.units
    have hu1 : (A.deeper (envOfC "_law_cell_at" (defScope s_law_cell_at) s.heap.objs.size f cdv)).units + 1 < cLine := by omega
    unfold rd_law_cell_at
    exact ⟨_, (vss_cons (vs_if (vt_cmp op_ltA sr_ltA (vq_at 1) (VE.qq (ve_callB call_lenA sr_len rfl z_len (by decide +kernel) (va_cons (vq_at 0) va_nil))) (nomark _)) (vss_one (vs_ret (ve_ix hu1 (vq_at 0) (vq_at 1)))) vss_nil)
    (vss_one (vs_ret ve_int)))⟩) pu_law_cell_at
set_option maxHeartbeats 20000000 in
theorem ok_law_mixed (F : Fun K "_law_mixed" "_law_mixed" s_law_mixed f fd)   : FnOk P w K mg base CX0 1 f fd P_law_mixed (spOf K ct_law_mixed) :=
  fn_ok ct_law_mixed F sc_law_mixed len_law_mixed rd_law_mixed (fun cdv A outer s H E hr => by
    have nd := sc_law_mixed.nd
    have hu := hr.units
    have hu1 : (A.deeper (envOfC "_law_mixed" (defScope s_law_mixed) s.heap.objs.size f cdv)).units + 1 < cLine := by omega
    unfold rd_law_mixed
    exact ⟨_, (vss_cons (vs_set (i := 2) nd rfl (Or.inl rfl) (ve_mod (VE.qq (ve_mul (VE.qq (ve_addL (VE.qq (ve_addL (VE.qq (ve_mod (vq_at 0) (VE.qq ve_int))) (VE.qq (ve_mul (VE.qq ve_int) (vq_at 1))))) (VE.qq ve_int))) (VE.qq ve_int))) (VE.qq ve_int)))
    (vss_cons (vs_set (i := 3) nd rfl (Or.inl rfl) (ve_mod (VE.qq (ve_mul (vq_at 2) (VE.qq (ve_addL (VE.qq (ve_addL (VE.qq (ve_mod (vq_at 2) (VE.qq ve_int))) (vq_at 1))) (VE.qq ve_int))))) (VE.qq ve_int)))
    (vss_one (vs_ret (ve_mod (VE.qq (ve_addL (VE.qq (ve_mul (vq_at 3) (VE.qq ve_int))) (vq_at 2))) (VE.qq ve_int))))))⟩) pu_law_mixed
set_option maxHeartbeats 20000000 in
theorem ok_law_box (F : Fun K "_law_box" "_law_box" s_law_box f fd) (c_law_mixed : Callee P w K mg base "_law_mixed" 1 P_law_mixed ct_law_mixed) (c_law_cell_at : Callee P w K mg base "_law_cell_at" 1 P_law_cell_at ct_law_cell_at) (z_abs : mg "abs" = none) (z_int : mg "int" = none) : FnOk P w K mg base CX0 2 f fd P_law_box (spOf K ct_law_box) :=
  fn_ok ct_law_box F sc_law_box len_law_box rd_law_box (fun cdv A outer s H E hr => by
    have nd := sc_law_box.nd
    have hu := hr.units
    have hu1 : (A.deeper (envOfC "_law_box" (defScope s_law_box) s.heap.objs.size f cdv)).units + 1 < cLine := by omega
    unfold rd_law_box
    exact ⟨_, (vss_cons (vs_set (i := 2) nd rfl (Or.inl rfl) (ve_cal c_law_cell_at hr (by decide) rfl (vv_cons (ve_var 0) (vv_cons (ve_var 1) vv_nil))))
    (vss_one (vs_ret (ve_lst (vp_cons (ve_mul (VE.qq (ve_callB call_abs sr_abs rfl z_abs (by decide +kernel) (va_cons (vq_at 2) va_nil))) (VE.qq (ve_callTy call_int1 sr_int rfl z_int (by decide +kernel) (va_cons (VE.qq (ve_cmp op_ge sr_ge (VE.qq (ve_callB call_abs sr_abs rfl z_abs (by decide +kernel) (va_cons (vq_at 2) va_nil))) (VE.qq (ve_pow (VE.qq ve_int) (VE.qq ve_int))) (nomark _))) va_nil)))) (vp_cons (ve_cal c_law_mixed hr (by decide) rfl (vv_cons (ve_var 2) (vv_cons (ve_addL (VE.qq ve_int) (vq_at 1)) vv_nil))) (vp_cons ve_int vp_nil)))))))⟩) pu_law_box
set_option maxHeartbeats 20000000 in
theorem ok_law_take (F : Fun K "_law_take" "_law_take" s_law_take f fd) (c_law_mixed : Callee P w K mg base "_law_mixed" 1 P_law_mixed ct_law_mixed)  : FnOk P w K mg base CX0 2 f fd P_law_take (spOf K ct_law_take) :=
  fn_ok ct_law_take F sc_law_take len_law_take rd_law_take (fun cdv A outer s H E hr => by
    have nd := sc_law_take.nd
    have hu := hr.units
    have hu1 : (A.deeper (envOfC "_law_take" (defScope s_law_take) s.heap.objs.size f cdv)).units + 1 < cLine := by omega
    unfold rd_law_take
    exact ⟨_, (vss_cons (vs_if (vt_cmp op_gt sr_gt (VE.qq (ve_ix hu1 (vq_at 0) (VE.qq ve_int))) (VE.qq ve_int) (nomark _)) (vss_cons (vs_set (i := 2) nd rfl (Or.inl rfl) (ve_mod (VE.qq (ve_ix hu1 (vq_at 0) (VE.qq ve_int))) (vq_at 1)))
    (vss_cons (vs_asg (ve_fdiv (VE.qq (ve_ix hu1 (vq_at 0) (VE.qq ve_int))) (vq_at 1)) (vg_sub (pv 0) ve_int))
    (vss_one (vs_ret (ve_mv 2))))) vss_nil)
    (vss_cons (vs_asg (ve_addL (VE.qq (ve_ix hu1 (vq_at 0) (VE.qq ve_int))) (VE.qq ve_int)) (vg_sub (pv 0) ve_int))
    (vss_one (vs_ret (ve_mod (VE.qq (ve_cal c_law_mixed hr (by decide) rfl (vv_cons (ve_ix hu1 (vq_at 0) (VE.qq ve_int)) (vv_cons (ve_ix hu1 (vq_at 0) (VE.qq ve_int)) vv_nil)))) (vq_at 1))))))⟩) pu_law_take
set_option maxHeartbeats 20000000 in
theorem ok_law_nodes (F : Fun K "_law_nodes" "_law_nodes" s_law_nodes f fd)   : FnOk P w K mg base CX0 1 f fd P_law_nodes (spOf K ct_law_nodes) :=
  fn_ok ct_law_nodes F sc_law_nodes len_law_nodes rd_law_nodes (fun cdv A outer s H E hr => by
    have nd := sc_law_nodes.nd
    have hu := hr.units
    have hu1 : (A.deeper (envOfC "_law_nodes" (defScope s_law_nodes) s.heap.objs.size f cdv)).units + 1 < cLine := by omega
    unfold rd_law_nodes
    exact ⟨_, (vss_cons (vs_set (i := 1) nd rfl (Or.inl rfl) (ve_lst (vp_cons (ve_var 0) vp_nil)))
    (vss_cons (vs_set (i := 2) nd rfl (Or.inl rfl) ve_int)
    (vss_cons (vs_while PassesOwn.never (vt_cmp (op_neG hu) sr_ne (vq_at 1) (VE.qq (ve_lst vp_nil)) (nomark _)) (vss_cons (vs_set (i := 2) nd rfl (Or.inl rfl) (ve_addL (vq_at 2) (VE.qq ve_int)))
    (vss_one (vs_expr (ve_extend (pv 1) (ve_lcD (own := [(("_law_role" : PySem.Str), 3), (("_law_one" : PySem.Str), 4)]) rfl nd (vi_tup (ve_ix hu1 (VE.qq (ve_mut0 (by decide) PySem.F.plainAttrs_list PySem.F.slot_list_pop PySem.F.type_list_pop mt_pop sr_pop (pv 1))) (VE.qq ve_int))) (blkOk_by (N := N_law_nodes) (sc := defScope s_law_nodes) (by decide +kernel)) (vg_tup rfl (vgs_cons (vg_name (i := 3) nd rfl (Or.inl rfl)) (vgs_cons (vg_name (i := 4) nd rfl (Or.inl rfl)) vgs_nil))) vts_nil (ve_var 4) (fun _ _ _ _ _ => (vg_tup rfl (vgs_cons (vg_name (i := 3) nd rfl (Or.inl rfl)) (vgs_cons (vg_name (i := 4) nd rfl (Or.inl rfl)) vgs_nil)))) (by decide) (fun _ _ _ _ _ => vts_nil) (fun _ _ _ _ _ => (ve_var 4))))))))
    (vss_one (vs_ret (ve_mv 2))))))⟩) pu_law_nodes
set_option maxHeartbeats 20000000 in
theorem ok_law_holed (F : Fun K "_law_holed" "_law_holed" s_law_holed f fd)   : FnOk P w K mg base CX0 1 f fd P_law_holed (spOf K ct_law_holed) :=
  fn_ok ct_law_holed F sc_law_holed len_law_holed rd_law_holed (fun cdv A outer s H E hr => by
    have nd := sc_law_holed.nd
    have hu := hr.units
    have hu1 : (A.deeper (envOfC "_law_holed" (defScope s_law_holed) s.heap.objs.size f cdv)).units + 1 < cLine := by omega
    unfold rd_law_holed
    exact ⟨_, (vss_cons (vs_set (i := 1) nd rfl (Or.inl rfl) (ve_lst (vp_cons (ve_var 0) vp_nil)))
    (vss_cons (vs_while PassesOwn.never (vt_cmp (op_neG hu) sr_ne (vq_at 1) (VE.qq (ve_lst vp_nil)) (nomark _)) (vss_cons (vs_set (i := 2) nd rfl (Or.inl rfl) (ve_mut0 (by decide) PySem.F.plainAttrs_list PySem.F.slot_list_pop PySem.F.type_list_pop mt_pop sr_pop (pv 1)))
    (vss_cons (vs_if (vt_w (vw_and (vt_cmp (op_eqG hu) sr_eq (VE.qq (ve_ix hu1 (vq_at 2) (VE.qq ve_int))) (VE.qq ve_str) (nomark _)) (vw_and1 (vt_cmp (op_eqG hu) sr_eq (VE.qq (ve_ix hu1 (vq_at 2) (VE.qq ve_int))) (VE.qq (ve_tup vp_nil)) (nomark _))))) (vss_one (vs_ret ve_bl)) vss_nil)
    (vss_one (vs_expr (ve_extend (pv 1) (ve_lcD (own := [(("_law_role" : PySem.Str), 3), (("_law_inner" : PySem.Str), 4)]) rfl nd (vi_tup (ve_ix hu1 (vq_at 2) (VE.qq ve_int))) (blkOk_by (N := N_law_holed) (sc := defScope s_law_holed) (by decide +kernel)) (vg_tup rfl (vgs_cons (vg_name (i := 3) nd rfl (Or.inl rfl)) (vgs_cons (vg_name (i := 4) nd rfl (Or.inl rfl)) vgs_nil))) vts_nil (ve_var 4) (fun _ _ _ _ _ => (vg_tup rfl (vgs_cons (vg_name (i := 3) nd rfl (Or.inl rfl)) (vgs_cons (vg_name (i := 4) nd rfl (Or.inl rfl)) vgs_nil)))) (by decide) (fun _ _ _ _ _ => vts_nil) (fun _ _ _ _ _ => (ve_var 4)))))))))
    (vss_one (vs_ret ve_bl))))⟩) pu_law_holed
set_option maxHeartbeats 20000000 in
theorem ok_law_meaning (n : Nat) (F : Fun K "_law_meaning" "_law_meaning" s_law_meaning f fd) (c_law_take : Callee P w K mg base "_law_take" 2 P_law_take ct_law_take) (c_law_nodes : Callee P w K mg base "_law_nodes" 1 P_law_nodes ct_law_nodes) (c_law_holed : Callee P w K mg base "_law_holed" 1 P_law_holed ct_law_holed) (c_law_meaning : Callee P w K mg base "_law_meaning" (3 + n) P_law_meaning (ct_law_meaning n)) (z_sorted : mg "sorted" = none) (z_tuple : mg "tuple" = none) (z_dict : mg "dict" = none) : FnOk P w K mg base CX0 (3 + (n + 1)) f fd P_law_meaning (spOf K (ct_law_meaning (n + 1))) :=
  fn_ok (ct_law_meaning (n + 1)) F sc_law_meaning (len_law_meaning (n + 1)) (rd_law_meaning (ct_law_meaning n)) (fun cdv A outer s H E hr => by
    have nd := sc_law_meaning.nd
    have hu := hr.units
    have hu1 : (A.deeper (envOfC "_law_meaning" (defScope s_law_meaning) s.heap.objs.size f cdv)).units + 1 < cLine := by omega
    unfold rd_law_meaning
    exact ⟨_, (vss_cons (vs_set (i := 3) nd rfl (Or.inl rfl) (ve_ix hu1 (VE.qq (ve_lst (vp_cons ve_str (vp_cons ve_str (vp_cons ve_str (vp_cons ve_str (vp_cons ve_str (vp_cons ve_str vp_nil)))))))) (VE.qq (ve_cal c_law_take hr (by first | omega | (simp only [Nat.add_eq]; omega)) rfl (vv_lt (pv 0) (vv_cons ve_int vv_nil))))))
    (vss_cons (vs_set (i := 4) nd rfl (Or.inl rfl) (ve_slice (VE.qq (ve_slice (VE.qq (ve_lst (vp_cons (ve_tup (vp_cons ve_str (vp_cons ve_str vp_nil))) (vp_cons (ve_tup (vp_cons ve_str (vp_cons ve_str vp_nil))) (vp_cons (ve_tup (vp_cons ve_str (vp_cons ve_str vp_nil))) (vp_cons (ve_tup (vp_cons ve_str (vp_cons ve_str vp_nil))) vp_nil)))))) (vo_some (ve_cal c_law_take hr (by first | omega | (simp only [Nat.add_eq]; omega)) rfl (vv_lt (pv 0) (vv_cons ve_int vv_nil)))) vo_none)) vo_none (vo_some (ve_cal c_law_take hr (by first | omega | (simp only [Nat.add_eq]; omega)) rfl (vv_lt (pv 0) (vv_cons ve_int vv_nil))))))
    (vss_cons (vs_set (i := 4) nd rfl (Or.inl rfl) (ve_callTy call_tuple_of sr_tuple rfl z_tuple (by decide +kernel) (va_cons (VE.qq (ve_sortItems rfl hu (VE.qq (ve_callTy (call_dictA rfl) sr_dictA rfl z_dict (by decide +kernel) (va_cons (vq_at 4) va_nil))) rfl z_sorted (by decide +kernel))) va_nil)))
    (vss_cons (vs_if (vt_w (vw_and (vt_cmp (op_neG hu) sr_ne (vq_at 4) (VE.qq (ve_tup vp_nil)) (nomark _)) (vw_and1 (vt_cmp (op_eqG hu) sr_eq (VE.qq (ve_cal c_law_take hr (by first | omega | (simp only [Nat.add_eq]; omega)) rfl (vv_lt (pv 0) (vv_cons ve_int vv_nil)))) (VE.qq ve_int) (nomark _))))) (vss_one (vs_set (i := 3) nd rfl (Or.inl rfl) ve_str)) vss_nil)
    (vss_cons (vs_set (i := 5) nd rfl (Or.inl rfl) (ve_sub (vq_at 1) (VE.qq ve_int)))
    (vss_cons (vs_set (i := 6) nd rfl (Or.inl rfl) (ve_lst vp_nil))
    (vss_cons (vs_if (vt_w (vw_and (vt_val (ve_var 2)) (vw_and1 (vt_w (vw_or (vt_cmp op_ltA sr_ltA (vq_at 5) (VE.qq ve_int) (nomark _)) (vw_or1 (vt_cmp (op_eqG hu) sr_eq (VE.qq (ve_cal c_law_take hr (by first | omega | (simp only [Nat.add_eq]; omega)) rfl (vv_lt (pv 0) (vv_cons ve_int vv_nil)))) (VE.qq ve_int) (nomark _)))))))) (vss_one (vs_asg (ve_tup (vp_cons ve_str (vp_cons (ve_tup vp_nil) (vp_cons ve_bl vp_nil)))) (vg_tup rfl (vgs_cons (vg_name (i := 3) nd rfl (Or.inl rfl)) (vgs_cons (vg_name (i := 4) nd rfl (Or.inl rfl)) (vgs_cons (vg_name (i := 2) nd rfl (Or.inl rfl)) vgs_nil)))))) vss_nil)
    (vss_cons (vs_while PassesOwn.never (vt_w (vw_and (vt_cmp op_gt sr_gt (vq_at 5) (VE.qq ve_int) (nomark _)) (vw_and1 (vt_w (vw_or (vt_val (ve_var 2)) (vw_or1 (vt_cmp op_gt sr_gt (VE.qq (ve_cal c_law_take hr (by first | omega | (simp only [Nat.add_eq]; omega)) rfl (vv_lt (pv 0) (vv_cons ve_int vv_nil)))) (VE.qq ve_int) (nomark _)))))))) (vss_cons (vs_set (i := 7) nd rfl (Or.inl rfl) (ve_addL (VE.qq ve_int) (VE.qq (ve_cal c_law_take hr (by first | omega | (simp only [Nat.add_eq]; omega)) rfl (vv_lt (pv 0) (vv_cons (ve_var 5) vv_nil))))))
    (vss_cons (vs_set (i := 8) nd rfl (Or.inl rfl) (ve_cal c_law_meaning hr (by first | omega | (simp only [Nat.add_eq]; omega)) rfl (vv_lt (pv 0) (vv_cons (ve_var 7) (vv_cons (ve_var 2) vv_nil)))))
    (vss_cons (vs_set (i := 2) nd rfl (Or.inl rfl) ve_bl)
    (vss_cons (vs_set (i := 9) nd rfl (Or.inl rfl) (ve_ix hu1 (VE.qq (ve_lst (vp_cons ve_str (vp_cons ve_str (vp_cons ve_str (vp_cons ve_str (vp_cons ve_str vp_nil))))))) (VE.qq (ve_cal c_law_take hr (by first | omega | (simp only [Nat.add_eq]; omega)) rfl (vv_lt (pv 0) (vv_cons ve_int vv_nil))))))
    (vss_cons (vs_expr (ve_mut (by decide) PySem.F.plainAttrs_list PySem.F.slot_list_append PySem.F.type_list_append mt_append sr_append (pv 6) (vp_cons (ve_tup (vp_cons (ve_var 9) (vp_cons (ve_var 8) vp_nil))) vp_nil)))
    (vss_cons (vs_set (i := 5) nd rfl (Or.inl rfl) (ve_sub (vq_at 5) (VE.qq (ve_cal c_law_nodes hr (by first | omega | (simp only [Nat.add_eq]; omega)) rfl (vv_cons (ve_var 8) vv_nil)))))
    (vss_one (vs_if (vt_w (vw_and (vt_cmp op_ge sr_ge (vq_at 5) (VE.qq (ve_cal c_law_nodes hr (by first | omega | (simp only [Nat.add_eq]; omega)) rfl (vv_cons (ve_var 8) vv_nil))) (nomark _)) (vw_and (vt_cmp (op_eqG hu) sr_eq (VE.qq (ve_cal c_law_take hr (by first | omega | (simp only [Nat.add_eq]; omega)) rfl (vv_lt (pv 0) (vv_cons ve_int vv_nil)))) (VE.qq ve_int) (nomark _)) (vw_and1 (vt_not (vt_val (ve_cal c_law_holed hr (by first | omega | (simp only [Nat.add_eq]; omega)) rfl (vv_cons (ve_var 8) vv_nil)))))))) (vss_cons (vs_expr (ve_mut (by decide) PySem.F.plainAttrs_list PySem.F.slot_list_append PySem.F.type_list_append mt_append sr_append (pv 6) (vp_cons (ve_tup (vp_cons (ve_var 9) (vp_cons (ve_var 8) vp_nil))) vp_nil)))
    (vss_one (vs_set (i := 5) nd rfl (Or.inl rfl) (ve_sub (vq_at 5) (VE.qq (ve_cal c_law_nodes hr (by first | omega | (simp only [Nat.add_eq]; omega)) rfl (vv_cons (ve_var 8) vv_nil))))))) vss_nil)))))))))
    (vss_one (vs_ret (ve_tup (vp_cons (ve_var 3) (vp_cons (ve_var 4) (vp_cons (ve_callTy call_tuple_of sr_tuple rfl z_tuple (by decide +kernel) (va_cons (VE.qq (ve_callB (cr_sortA hu) sr_sortA rfl z_sorted (by decide +kernel) (va_cons (vq_at 6) va_nil))) va_nil)) vp_nil))))))))))))))⟩) (pu_law_meaning n)
set_option maxHeartbeats 20000000 in
theorem ok_law_right (F : Fun K "_law_right" "_law_right" s_law_right f fd) (c_with_pair : Callee P w K mg base "with_pair" 2 P_with_pair ct_with_pair) (c_nodes_of : Callee P w K mg base "nodes_of" 41 P_nodes_of (ct_nodes_of 40)) (c_law_nodes : Callee P w K mg base "_law_nodes" 1 P_law_nodes ct_law_nodes) (c_has_hole : Callee P w K mg base "has_hole" 42 P_has_hole (ct_has_hole 40)) (c_law_holed : Callee P w K mg base "_law_holed" 1 P_law_holed ct_law_holed) (c_law_take : Callee P w K mg base "_law_take" 2 P_law_take ct_law_take) (c_law_meaning : Callee P w K mg base "_law_meaning" 43 P_law_meaning (ct_law_meaning 40)) (z_len : mg "len" = none) (z_list : mg "list" = none) (z_sorted : mg "sorted" = none) (z_range : mg "range" = none) (z_isinstance : mg "isinstance" = none) (z_bool : mg "bool" = none) (z_tuple : mg "tuple" = none) : FnOk P w K mg base CX0 44 f fd P_law_right (spOf K ct_law_right) :=
  fn_ok ct_law_right F sc_law_right len_law_right rd_law_right (fun cdv A outer s H E hr => by
    have nd := sc_law_right.nd
    have hu := hr.units
    have hu1 : (A.deeper (envOfC "_law_right" (defScope s_law_right) s.heap.objs.size f cdv)).units + 1 < cLine := by omega
    unfold rd_law_right
    exact ⟨_, (vss_cons (vs_set (i := 1) nd rfl (Or.inl rfl) (ve_cal c_law_meaning hr (by decide) rfl (vv_lt (pv 0) (vv_cons (ve_addL (VE.qq ve_int) (VE.qq (ve_cal c_law_take hr (by decide) rfl (vv_lt (pv 0) (vv_cons ve_int vv_nil))))) (vv_cons (ve_cmp (op_eqG hu) sr_eq (VE.qq (ve_cal c_law_take hr (by decide) rfl (vv_lt (pv 0) (vv_cons ve_int vv_nil)))) (VE.qq ve_int) (nomark _)) vv_nil)))))
    (vss_cons (vs_set (i := 2) nd rfl (Or.inl rfl) (ve_cal c_law_meaning hr (by decide) rfl (vv_lt (pv 0) (vv_cons (ve_addL (VE.qq ve_int) (VE.qq (ve_cal c_law_take hr (by decide) rfl (vv_lt (pv 0) (vv_cons ve_int vv_nil))))) (vv_cons (ve_cmp (op_eqG hu) sr_eq (VE.qq (ve_cal c_law_take hr (by decide) rfl (vv_lt (pv 0) (vv_cons ve_int vv_nil)))) (VE.qq ve_int) (nomark _)) vv_nil)))))
    (vss_cons (vs_set (i := 3) nd rfl (Or.inl rfl) (ve_ix hu1 (VE.qq (ve_lst (vp_cons ve_str (vp_cons ve_str (vp_cons ve_str (vp_cons ve_str (vp_cons ve_str (vp_cons ve_str vp_nil)))))))) (VE.qq (ve_cal c_law_take hr (by decide) rfl (vv_lt (pv 0) (vv_cons ve_int vv_nil))))))
    (vss_cons (vs_set (i := 4) nd rfl (Or.inl rfl) (ve_tup (vp_cons (ve_ix hu1 (vq_at 1) (VE.qq ve_int)) (vp_cons (ve_ix hu1 (vq_at 1) (VE.qq ve_int)) (vp_cons (ve_callTy call_tuple_of sr_tuple rfl z_tuple (by decide +kernel) (va_cons (VE.qq (ve_callB (cr_sortA hu) sr_sortA rfl z_sorted (by decide +kernel) (va_cons (VE.qq (ve_addL (VE.qq (ve_lst (vp_cons (ve_tup (vp_cons (ve_var 3) (vp_cons (ve_var 2) vp_nil))) vp_nil))) (VE.qq (ve_callTy (call_listA rfl) sr_list rfl z_list (by decide +kernel) (va_cons (VE.qq (ve_ix hu1 (vq_at 1) (VE.qq ve_int))) va_nil))))) va_nil))) va_nil)) vp_nil)))))
    (vss_cons (vs_for PassesOwn.never rfl (vi_range1 rfl z_range (vp_cons ve_int vp_nil)) (vg_name (i := 5) nd rfl (Or.inl rfl)) (vss_cons (vs_if (vt_w (vw_or (vt_cmp (op_neG hu) sr_ne (VE.qq (ve_cal c_nodes_of hr (by decide) rfl (vv_cons (ve_var 1) vv_nil))) (VE.qq (ve_cal c_law_nodes hr (by decide) rfl (vv_cons (ve_var 1) vv_nil))) (nomark _)) (vw_or (vt_val (ve_isi rfl z_isinstance (VE.qq (ve_cal c_nodes_of hr (by decide) rfl (vv_cons (ve_var 1) vv_nil))) rfl z_bool (by decide +kernel))) (vw_or1 (vt_cmp (op_neG hu) sr_ne (VE.qq (ve_cal c_with_pair hr (by decide) rfl (vv_cons (ve_var 1) (vv_cons (ve_var 3) (vv_cons (ve_var 2) vv_nil))))) (vq_at 4) (nomark _)))))) (vss_one (vs_ret ve_bl)) vss_nil)
    (vss_one (vs_for PassesOwn.never rfl (vi_list (ve_lst (vp_cons (ve_var 1) (vp_cons (ve_var 2) (vp_cons (ve_var 4) vp_nil))))) (vg_name (i := 6) nd rfl (Or.inl rfl)) (vss_one (vs_if (vt_w (vw_or (vt_not (vt_val (ve_isi rfl z_isinstance (VE.qq (ve_cal c_has_hole hr (by decide) rfl (vv_cons (ve_var 6) vv_nil))) rfl z_bool (by decide +kernel)))) (vw_or1 (vt_cmp (op_neG hu) sr_ne (VE.qq (ve_cal c_has_hole hr (by decide) rfl (vv_cons (ve_var 6) vv_nil))) (VE.qq (ve_cal c_law_holed hr (by decide) rfl (vv_cons (ve_var 6) vv_nil))) (nomark _))))) (vss_one (vs_ret ve_bl)) vss_nil))))))
    (vss_cons (vs_if (vt_cmp (op_neG hu) sr_ne (VE.qq (ve_cal c_nodes_of hr (by decide) rfl (vv_cons (VE.pu (ve_cal c_with_pair hr (by decide) rfl (vv_cons (ve_var 1) (vv_cons (ve_var 3) (vv_cons (ve_var 2) vv_nil))))) vv_nil))) (VE.qq (ve_addL (VE.qq (ve_cal c_law_nodes hr (by decide) rfl (vv_cons (ve_var 1) vv_nil))) (VE.qq (ve_cal c_law_nodes hr (by decide) rfl (vv_cons (ve_var 2) vv_nil))))) (nomark _)) (vss_one (vs_ret ve_bl)) vss_nil)
    (vss_cons (vs_set (i := 7) nd rfl (Or.inl rfl) (ve_cal c_with_pair hr (by decide) rfl (vv_cons (ve_var 4) (vv_cons (ve_var 3) (vv_cons (ve_var 2) vv_nil)))))
    (vss_one (vs_ret (ve_and (ve_cmp (op_eqG hu) sr_eq (VE.qq (ve_callB call_lenA sr_len rfl z_len (by decide +kernel) (va_cons (VE.qq (VE.wk (ve_ix hu1 (vq_at 7) (VE.qq ve_int)))) va_nil))) (VE.qq (ve_addL (VE.qq (ve_callB call_lenA sr_len rfl z_len (by decide +kernel) (va_cons (VE.qq (ve_ix hu1 (vq_at 1) (VE.qq ve_int))) va_nil))) (VE.qq ve_int))) (nomark _)) (ve_and (ve_cmp (op_eqG hu) sr_eq (VE.qq (ve_callTy (call_listA rfl) sr_list rfl z_list (by decide +kernel) (va_cons (VE.qq (VE.wk (ve_ix hu1 (vq_at 7) (VE.qq ve_int)))) va_nil))) (VE.qq (ve_callB (cr_sortA hu) sr_sortA rfl z_sorted (by decide +kernel) (va_cons (VE.qq (VE.wk (ve_ix hu1 (vq_at 7) (VE.qq ve_int)))) va_nil))) (nomark _)) (ve_one (ve_cmp op_gt sr_gt (VE.qq (ve_mtT PySem.F.plainAttrs_tuple PySem.F.slot_tuple_count PySem.F.type_tuple_count (mt_countT hu) sr_countTN (VE.qq (ve_ix hu1 (vq_at 7) (VE.qq ve_int))) (va_cons (VE.qq (ve_tup (vp_cons (ve_var 3) (vp_cons (ve_var 2) vp_nil)))) va_nil))) (VE.qq ve_int) (nomark _))))))))))))))⟩) pu_law_right
set_option maxHeartbeats 20000000 in
theorem ok_law (F : Fun K "law" "law" s_law f fd) (c_law_right : Callee P w K mg base "_law_right" 44 P_law_right ct_law_right) (c_law_box : Callee P w K mg base "_law_box" 2 P_law_box ct_law_box) (c_nodes_of : Callee P w K mg base "nodes_of" 41 P_nodes_of (ct_nodes_of 40)) (c_has_hole : Callee P w K mg base "has_hole" 42 P_has_hole (ct_has_hole 40)) (z_len : mg "len" = none) (z_min : mg "min" = none) (z_range : mg "range" = none) : FnOk P w K mg base CX0 45 f fd P_law (spOf K ct_law) :=
  fn_ok ct_law F sc_law len_law rd_law (fun cdv A outer s H E hr => by
    have nd := sc_law.nd
    have hu := hr.units
    have hu1 : (A.deeper (envOfC "law" (defScope s_law) s.heap.objs.size f cdv)).units + 1 < cLine := by omega
    unfold rd_law
    exact ⟨_, (vss_cons (vs_if (vt_w (vw_or (vt_cmp (op_neG hu) sr_ne (VE.qq (ve_cal c_nodes_of hr (by decide) rfl (vv_cons (ve_tup (vp_cons ve_str (vp_cons (ve_tup vp_nil) (vp_cons (ve_tup vp_nil) vp_nil)))) vv_nil))) (VE.qq ve_int) (nomark _)) (vw_or (vt_isNotB (VE.qq (ve_cal c_has_hole hr (by decide) rfl (vv_cons (ve_tup (vp_cons ve_str (vp_cons (ve_tup vp_nil) (vp_cons (ve_tup vp_nil) vp_nil)))) vv_nil)))) (vw_or1 (vt_isNotB (VE.qq (ve_cal c_has_hole hr (by decide) rfl (vv_cons (ve_tup (vp_cons ve_str (vp_cons (ve_tup vp_nil) (vp_cons (ve_tup vp_nil) vp_nil)))) vv_nil)))))))) (vss_one (vs_ret ve_bl)) vss_nil)
    (vss_cons (vs_for PassesOwn.never rfl (vi_range1 rfl z_range (vp_cons (ve_addL (VE.qq ve_int) (VE.qq (ve_callB (call_min2 rfl) sr_min2 rfl z_min (by decide +kernel) (va_cons (VE.qq ve_int) (va_cons (VE.qq (ve_callB call_lenA sr_len rfl z_len (by decide +kernel) (va_cons (vq_at 0) va_nil))) va_nil))))) vp_nil)) (vg_name (i := 1) nd rfl (Or.inl rfl)) (vss_one (vs_if (vt_not (vt_val (ve_cal c_law_right hr (by decide) rfl (vv_cons (ve_cal c_law_box hr (by decide) rfl (vv_cons (ve_var 0) (vv_cons (ve_var 1) vv_nil))) vv_nil)))) (vss_one (vs_ret ve_bl)) vss_nil)))
    (vss_one (vs_ret ve_bl))))⟩) pu_law
end
theorem all_mk {l : PySem.W.OpenLaw} {w : World} {K : PySem.W.Frag} {h : Heap} {mg : Str → Option Value} {fa f1 f2 f3 f4 f5 f6 f7 f8 f9 f10 f11 f12 f13 f14 : Addr} (X : K.In h) (G : h.Ns mainGlobals mg) (hfa : mg "law" = some (.ref fa))
    {od1 an1 od2 an2 od3 an3 od4 an4 od5 an5 od6 an6 od7 an7 od8 an8 od9 an9 od10 an10 od11 an11 od12 an12 od13 an13 od14 an14 : Option Addr} {sl1 sl2 sl3 sl4 sl5 sl6 sl7 sl8 sl9 sl10 sl11 sl12 sl13 sl14 : Array (Option Value)} {oc1 kV1 dc1 pm1 cd1 ct1 oc2 kV2 dc2 pm2 cd2 ct2 oc3 kV3 dc3 pm3 cd3 ct3 oc4 kV4 dc4 pm4 cd4 ct4 oc5 kV5 dc5 pm5 cd5 ct5 oc6 kV6 dc6 pm6 cd6 ct6 oc7 kV7 dc7 pm7 cd7 ct7 oc8 kV8 dc8 pm8 cd8 ct8 oc9 kV9 dc9 pm9 cd9 ct9 oc10 kV10 dc10 pm10 cd10 ct10 oc11 kV11 dc11 pm11 cd11 ct11 oc12 kV12 dc12 pm12 cd12 ct12 oc13 kV13 dc13 pm13 cd13 ct13 oc14 kV14 dc14 pm14 cd14 ct14 : Value}
    (a1 : PySem.W.nsIn K mainGlobals "is_hole" = some (some (.ref f1))) (l1 : K.lookup f1 = some ⟨oc1, od1, .func (PySem.W.fnOf "is_hole" "is_hole" (defArgs s_is_hole) (defBody s_is_hole) (defScope s_is_hole) .none kV1 dc1 pm1 an1 cd1 ct1), sl1⟩) (c1 : PySem.W.codeIn K cd1 "is_hole" = true) (k1 : PySem.W.keepIn K (.ref f1) = true)
    (a2 : PySem.W.nsIn K mainGlobals "nodes_of" = some (some (.ref f2))) (l2 : K.lookup f2 = some ⟨oc2, od2, .func (PySem.W.fnOf "nodes_of" "nodes_of" (defArgs s_nodes_of) (defBody s_nodes_of) (defScope s_nodes_of) .none kV2 dc2 pm2 an2 cd2 ct2), sl2⟩) (c2 : PySem.W.codeIn K cd2 "nodes_of" = true) (k2 : PySem.W.keepIn K (.ref f2) = true)
    (a3 : PySem.W.nsIn K mainGlobals "has_hole" = some (some (.ref f3))) (l3 : K.lookup f3 = some ⟨oc3, od3, .func (PySem.W.fnOf "has_hole" "has_hole" (defArgs s_has_hole) (defBody s_has_hole) (defScope s_has_hole) .none kV3 dc3 pm3 an3 cd3 ct3), sl3⟩) (c3 : PySem.W.codeIn K cd3 "has_hole" = true) (k3 : PySem.W.keepIn K (.ref f3) = true)
    (a4 : PySem.W.nsIn K mainGlobals "with_pairs" = some (some (.ref f4))) (l4 : K.lookup f4 = some ⟨oc4, od4, .func (PySem.W.fnOf "with_pairs" "with_pairs" (defArgs s_with_pairs) (defBody s_with_pairs) (defScope s_with_pairs) .none kV4 dc4 pm4 an4 cd4 ct4), sl4⟩) (c4 : PySem.W.codeIn K cd4 "with_pairs" = true) (k4 : PySem.W.keepIn K (.ref f4) = true)
    (a5 : PySem.W.nsIn K mainGlobals "with_pair" = some (some (.ref f5))) (l5 : K.lookup f5 = some ⟨oc5, od5, .func (PySem.W.fnOf "with_pair" "with_pair" (defArgs s_with_pair) (defBody s_with_pair) (defScope s_with_pair) .none kV5 dc5 pm5 an5 cd5 ct5), sl5⟩) (c5 : PySem.W.codeIn K cd5 "with_pair" = true) (k5 : PySem.W.keepIn K (.ref f5) = true)
    (a6 : PySem.W.nsIn K mainGlobals "_law_cell_at" = some (some (.ref f6))) (l6 : K.lookup f6 = some ⟨oc6, od6, .func (PySem.W.fnOf "_law_cell_at" "_law_cell_at" (defArgs s_law_cell_at) (defBody s_law_cell_at) (defScope s_law_cell_at) .none kV6 dc6 pm6 an6 cd6 ct6), sl6⟩) (c6 : PySem.W.codeIn K cd6 "_law_cell_at" = true) (k6 : PySem.W.keepIn K (.ref f6) = true)
    (a7 : PySem.W.nsIn K mainGlobals "_law_mixed" = some (some (.ref f7))) (l7 : K.lookup f7 = some ⟨oc7, od7, .func (PySem.W.fnOf "_law_mixed" "_law_mixed" (defArgs s_law_mixed) (defBody s_law_mixed) (defScope s_law_mixed) .none kV7 dc7 pm7 an7 cd7 ct7), sl7⟩) (c7 : PySem.W.codeIn K cd7 "_law_mixed" = true) (k7 : PySem.W.keepIn K (.ref f7) = true)
    (a8 : PySem.W.nsIn K mainGlobals "_law_box" = some (some (.ref f8))) (l8 : K.lookup f8 = some ⟨oc8, od8, .func (PySem.W.fnOf "_law_box" "_law_box" (defArgs s_law_box) (defBody s_law_box) (defScope s_law_box) .none kV8 dc8 pm8 an8 cd8 ct8), sl8⟩) (c8 : PySem.W.codeIn K cd8 "_law_box" = true) (k8 : PySem.W.keepIn K (.ref f8) = true)
    (a9 : PySem.W.nsIn K mainGlobals "_law_take" = some (some (.ref f9))) (l9 : K.lookup f9 = some ⟨oc9, od9, .func (PySem.W.fnOf "_law_take" "_law_take" (defArgs s_law_take) (defBody s_law_take) (defScope s_law_take) .none kV9 dc9 pm9 an9 cd9 ct9), sl9⟩) (c9 : PySem.W.codeIn K cd9 "_law_take" = true) (k9 : PySem.W.keepIn K (.ref f9) = true)
    (a10 : PySem.W.nsIn K mainGlobals "_law_meaning" = some (some (.ref f10))) (l10 : K.lookup f10 = some ⟨oc10, od10, .func (PySem.W.fnOf "_law_meaning" "_law_meaning" (defArgs s_law_meaning) (defBody s_law_meaning) (defScope s_law_meaning) .none kV10 dc10 pm10 an10 cd10 ct10), sl10⟩) (c10 : PySem.W.codeIn K cd10 "_law_meaning" = true) (k10 : PySem.W.keepIn K (.ref f10) = true)
    (a11 : PySem.W.nsIn K mainGlobals "_law_nodes" = some (some (.ref f11))) (l11 : K.lookup f11 = some ⟨oc11, od11, .func (PySem.W.fnOf "_law_nodes" "_law_nodes" (defArgs s_law_nodes) (defBody s_law_nodes) (defScope s_law_nodes) .none kV11 dc11 pm11 an11 cd11 ct11), sl11⟩) (c11 : PySem.W.codeIn K cd11 "_law_nodes" = true) (k11 : PySem.W.keepIn K (.ref f11) = true)
    (a12 : PySem.W.nsIn K mainGlobals "_law_holed" = some (some (.ref f12))) (l12 : K.lookup f12 = some ⟨oc12, od12, .func (PySem.W.fnOf "_law_holed" "_law_holed" (defArgs s_law_holed) (defBody s_law_holed) (defScope s_law_holed) .none kV12 dc12 pm12 an12 cd12 ct12), sl12⟩) (c12 : PySem.W.codeIn K cd12 "_law_holed" = true) (k12 : PySem.W.keepIn K (.ref f12) = true)
    (a13 : PySem.W.nsIn K mainGlobals "_law_right" = some (some (.ref f13))) (l13 : K.lookup f13 = some ⟨oc13, od13, .func (PySem.W.fnOf "_law_right" "_law_right" (defArgs s_law_right) (defBody s_law_right) (defScope s_law_right) .none kV13 dc13 pm13 an13 cd13 ct13), sl13⟩) (c13 : PySem.W.codeIn K cd13 "_law_right" = true) (k13 : PySem.W.keepIn K (.ref f13) = true)
    (a14 : PySem.W.nsIn K mainGlobals "law" = some (some (.ref f14))) (l14 : K.lookup f14 = some ⟨oc14, od14, .func (PySem.W.fnOf "law" "law" (defArgs s_law) (defBody s_law) (defScope s_law) .none kV14 dc14 pm14 an14 cd14 ct14), sl14⟩) (c14 : PySem.W.codeIn K cd14 "law" = true) (k14 : PySem.W.keepIn K (.ref f14) = true)
    (z_sum : PySem.W.nsIn K mainGlobals "sum" = some none)
    (z_any : PySem.W.nsIn K mainGlobals "any" = some none)
    (z_tuple : PySem.W.nsIn K mainGlobals "tuple" = some none)
    (z_sorted : PySem.W.nsIn K mainGlobals "sorted" = some none)
    (z_len : PySem.W.nsIn K mainGlobals "len" = some none)
    (z_abs : PySem.W.nsIn K mainGlobals "abs" = some none)
    (z_int : PySem.W.nsIn K mainGlobals "int" = some none)
    (z_dict : PySem.W.nsIn K mainGlobals "dict" = some none)
    (z_list : PySem.W.nsIn K mainGlobals "list" = some none)
    (z_range : PySem.W.nsIn K mainGlobals "range" = some none)
    (z_isinstance : PySem.W.nsIn K mainGlobals "isinstance" = some none)
    (z_bool : PySem.W.nsIn K mainGlobals "bool" = some none)
    (z_min : PySem.W.nsIn K mainGlobals "min" = some none)
    : ∃ fd : FuncData, (∀ (s : Shared) (v : Value), BindsTo s fd ⟨[v], []⟩ [("_law_script", v)]) ∧ ∀ base : Heap, K.In base → base.Ns mainGlobals mg → FnOk l.prog w K mg base CX0 45 fa fd ["_law_script"] (spLaw K) := by
  have e := hfa.symm.trans (PySem.W.mg_of X G a14)
  cases e
  have z_sum := PySem.W.mg_none_of X G z_sum
  have z_any := PySem.W.mg_none_of X G z_any
  have z_tuple := PySem.W.mg_none_of X G z_tuple
  have z_sorted := PySem.W.mg_none_of X G z_sorted
  have z_len := PySem.W.mg_none_of X G z_len
  have z_abs := PySem.W.mg_none_of X G z_abs
  have z_int := PySem.W.mg_none_of X G z_int
  have z_dict := PySem.W.mg_none_of X G z_dict
  have z_list := PySem.W.mg_none_of X G z_list
  have z_range := PySem.W.mg_none_of X G z_range
  have z_isinstance := PySem.W.mg_none_of X G z_isinstance
  have z_bool := PySem.W.mg_none_of X G z_bool
  have z_min := PySem.W.mg_none_of X G z_min
  have F1 := fun_mk (st := s_is_hole) l1 c1 k1
  have b1 := F1.binds (ps := P_is_hole) fun _ _ _ _ _ _ us hl => match us, hl with | [_], _ => rfl
  have F2 := fun_mk (st := s_nodes_of) l2 c2 k2
  have b2 := F2.binds (ps := P_nodes_of) fun _ _ _ _ _ _ us hl => match us, hl with | [_], _ => rfl
  have F3 := fun_mk (st := s_has_hole) l3 c3 k3
  have b3 := F3.binds (ps := P_has_hole) fun _ _ _ _ _ _ us hl => match us, hl with | [_], _ => rfl
  have F4 := fun_mk (st := s_with_pairs) l4 c4 k4
  have b4 := F4.binds (ps := P_with_pairs) fun _ _ _ _ _ _ us hl => match us, hl with | [_, _], _ => rfl
  have F5 := fun_mk (st := s_with_pair) l5 c5 k5
  have b5 := F5.binds (ps := P_with_pair) fun _ _ _ _ _ _ us hl => match us, hl with | [_, _, _], _ => rfl
  have F6 := fun_mk (st := s_law_cell_at) l6 c6 k6
  have b6 := F6.binds (ps := P_law_cell_at) fun _ _ _ _ _ _ us hl => match us, hl with | [_, _], _ => rfl
  have F7 := fun_mk (st := s_law_mixed) l7 c7 k7
  have b7 := F7.binds (ps := P_law_mixed) fun _ _ _ _ _ _ us hl => match us, hl with | [_, _], _ => rfl
  have F8 := fun_mk (st := s_law_box) l8 c8 k8
  have b8 := F8.binds (ps := P_law_box) fun _ _ _ _ _ _ us hl => match us, hl with | [_, _], _ => rfl
  have F9 := fun_mk (st := s_law_take) l9 c9 k9
  have b9 := F9.binds (ps := P_law_take) fun _ _ _ _ _ _ us hl => match us, hl with | [_, _], _ => rfl
  have F10 := fun_mk (st := s_law_meaning) l10 c10 k10
  have b10 := F10.binds (ps := P_law_meaning) fun _ _ _ _ _ _ us hl => match us, hl with | [_, _, _], _ => rfl
  have F11 := fun_mk (st := s_law_nodes) l11 c11 k11
  have b11 := F11.binds (ps := P_law_nodes) fun _ _ _ _ _ _ us hl => match us, hl with | [_], _ => rfl
  have F12 := fun_mk (st := s_law_holed) l12 c12 k12
  have b12 := F12.binds (ps := P_law_holed) fun _ _ _ _ _ _ us hl => match us, hl with | [_], _ => rfl
  have F13 := fun_mk (st := s_law_right) l13 c13 k13
  have b13 := F13.binds (ps := P_law_right) fun _ _ _ _ _ _ us hl => match us, hl with | [_], _ => rfl
  have F14 := fun_mk (st := s_law) l14 c14 k14
  refine ⟨PySem.W.fnOf "law" "law" (defArgs s_law) (defBody s_law) (defScope s_law) .none kV14 dc14 pm14 an14 cd14 ct14, fun s v => .of_eq rfl, fun base _ _ => ?_⟩
  have c_is_hole : Callee l.prog w K mg base "is_hole" 1 P_is_hole ct_is_hole := ⟨f1, _, ok_is_hole F1  , PySem.W.mg_of X G a1, k1, b1⟩
  have r_nodes_of : ∀ n, FnOk l.prog w K mg base CX0 (1 + n) f2 (PySem.W.fnOf "nodes_of" "nodes_of" (defArgs s_nodes_of) (defBody s_nodes_of) (defScope s_nodes_of) .none kV2 dc2 pm2 an2 cd2 ct2) P_nodes_of (spOf K (ct_nodes_of n)) := fun n => by
    induction n with
    | zero => exact fn_no F2 sc_nodes_of no_nodes_of
    | succ n c_nodes_of =>
      have c_nodes_of : Callee l.prog w K mg base "nodes_of" (1 + n) P_nodes_of (ct_nodes_of n) := ⟨f2, _, c_nodes_of, PySem.W.mg_of X G a2, k2, b2⟩
      exact ok_nodes_of n F2 c_nodes_of z_sum
  have c_nodes_of : Callee l.prog w K mg base "nodes_of" 41 P_nodes_of (ct_nodes_of 40) := ⟨f2, _, r_nodes_of 40, PySem.W.mg_of X G a2, k2, b2⟩
  have r_has_hole : ∀ n, FnOk l.prog w K mg base CX0 (2 + n) f3 (PySem.W.fnOf "has_hole" "has_hole" (defArgs s_has_hole) (defBody s_has_hole) (defScope s_has_hole) .none kV3 dc3 pm3 an3 cd3 ct3) P_has_hole (spOf K (ct_has_hole n)) := fun n => by
    induction n with
    | zero => exact fn_no F3 sc_has_hole no_has_hole
    | succ n c_has_hole =>
      have c_has_hole : Callee l.prog w K mg base "has_hole" (2 + n) P_has_hole (ct_has_hole n) := ⟨f3, _, c_has_hole, PySem.W.mg_of X G a3, k3, b3⟩
      exact ok_has_hole n F3 c_is_hole c_has_hole z_any
  have c_has_hole : Callee l.prog w K mg base "has_hole" 42 P_has_hole (ct_has_hole 40) := ⟨f3, _, r_has_hole 40, PySem.W.mg_of X G a3, k3, b3⟩
  have c_with_pairs : Callee l.prog w K mg base "with_pairs" 1 P_with_pairs ct_with_pairs := ⟨f4, _, ok_with_pairs F4  z_tuple z_sorted, PySem.W.mg_of X G a4, k4, b4⟩
  have c_with_pair : Callee l.prog w K mg base "with_pair" 2 P_with_pair ct_with_pair := ⟨f5, _, ok_with_pair F5 c_with_pairs , PySem.W.mg_of X G a5, k5, b5⟩
  have c_law_cell_at : Callee l.prog w K mg base "_law_cell_at" 1 P_law_cell_at ct_law_cell_at := ⟨f6, _, ok_law_cell_at F6  z_len, PySem.W.mg_of X G a6, k6, b6⟩
  have c_law_mixed : Callee l.prog w K mg base "_law_mixed" 1 P_law_mixed ct_law_mixed := ⟨f7, _, ok_law_mixed F7  , PySem.W.mg_of X G a7, k7, b7⟩
  have c_law_box : Callee l.prog w K mg base "_law_box" 2 P_law_box ct_law_box := ⟨f8, _, ok_law_box F8 c_law_mixed c_law_cell_at z_abs z_int, PySem.W.mg_of X G a8, k8, b8⟩
  have c_law_take : Callee l.prog w K mg base "_law_take" 2 P_law_take ct_law_take := ⟨f9, _, ok_law_take F9 c_law_mixed , PySem.W.mg_of X G a9, k9, b9⟩
  have c_law_nodes : Callee l.prog w K mg base "_law_nodes" 1 P_law_nodes ct_law_nodes := ⟨f11, _, ok_law_nodes F11  , PySem.W.mg_of X G a11, k11, b11⟩
  have c_law_holed : Callee l.prog w K mg base "_law_holed" 1 P_law_holed ct_law_holed := ⟨f12, _, ok_law_holed F12  , PySem.W.mg_of X G a12, k12, b12⟩
  have r_law_meaning : ∀ n, FnOk l.prog w K mg base CX0 (3 + n) f10 (PySem.W.fnOf "_law_meaning" "_law_meaning" (defArgs s_law_meaning) (defBody s_law_meaning) (defScope s_law_meaning) .none kV10 dc10 pm10 an10 cd10 ct10) P_law_meaning (spOf K (ct_law_meaning n)) := fun n => by
    induction n with
    | zero => exact fn_no F10 sc_law_meaning no_law_meaning
    | succ n c_law_meaning =>
      have c_law_meaning : Callee l.prog w K mg base "_law_meaning" (3 + n) P_law_meaning (ct_law_meaning n) := ⟨f10, _, c_law_meaning, PySem.W.mg_of X G a10, k10, b10⟩
      exact ok_law_meaning n F10 c_law_take c_law_nodes c_law_holed c_law_meaning z_sorted z_tuple z_dict
  have c_law_meaning : Callee l.prog w K mg base "_law_meaning" 43 P_law_meaning (ct_law_meaning 40) := ⟨f10, _, r_law_meaning 40, PySem.W.mg_of X G a10, k10, b10⟩
  have c_law_right : Callee l.prog w K mg base "_law_right" 44 P_law_right ct_law_right := ⟨f13, _, ok_law_right F13 c_with_pair c_nodes_of c_law_nodes c_has_hole c_law_holed c_law_take c_law_meaning z_len z_list z_sorted z_range z_isinstance z_bool z_tuple, PySem.W.mg_of X G a13, k13, b13⟩
  exact law_of (ok_law F14 c_law_right c_law_box c_nodes_of c_has_hole z_len z_min z_range)
end Lw
open PySem PySem.W PyProof.Rows
set_option maxRecDepth 100000 in
set_option maxHeartbeats 0 in
theorem PySem.Challenge.cw_speechloom_k23_meanings_counted_and_pair_holds : PySem.Challenge.rw_speechloom_k23_meanings_counted_and_pair.Holds := by
  w_on; o_law; k_head; (case hw => w_witness2)
  k_fill
  refine L2.walk_of (l := PySem.Challenge.rw_speechloom_k23_meanings_counted_and_pair) (n := 63) (k := 45) (x := "_law_script") (CX := fun _ => L2.CX0) (sp := fun w => Vl.spLaw _) rfl (by decide) rfl ⟨rfl, by decide, by decide⟩ (fun w h Y => PySem.W.kIn_of Y) ?F (fun _ _ a ns hl _ hS => ⟨a, ns, rfl, hS, hl, fun _ => rfl⟩) (fun _ _ _ _ _ h => h)
  case F =>
    intro w mg fa h KX G hmg
    refine' Lw.all_mk KX G hmg ?a1 ?l1 ?c1 ?k1 ?a2 ?l2 ?c2 ?k2 ?a3 ?l3 ?c3 ?k3 ?a4 ?l4 ?c4 ?k4 ?a5 ?l5 ?c5 ?k5 ?a6 ?l6 ?c6 ?k6 ?a7 ?l7 ?c7 ?k7 ?a8 ?l8 ?c8 ?k8 ?a9 ?l9 ?c9 ?k9 ?a10 ?l10 ?c10 ?k10 ?a11 ?l11 ?c11 ?k11 ?a12 ?l12 ?c12 ?k12 ?a13 ?l13 ?c13 ?k13 ?a14 ?l14 ?c14 ?k14 ?z_sum ?z_any ?z_tuple ?z_sorted ?z_len ?z_abs ?z_int ?z_dict ?z_list ?z_range ?z_isinstance ?z_bool ?z_min
    (case a1 => k_is); (case l1 => k_is); (case c1 => k_is); (case k1 => k_is)
    (case a2 => k_is); (case l2 => k_is); (case c2 => k_is); (case k2 => k_is)
    (case a3 => k_is); (case l3 => k_is); (case c3 => k_is); (case k3 => k_is)
    (case a4 => k_is); (case l4 => k_is); (case c4 => k_is); (case k4 => k_is)
    (case a5 => k_is); (case l5 => k_is); (case c5 => k_is); (case k5 => k_is)
    (case a6 => k_is); (case l6 => k_is); (case c6 => k_is); (case k6 => k_is)
    (case a7 => k_is); (case l7 => k_is); (case c7 => k_is); (case k7 => k_is)
    (case a8 => k_is); (case l8 => k_is); (case c8 => k_is); (case k8 => k_is)
    (case a9 => k_is); (case l9 => k_is); (case c9 => k_is); (case k9 => k_is)
    (case a10 => k_is); (case l10 => k_is); (case c10 => k_is); (case k10 => k_is)
    (case a11 => k_is); (case l11 => k_is); (case c11 => k_is); (case k11 => k_is)
    (case a12 => k_is); (case l12 => k_is); (case c12 => k_is); (case k12 => k_is)
    (case a13 => k_is); (case l13 => k_is); (case c13 => k_is); (case k13 => k_is)
    (case a14 => k_is); (case l14 => k_is); (case c14 => k_is); (case k14 => k_is)
    (case z_sum => k_is)
    (case z_any => k_is)
    (case z_tuple => k_is)
    (case z_sorted => k_is)
    (case z_len => k_is)
    (case z_abs => k_is)
    (case z_int => k_is)
    (case z_dict => k_is)
    (case z_list => k_is)
    (case z_range => k_is)
    (case z_isinstance => k_is)
    (case z_bool => k_is)
    (case z_min => k_is)
#print axioms PySem.Challenge.cw_speechloom_k23_meanings_counted_and_pair_holds
