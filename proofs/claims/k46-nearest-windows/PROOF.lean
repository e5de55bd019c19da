import PyProof.Rows.All
import Wide.All
import OpenK.AllK
import Wide.FinOn
import HandS.ForMost
import HandS.Walk
import HandS.Exc
import HandS.CallSlots
import HandS.WordsExc
import HandS.TupAny
import HandS.IsInst
import HandS.Deep
import HandS.TupLe
import HandS.Style
import HandS.Defaults
import HandS.MakeKwOnly
import HandS.Property
import HandS.HeadEnd
import HandS.Ends
import Lean
import HandS.Head0
import HandS.Head1
import HandS.Head2
import HandS.HeadHook1
import HandS.HeadHook2
import HandS.Comp
import PySem.Challenge.RW_statusrules_k46_nearest_windows
set_option Elab.async false
set_option autoImplicit false
set_option linter.all false
set_option maxHeartbeats 4000000
set_option maxRecDepth 100000
namespace Sr
open PySem PySem.Spec L2
inductive D where
  | non
  | bl (b : Bool)
  | int (i : Int)
  | str (x : Str)
  | byt (b : Array UInt8)
  | lst (xs : List D)
  | tup (xs : List D)
  | dk (kvs : List (Key × D))
  | dt (kvs : List (List Key × D))
  | obj (c : Str) (fs : List (Str × D))
  | scr (ns : List Int)
instance : Inhabited D := ⟨.non⟩
section
variable (K : PySem.W.Frag) (mg : Str → Option Value) (F : Hp)
mutual
def Rp : D → V → Prop
  | .non, v => v = .non
  | .bl b, v => v = .bl b
  | .int i, v => v = .int i
  | .str x, v => v = .str x
  | .byt b, v => v = .byt b
  | .lst ds, v => ∃ a xs, v = .ref a ∧ F a = some (.lst xs) ∧ RpL ds xs
  | .tup ds, v => ∃ a xs, v = .ref a ∧ SqT K F a xs ∧ RpL ds xs
  | .dk kvs, v => ∃ a ys, v = .ref a ∧ F a = some (.dK ys) ∧ RpK kvs ys
  | .dt kvs, v => ∃ a ys, v = .ref a ∧ F a = some (.dT ys) ∧ RpT kvs ys
  | .obj c fs, v => ∃ a C dx gs, v = .ref a ∧ mg c = some (.ref C) ∧ F a = some (.ins C dx gs) ∧ RpF fs gs
  | .scr ns, v => ∃ a, v = .ref a ∧ SqL K F a (ns.map V.int)
def RpL : List D → List V → Prop
  | [], xs => xs = []
  | d :: ds, xs => ∃ v vs, xs = v :: vs ∧ Rp d v ∧ RpL ds vs
def RpK : List (Key × D) → List (Key × V) → Prop
  | [], xs => xs = []
  | (k, d) :: ds, xs => ∃ v vs, xs = (k, v) :: vs ∧ Rp d v ∧ RpK ds vs
def RpT : List (List Key × D) → List (List Key × V) → Prop
  | [], xs => xs = []
  | (k, d) :: ds, xs => ∃ v vs, xs = (k, v) :: vs ∧ Rp d v ∧ RpT ds vs
def RpF : List (Str × D) → List (Str × V) → Prop
  | [], xs => xs = []
  | (k, d) :: ds, xs => ∃ v vs, xs = (k, v) :: vs ∧ Rp d v ∧ RpF ds vs
end
end
theorem seqT_mono {K : PySem.W.Frag} {H H' : Hp} {a : Addr} {xs : List V} (e : Same H H') (h : SqT K H a xs) : SqT K H' a xs := by
  rcases h with (h | ⟨o, h⟩) | h
  · exact .inl (.inl (e _ _ h))
  · exact .inl (.inr ⟨o, e _ _ h⟩)
  · exact .inr h
section
variable {K : PySem.W.Frag} {mg : Str → Option Value} {F F' : Hp}
mutual
theorem Rp.mono (s : Same F F') : ∀ (d : D) (v : V), Rp K mg F d v → Rp K mg F' d v
  | .non, v, h => h
  | .bl b, v, h => h
  | .int i, v, h => h
  | .str x, v, h => h
  | .byt b, v, h => h
  | .lst ds, v, h => by
    unfold Rp at h ⊢
    obtain ⟨a, xs, e, q, r⟩ := h
    exact ⟨a, xs, e, s _ _ q, RpL.mono s ds xs r⟩
  | .tup ds, v, h => by
    unfold Rp at h ⊢
    obtain ⟨a, xs, e, q, r⟩ := h
    exact ⟨a, xs, e, seqT_mono s q, RpL.mono s ds xs r⟩
  | .dk ds, v, h => by
    unfold Rp at h ⊢
    obtain ⟨a, xs, e, q, r⟩ := h
    exact ⟨a, xs, e, s _ _ q, RpK.mono s ds xs r⟩
  | .dt ds, v, h => by
    unfold Rp at h ⊢
    obtain ⟨a, xs, e, q, r⟩ := h
    exact ⟨a, xs, e, s _ _ q, RpT.mono s ds xs r⟩
  | .obj c fs, v, h => by
    unfold Rp at h ⊢
    obtain ⟨a, C, dx, gs, e, m, q, r⟩ := h
    exact ⟨a, C, dx, gs, e, m, s _ _ q, RpF.mono s fs gs r⟩
  | .scr ns, v, h => by
    unfold Rp at h ⊢
    obtain ⟨a, e, q⟩ := h
    exact ⟨a, e, s.seq q⟩
theorem RpL.mono (s : Same F F') : ∀ (ds : List D) (xs : List V), RpL K mg F ds xs → RpL K mg F' ds xs
  | [], xs, h => h
  | d :: ds, xs, h => by
    unfold RpL at h ⊢
    obtain ⟨v, vs, e, r, q⟩ := h
    exact ⟨v, vs, e, Rp.mono s d v r, RpL.mono s ds vs q⟩
theorem RpK.mono (s : Same F F') : ∀ (ds : List (Key × D)) (xs : List (Key × V)), RpK K mg F ds xs → RpK K mg F' ds xs
  | [], xs, h => h
  | (k, d) :: ds, xs, h => by
    unfold RpK at h ⊢
    obtain ⟨v, vs, e, r, q⟩ := h
    exact ⟨v, vs, e, Rp.mono s d v r, RpK.mono s ds vs q⟩
theorem RpT.mono (s : Same F F') : ∀ (ds : List (List Key × D)) (xs : List (List Key × V)), RpT K mg F ds xs → RpT K mg F' ds xs
  | [], xs, h => h
  | (k, d) :: ds, xs, h => by
    unfold RpT at h ⊢
    obtain ⟨v, vs, e, r, q⟩ := h
    exact ⟨v, vs, e, Rp.mono s d v r, RpT.mono s ds vs q⟩
theorem RpF.mono (s : Same F F') : ∀ (ds : List (Str × D)) (xs : List (Str × V)), RpF K mg F ds xs → RpF K mg F' ds xs
  | [], xs, h => h
  | (k, d) :: ds, xs, h => by
    unfold RpF at h ⊢
    obtain ⟨v, vs, e, r, q⟩ := h
    exact ⟨v, vs, e, Rp.mono s d v r, RpF.mono s ds vs q⟩
end
end
end Sr
namespace Sr
open PySem PySem.Spec L2
inductive Sl where
  | no
  | val (d : D)
  | own (d : D)
abbrev En := List Sl
structure Ex where
  c : Str
  fs : List (Str × D)
inductive Out (A : Type) where
  | ok (a : A) (e : En)
  | exc (x : Ex) (e : En)
  | bad
abbrev M (A : Type) := En → Out A
def bnd {A B : Type} (m : M A) (f : A → M B) : M B := fun e => match m e with
  | .ok a e1 => f a e1
  | .exc x e1 => .exc x e1
  | .bad => .bad
def ret {A : Type} (a : A) : M A := fun e => .ok a e
def opt {A : Type} (o : Option A) : M A := fun e => match o with
  | some a => .ok a e
  | none => .bad
section
variable (K : PySem.W.Frag) (mg : Str → Option Value)
def OwnAt (H F : Hp) (p : Addr) : D → Prop
  | .lst ds => ∃ xs, H p = some (.lst xs) ∧ RpL K mg F ds xs
  | .dk ds => ∃ xs, H p = some (.dK xs) ∧ RpK K mg F ds xs
  | .dt ds => ∃ xs, H p = some (.dT xs) ∧ RpT K mg F ds xs
  | .obj c fs => ∃ C dx gs, mg c = some (.ref C) ∧ H p = some (.ins C dx gs) ∧ RpF K mg F fs gs
  | _ => False
def Rq (H F : Hp) : D → V → Prop
  | .lst ds, v => ∃ a xs, v = .ref a ∧ H a = some (.lst xs) ∧ RpL K mg F ds xs
  | .dk ds, v => ∃ a xs, v = .ref a ∧ H a = some (.dK xs) ∧ RpK K mg F ds xs
  | .dt ds, v => ∃ a xs, v = .ref a ∧ H a = some (.dT xs) ∧ RpT K mg F ds xs
  | .obj c fs, v => ∃ a C dx gs, v = .ref a ∧ mg c = some (.ref C) ∧ H a = some (.ins C dx gs) ∧ RpF K mg F fs gs
  | d, v => Rp K mg F d v
end
def Ow (e : En) (σ : St) (a : Addr) : Prop := ∃ (i : Nat) (d : D), e[i]? = some (Sl.own d) ∧ σ[i]? = some (some (V.ref a))
structure ER (K : PySem.W.Frag) (mg : Str → Option Value) (T : Option Addr) (e : En) (σ : St) (H F : Hp) : Prop where
  sub : Same F H
  val : ∀ (i : Nat) (d : D), e[i]? = some (.val d) → ∃ v, σ[i]? = some (some v) ∧ Rp K mg F d v
  own : ∀ (i : Nat) (d : D), e[i]? = some (.own d) → ∃ p, σ[i]? = some (some (.ref p)) ∧ F p = none ∧ OwnAt K mg H F p d
  inj : ∀ (i j : Nat) (p : Addr) (d d' : D), e[i]? = some (.own d) → e[j]? = some (.own d') → σ[i]? = some (some (.ref p)) → σ[j]? = some (some (.ref p)) → i = j
  len : e.length = σ.length
  pin : ∀ p, T = some p → σ[0]? = some (some (.ref p))
structure Mv (e : En) (σ : St) (H F : Hp) (e' : En) (σ' : St) (H' F' : Hp) : Prop where
  sub : Same F F'
  keep : ∀ a o, H a = some o → ¬ Ow e σ a → H' a = some o ∧ ¬ Ow e' σ' a
  new : ∀ a o, F' a = some o → F a = some o ∨ H a = none ∨ Ow e σ a
  there : ∀ a, H' a = none → H a = none
theorem Mv.refl {e : En} {σ : St} {H F : Hp} : Mv e σ H F e σ H F := ⟨Same.refl _, fun _ _ h n => ⟨h, n⟩, fun _ _ h => .inl h, fun _ h => h⟩
theorem Mv.trans {e e1 e2 : En} {σ σ1 σ2 : St} {H F H1 F1 H2 F2 : Hp} (a : Mv e σ H F e1 σ1 H1 F1) (b : Mv e1 σ1 H1 F1 e2 σ2 H2 F2) : Mv e σ H F e2 σ2 H2 F2 := by
  refine ⟨a.sub.trans b.sub, fun c o h n => ?_, fun c o h => ?_, fun c h => a.there c (b.there c h)⟩
  · obtain ⟨h1, n1⟩ := a.keep c o h n
    exact b.keep c o h1 n1
  · rcases b.new c o h with h1 | h1 | h1
    · exact a.new c o h1
    · cases q : H c with
      | none => exact .inr (.inl rfl)
      | some u =>
        by_cases w : Ow e σ c
        · exact .inr (.inr w)
        · rw [(a.keep c u q w).1] at h1; cases h1
    · cases q : H c with
      | none => exact .inr (.inl rfl)
      | some u =>
        by_cases w : Ow e σ c
        · exact .inr (.inr w)
        · exact absurd h1 (a.keep c u q w).2
def Al (H F H' F' : Hp) : Prop := (H' = H ∧ F' = F) ∨ ∃ p o, H p = none ∧ H' = upd H p o ∧ F' = upd F p o
theorem Al.refl {H F : Hp} : Al H F H F := .inl ⟨rfl, rfl⟩
theorem Al.one {H F : Hp} {p : Addr} {o : HO} (h : H p = none) : Al H F (upd H p o) (upd F p o) := .inr ⟨p, o, h, rfl, rfl⟩
theorem same_upd {H : Hp} {p : Addr} {o : HO} (h : H p = none) : Same H (upd H p o) := fun b u e => by
  rw [upd_ne (ne_of_none e h)]; exact e
theorem Al.same {H F H' F' : Hp} (s : Same F H) (a : Al H F H' F') : Same F F' ∧ Same H H' ∧ Same F' H' := by
  rcases a with ⟨rfl, rfl⟩ | ⟨p, o, h, rfl, rfl⟩
  · exact ⟨Same.refl _, Same.refl _, s⟩
  · refine ⟨same_upd (s.free h), same_upd h, fun b u e => ?_⟩
    by_cases hb : b = p
    · subst hb; rw [upd_same] at e ⊢; exact e
    · rw [upd_ne hb] at e ⊢; exact s b u e
section
variable {K : PySem.W.Frag} {mg : Str → Option Value} {T : Option Addr} {e e' : En} {σ σ' : St} {H F H' F' : Hp} {p a : Addr} {d : D} {v : V}
theorem OwnAt.keep (h : OwnAt K mg H F p d) (s : Same F F') (q : ∀ o, H p = some o → H' p = some o) : OwnAt K mg H' F' p d := by
  cases d <;> try (exact h.elim)
  · obtain ⟨xs, h1, h2⟩ := h
    exact ⟨xs, q _ h1, RpL.mono s _ _ h2⟩
  · obtain ⟨xs, h1, h2⟩ := h
    exact ⟨xs, q _ h1, RpK.mono s _ _ h2⟩
  · obtain ⟨xs, h1, h2⟩ := h
    exact ⟨xs, q _ h1, RpT.mono s _ _ h2⟩
  · obtain ⟨C, dx, xs, m, h1, h2⟩ := h
    exact ⟨C, dx, xs, m, q _ h1, RpF.mono s _ _ h2⟩
theorem OwnAt.there (h : OwnAt K mg H F p d) : ∃ o, H p = some o := by
  cases d <;> try (exact h.elim)
  · obtain ⟨xs, h1, h2⟩ := h; exact ⟨_, h1⟩
  · obtain ⟨xs, h1, h2⟩ := h; exact ⟨_, h1⟩
  · obtain ⟨xs, h1, h2⟩ := h; exact ⟨_, h1⟩
  · obtain ⟨C, dx, xs, m, h1, h2⟩ := h; exact ⟨_, h1⟩
theorem OwnAt.rp (h : OwnAt K mg H F p d) (n : F p = none) {o : HO} (ho : H p = some o) : Rp K mg (upd F p o) d (.ref p) := by
  have s : Same F (upd F p o) := same_upd n
  cases d <;> try (exact h.elim)
  · obtain ⟨xs, h1, h2⟩ := h; rw [ho] at h1; cases h1
    unfold Rp
    exact ⟨p, xs, rfl, upd_same, RpL.mono s _ _ h2⟩
  · obtain ⟨xs, h1, h2⟩ := h; rw [ho] at h1; cases h1
    unfold Rp
    exact ⟨p, xs, rfl, upd_same, RpK.mono s _ _ h2⟩
  · obtain ⟨xs, h1, h2⟩ := h; rw [ho] at h1; cases h1
    unfold Rp
    exact ⟨p, xs, rfl, upd_same, RpT.mono s _ _ h2⟩
  · obtain ⟨C, dx, xs, m, h1, h2⟩ := h; rw [ho] at h1; cases h1
    unfold Rp
    exact ⟨p, C, dx, xs, rfl, m, upd_same, RpF.mono s _ _ h2⟩
theorem OwnAt.rq (h : OwnAt K mg H F p d) : Rq K mg H F d (.ref p) := by
  cases d <;> try (exact h.elim)
  · obtain ⟨xs, h1, h2⟩ := h; exact ⟨p, xs, rfl, h1, h2⟩
  · obtain ⟨xs, h1, h2⟩ := h; exact ⟨p, xs, rfl, h1, h2⟩
  · obtain ⟨xs, h1, h2⟩ := h; exact ⟨p, xs, rfl, h1, h2⟩
  · obtain ⟨C, dx, xs, m, h1, h2⟩ := h; exact ⟨p, C, dx, xs, rfl, m, h1, h2⟩
theorem Rp.rq (s : Same F H) (h : Rp K mg F d v) : Rq K mg H F d v := by
  cases d <;> unfold Rq <;> try (exact h)
  · unfold Rp at h
    obtain ⟨a, xs, e, q, r⟩ := h
    exact ⟨a, xs, e, s _ _ q, r⟩
  · unfold Rp at h
    obtain ⟨a, xs, e, q, r⟩ := h
    exact ⟨a, xs, e, s _ _ q, r⟩
  · unfold Rp at h
    obtain ⟨a, xs, e, q, r⟩ := h
    exact ⟨a, xs, e, s _ _ q, r⟩
  · unfold Rp at h
    obtain ⟨a, C, dx, xs, e, m, q, r⟩ := h
    exact ⟨a, C, dx, xs, e, m, s _ _ q, r⟩
theorem ER.al (r : ER K mg T e σ H F) (a : Al H F H' F') : ER K mg T e σ H' F' := by
  obtain ⟨s1, s2, s3⟩ := a.same r.sub
  refine ⟨s3, fun i d h => ?_, fun i d h => ?_, r.inj, r.len, r.pin⟩
  · obtain ⟨v, h1, h2⟩ := r.val i d h
    exact ⟨v, h1, Rp.mono s1 _ _ h2⟩
  · obtain ⟨p, h1, h2, h3⟩ := r.own i d h
    refine ⟨p, h1, ?_, h3.keep s1 (s2 p)⟩
    obtain ⟨o, ho⟩ := h3.there
    rcases a with ⟨rfl, rfl⟩ | ⟨q, u, hq, rfl, rfl⟩
    · exact h2
    · rw [upd_ne (ne_of_none ho hq)]; exact h2
theorem Mv.al (r : ER K mg T e σ H F) (a : Al H F H' F') : Mv e σ H F e σ H' F' := by
  obtain ⟨s1, s2, s3⟩ := a.same r.sub
  refine ⟨s1, fun b o h n => ⟨s2 b o h, n⟩, fun b o h => ?_, fun b h => s2.free h⟩
  rcases a with ⟨rfl, rfl⟩ | ⟨q, u, hq, rfl, rfl⟩
  · exact .inl h
  · by_cases hb : b = q
    · subst hb; exact .inr (.inl hq)
    · rw [upd_ne hb] at h; exact .inl h
theorem Ow.ne_of_free (r : ER K mg T e σ H F) (h : H a = none) : ¬ Ow e σ a := by
  rintro ⟨i, d, h1, h2⟩
  obtain ⟨p, h3, _, h4⟩ := r.own i d h1
  rw [h3] at h2; cases h2
  obtain ⟨o, ho⟩ := h4.there
  rw [ho] at h; cases h
theorem ER.freeze (r : ER K mg T e σ H F) (n : F p = none) (w : ¬ Ow e σ p) {o : HO} (ho : H p = some o) : ER K mg T e σ H (upd F p o) := by
  have s : Same F (upd F p o) := same_upd n
  refine ⟨fun b u q => ?_, fun i d h => ?_, fun i d h => ?_, r.inj, r.len, r.pin⟩
  · by_cases hb : b = p
    · subst hb; rw [upd_same] at q; cases q; exact ho
    · rw [upd_ne hb] at q; exact r.sub b u q
  · obtain ⟨v, h1, h2⟩ := r.val i d h
    exact ⟨v, h1, Rp.mono s _ _ h2⟩
  · obtain ⟨q, h1, h2, h3⟩ := r.own i d h
    refine ⟨q, h1, ?_, h3.keep s fun _ z => z⟩
    have hqp : q ≠ p := by
      rintro rfl
      exact w ⟨i, d, h, h1⟩
    rw [upd_ne hqp]; exact h2
theorem ER.freezeAt {i : Nat} (r : ER K mg T e σ H F) (h : e[i]? = some (.own d)) (hp : σ[i]? = some (some (.ref p))) {o : HO} (ho : H p = some o) : ER K mg T (e.set i (.val d)) σ H (upd F p o) ∧ Rp K mg (upd F p o) d (.ref p) ∧ Mv e σ H F (e.set i (.val d)) σ H (upd F p o) := by
  obtain ⟨q, h1, h2, h3⟩ := r.own i d h
  rw [hp] at h1; cases h1
  have s : Same F (upd F p o) := same_upd h2
  have hrp := h3.rp h2 ho
  have hi : i < e.length := (List.getElem?_eq_some_iff.mp h).1
  have other : ∀ (j : Nat) (x : D), (e.set i (Sl.val d))[j]? = some (.own x) → e[j]? = some (.own x) ∧ j ≠ i := fun j x q => by
    by_cases hj : j = i
    · subst hj; rw [List.getElem?_set_self hi] at q; cases q
    · rw [List.getElem?_set_ne (Ne.symm hj)] at q; exact ⟨q, hj⟩
  refine ⟨⟨fun b u q => ?_, fun j x q => ?_, fun j x q => ?_, fun j k p' x y q1 q2 => r.inj j k p' x y (other j x q1).1 (other k y q2).1, by rw [List.length_set]; exact r.len, r.pin⟩, hrp, s, fun a u q n => ⟨q, ?_⟩, fun a u q => ?_, fun a q => q⟩
  · by_cases hb : b = p
    · subst hb; rw [upd_same] at q; cases q; exact ho
    · rw [upd_ne hb] at q; exact r.sub b u q
  · by_cases hj : j = i
    · subst hj; rw [List.getElem?_set_self hi] at q; cases q
      exact ⟨_, hp, hrp⟩
    · rw [List.getElem?_set_ne (Ne.symm hj)] at q
      obtain ⟨v, h4, h5⟩ := r.val j x q
      exact ⟨v, h4, Rp.mono s _ _ h5⟩
  · obtain ⟨q, hj⟩ := other j x q
    obtain ⟨p', h4, h5, h6⟩ := r.own j x q
    refine ⟨p', h4, ?_, h6.keep s fun _ z => z⟩
    rw [upd_ne]; exact h5
    rintro rfl
    exact hj (r.inj j i p' x d q h h4 hp)
  · rintro ⟨j, x, q1, q2⟩
    exact n ⟨j, x, (other j x q1).1, q2⟩
  · by_cases hb : a = p
    · subst hb; exact .inr (.inr ⟨i, d, h, hp⟩)
    · rw [upd_ne hb] at q; exact .inl q
end
def XR (K : PySem.W.Frag) (mg : Str → Option Value) (x : Ex) (cl : Value) (dd : Option Addr) (H F : Hp) : Prop :=
  mg x.c = some cl ∧ ((x.fs = [] ∧ dd = none) ∨ ∃ a gs, dd = some a ∧ H a = some (.xd gs) ∧ RpF K mg F x.fs gs)
section
variable (K : PySem.W.Frag) (mg : Str → Option Value) (T : Option Addr) (W : WX)
def RunAt {A : Type} (e : En) (F : Hp) (m : M A) (σ : St) (H : Hp) (P : A → En → Hp → Hp → Prop) : Prop :=
  match m e with
  | .ok a e' => ∀ H' F', ER K mg T e' σ H' F' → Mv e σ H F e' σ H' F' → P a e' H' F'
  | .exc x e' => ∀ H' F' cl dd, ER K mg T e' σ H' F' → Mv e σ H F e' σ H' F' → XR K mg x cl dd H' F' → W cl dd σ H'
  | .bad => False
def TV (m : M D) : TE := fun σ H Q => ∃ e F, ER K mg T e σ H F ∧ RunAt K mg T W e F m σ H fun d _ H' F' => ∀ v, Rp K mg F' d v → Q v H'
def TO (m : M D) : TE := fun σ H Q => ∃ e F, ER K mg T e σ H F ∧ RunAt K mg T W e F m σ H fun d e' H' F' => ∀ p, H p = none → F' p = none → ¬ Ow e' σ p → OwnAt K mg H' F' p d → Q (.ref p) H'
def TT' (m : M Bool) : TT := fun σ H Q => ∃ e F, ER K mg T e σ H F ∧ RunAt K mg T W e F m σ H fun b _ H' F' => Q b H'
def TAs (m : M (List D)) : TA := fun σ H Q => ∃ e F, ER K mg T e σ H F ∧ RunAt K mg T W e F m σ H fun ds _ H' F' => ∀ vs, RpL K mg F' ds vs → Q vs H'
end
section
variable {K : PySem.W.Frag} {mg : Str → Option Value} {T : Option Addr} {W : WX} {A B : Type} {e : En} {σ : St} {H F : Hp}
theorem RunAt.mono {m : M A} {P P' : A → En → Hp → Hp → Prop} (h : RunAt K mg T W e F m σ H P) (hp : ∀ a e' H' F', ER K mg T e' σ H' F' → Mv e σ H F e' σ H' F' → P a e' H' F' → P' a e' H' F') : RunAt K mg T W e F m σ H P' := by
  unfold RunAt at h ⊢
  cases q : m e with
  | ok a e' =>
    rw [q] at h
    exact fun H' F' er mv => hp _ _ _ _ er mv (h H' F' er mv)
  | exc x e' => rw [q] at h; exact h
  | bad => rw [q] at h; exact h
theorem RunAt.bind {m : M A} {f : A → M B} {P : B → En → Hp → Hp → Prop} (h : RunAt K mg T W e F (bnd m f) σ H P) : RunAt K mg T W e F m σ H fun a e1 H1 F1 => RunAt K mg T W e1 F1 (f a) σ H1 P := by
  unfold RunAt bnd at h
  unfold RunAt
  cases q : m e with
  | ok a e1 =>
    rw [q] at h
    dsimp only at h ⊢
    intro H1 F1 er1 mv1
    cases q2 : f a e1 with
    | ok b e2 =>
      rw [q2] at h
      exact fun H2 F2 er2 mv2 => h H2 F2 er2 (mv1.trans mv2)
    | exc x e2 =>
      rw [q2] at h
      exact fun H2 F2 cl dd er2 mv2 => h H2 F2 cl dd er2 (mv1.trans mv2)
    | bad => rw [q2] at h; exact h
  | exc x e' => rw [q] at h; exact h
  | bad => rw [q] at h; exact h
theorem RunAt.fin {o : Option A} {P : A → En → Hp → Hp → Prop} (h : RunAt K mg T W e F (opt o) σ H P) (er : ER K mg T e σ H F) : ∃ a, o = some a ∧ ∀ H' F', Al H F H' F' → P a e H' F' := by
  unfold RunAt opt at h
  cases o with
  | none => exact h.elim
  | some a => exact ⟨a, rfl, fun H' F' al => h H' F' (er.al al) (Mv.al er al)⟩
theorem RunAt.rfin {a : A} {P : A → En → Hp → Hp → Prop} (h : RunAt K mg T W e F (ret a) σ H P) (er : ER K mg T e σ H F) : ∀ H' F', Al H F H' F' → P a e H' F' :=
  fun H' F' al => h H' F' (er.al al) (Mv.al er al)
end
end Sr
namespace Sr
open PySem PySem.Spec L2
open PyProof.Rows hiding St
theorem PEimp {X : Cx} {e : Expr} {t t' : TE} (h : PE X e t) (k : ∀ σ H Q, t' σ H Q → t σ H Q) : PE X e t' := ⟨fun pins s σ H Q I q => h.run pins s σ H Q I (k σ H Q q)⟩
abbrev JV (X : Cx) (T : Option Addr) (W : WX) (e : Expr) (m : M D) : Prop := PE X e (TV X.K X.mg T W m)
abbrev JO (X : Cx) (T : Option Addr) (W : WX) (e : Expr) (m : M D) : Prop := PE X e (TO X.K X.mg T W m)
abbrev JT (X : Cx) (T : Option Addr) (W : WX) (e : Expr) (m : M Bool) : Prop := PT X e (TT' X.K X.mg T W m)
abbrev JW (X : Cx) (T : Option Addr) (W : WX) (e : Expr) (m : M Bool) : Prop := PW X e (TT' X.K X.mg T W m)
abbrev JA (X : Cx) (T : Option Addr) (W : WX) (es : List Expr) (m : M (List D)) : Prop := PA X es (TAs X.K X.mg T W m)
inductive Bv where
  | val (d : D)
  | slot (i : Nat)
def BwR (K : PySem.W.Frag) (mg : Str → Option Value) (σ : St) (F : Hp) : Bv → V → Prop
  | .val d, v => Rp K mg F d v
  | .slot i, v => σ[i]? = some (some v)
def TBw (K : PySem.W.Frag) (mg : Str → Option Value) (T : Option Addr) (W : WX) (m : M Bv) : TE := fun σ H Q => ∃ e F, ER K mg T e σ H F ∧ RunAt K mg T W e F m σ H fun b _ H' F' => ∀ v, BwR K mg σ F' b v → Q v H'
abbrev JB (X : Cx) (T : Option Addr) (W : WX) (e : Expr) (m : M Bv) : Prop := PE X e (TBw X.K X.mg T W m)
def der (b : Bv) : M D := fun e => match b with
  | .val d => .ok d e
  | .slot i => match e[i]? with
    | some (.val d) => .ok d e
    | some (.own d) => .ok d e
    | _ => .bad
section
variable {K : PySem.W.Frag} {mg : Str → Option Value} {T : Option Addr} {W : WX} {e : En} {σ : St} {H F F' : Hp} {b : Bv} {v : V}
theorem BwR.mono (s : Same F F') (h : BwR K mg σ F b v) : BwR K mg σ F' b v := by
  cases b with
  | val d => exact Rp.mono s _ _ h
  | slot i => exact h
theorem der_fin {P : D → En → Hp → Hp → Prop} (h : RunAt K mg T W e F (der b) σ H P) (er : ER K mg T e σ H F) (hb : BwR K mg σ F b v) : ∃ d, Rq K mg H F d v ∧ P d e H F := by
  cases b with
  | val d => exact ⟨d, Rp.rq er.sub hb, h H F er Mv.refl⟩
  | slot i =>
    unfold RunAt der at h
    cases q : e[i]? with
    | none => simp only [q] at h
    | some sl =>
      cases sl with
      | no => simp only [q] at h
      | val d =>
        simp only [q] at h
        obtain ⟨w, h1, h2⟩ := er.val i d q
        have hv : σ[i]? = some (some v) := hb
        rw [h1] at hv; cases hv
        exact ⟨d, Rp.rq er.sub h2, h H F er Mv.refl⟩
      | own d =>
        simp only [q] at h
        obtain ⟨p, h1, h2, h3⟩ := er.own i d q
        have hv : σ[i]? = some (some v) := hb
        rw [h1] at hv; cases hv
        exact ⟨d, h3.rq, h H F er Mv.refl⟩
end
section
variable {X : Cx} {T : Option Addr} {W : WX} {pos : Pos} {a b c : Expr} {ma mb mc : M D}
theorem ofO {m : M D} (h : JO X T W a m) : JV X T W a m := by
  refine PEimp h fun σ H Q ⟨e, F, er, q⟩ => ⟨e, F, er, ?_⟩
  unfold RunAt at q ⊢
  cases r : m e with
  | ok d e' =>
    rw [r] at q
    intro H' F' er' mv p hp fp np ow
    obtain ⟨o, ho⟩ := ow.there
    refine q H' (upd F' p o) (er'.freeze fp np ho) ⟨mv.sub.trans (same_upd fp), mv.keep, fun c u hc => ?_, mv.there⟩ _ (ow.rp fp ho)
    by_cases hcp : c = p
    · subst hcp; exact .inr (.inl hp)
    · rw [upd_ne hcp] at hc; exact mv.new c u hc
  | exc x e' => rw [r] at q; exact q
  | bad => rw [r] at q; exact q
def mB (m : M D) : M Bv := bnd m fun d => ret (.val d)
theorem ofV {m : M D} (h : JV X T W a m) : JB X T W a (mB m) := by
  refine PEimp h fun σ H Q ⟨e, F, er, q⟩ => ⟨e, F, er, q.bind.mono fun d e1 H1 F1 er1 mv1 q1 v hv => q1.rfin er1 H1 F1 Al.refl v hv⟩
theorem jv_int {i j} : JV X T W (.Constant (.int i) j pos) (ret (.int i)) := PEimp pe_int fun σ H Q ⟨e, F, er, h⟩ => h.rfin er H F Al.refl _ (by unfold Rp; rfl)
theorem jv_bl {i j} : JV X T W (.Constant (.bool i) j pos) (ret (.bl i)) := PEimp pe_bl fun σ H Q ⟨e, F, er, h⟩ => h.rfin er H F Al.refl _ (by unfold Rp; rfl)
theorem jv_str {i j} : JV X T W (.Constant (.str i) j pos) (ret (.str i)) := PEimp pe_str fun σ H Q ⟨e, F, er, h⟩ => h.rfin er H F Al.refl _ (by unfold Rp; rfl)
theorem jv_non {j} : JV X T W (.Constant .none j pos) (ret .non) := PEimp pe_non fun σ H Q ⟨e, F, er, h⟩ => h.rfin er H F Al.refl _ (by unfold Rp; rfl)
theorem jv_glob {x : Str} {v : V} {u : Value} {d : D} (hg : Gl X x) (hm : X.mg x = some u) (r : RelV v u) (hd : ∀ F, Rp X.K X.mg F d v) (hx : (x == ("__debug__" : Str)) = false := by decide) : JV X T W (.Name x pos) (ret d) :=
  PEimp (pe_glob hg hm r hx) fun σ H Q ⟨e, F, er, h⟩ => h.rfin er H F Al.refl _ (hd F)
def mN (i : Nat) : M D := fun e => match e[i]? with
  | some (.val d) => .ok d e
  | some (.own d) => .ok d (e.set i (.val d))
  | _ => .bad
def mNB (i : Nat) : M Bv := fun e => match e[i]? with
  | some (.val d) => .ok (.val d) e
  | some (.own _) => .ok (.slot i) e
  | _ => .bad
theorem jv_name (i : Nat) {x : Str} (hN : X.N[i]? = some x := by rfl) (hv : Vis X.env.scope x := by first | exact Or.inl rfl | exact Or.inr (Or.inl rfl) | exact Or.inr (Or.inr rfl)) (hd : (x == ("__debug__" : Str)) = false := by decide)
    (hcd : (x == ("__classdict__" : Str)) = false := by decide) : JV X T W (.Name x pos) (mN i) := by
  refine PEimp (pe_var hN hv hd hcd) fun σ H Q ⟨e, F, er, h⟩ => ?_
  unfold RunAt mN at h
  cases q : e[i]? with
  | none => simp only [q] at h
  | some sl =>
    cases sl with
    | no => simp only [q] at h
    | val d =>
      simp only [q] at h
      obtain ⟨v, h1, h2⟩ := er.val i d q
      exact ⟨v, h1, h H F er Mv.refl v h2⟩
    | own d =>
      simp only [q] at h
      obtain ⟨p, h1, h2, h3⟩ := er.own i d q
      obtain ⟨o, ho⟩ := h3.there
      obtain ⟨er', hr, mv⟩ := er.freezeAt q h1 ho
      exact ⟨_, h1, h H _ er' mv _ hr⟩
theorem jb_name (i : Nat) {x : Str} (hN : X.N[i]? = some x := by rfl) (hv : Vis X.env.scope x := by first | exact Or.inl rfl | exact Or.inr (Or.inl rfl) | exact Or.inr (Or.inr rfl)) (hd : (x == ("__debug__" : Str)) = false := by decide)
    (hcd : (x == ("__classdict__" : Str)) = false := by decide) : JB X T W (.Name x pos) (mNB i) := by
  refine PEimp (pe_var hN hv hd hcd) fun σ H Q ⟨e, F, er, h⟩ => ?_
  unfold RunAt mNB at h
  cases q : e[i]? with
  | none => simp only [q] at h
  | some sl =>
    cases sl with
    | no => simp only [q] at h
    | val d =>
      simp only [q] at h
      obtain ⟨v, h1, h2⟩ := er.val i d q
      exact ⟨v, h1, h H F er Mv.refl v h2⟩
    | own d =>
      simp only [q] at h
      obtain ⟨p, h1, h2, h3⟩ := er.own i d q
      exact ⟨_, h1, h H F er Mv.refl _ h1⟩
def Op2 (X : Cx) (f : Value → Value → Sem Value) (g : D → D → Option D) : Prop :=
  ∀ (H F : Hp) (x y : V) (d1 d2 d : D), Same F H → Rq X.K X.mg H F d1 x → Rq X.K X.mg H F d2 y → g d1 d2 = some d →
    ∃ r : R2, OpR X f r ∧ ∀ Q : VK, (∀ H' F' z, Al H F H' F' → Rp X.K X.mg F' d z → Q z H') → r x y H Q
theorem Op2.or {f : Value → Value → Sem Value} {g g' : D → D → Option D} (h : Op2 X f g) (h' : Op2 X f g') : Op2 X f (fun a b => (g a b).or (g' a b)) := by
  intro H F x y d1 d2 d s r1 r2 e
  cases q : g d1 d2 with
  | some z => simp only [q, Option.some_or] at e; cases e; exact h H F x y d1 d2 _ s r1 r2 q
  | none => simp only [q, Option.none_or] at e; exact h' H F x y d1 d2 d s r1 r2 e
def m2 (g : D → D → Option D) (ma mb : M D) : M D := bnd ma fun d1 => bnd mb fun d2 => opt (g d1 d2)
def m2b (g : D → D → Option D) (ma : M Bv) (mb : M D) : M D := bnd ma fun b1 => bnd mb fun d2 => bnd (der b1) fun d1 => opt (g d1 d2)
def m2r (g : D → D → Option D) (ma : M D) (mb : M Bv) : M D := bnd ma fun d1 => bnd mb fun b2 => bnd (der b2) fun d2 => opt (g d1 d2)
section
variable {f : Value → Value → Sem Value} {g : D → D → Option D} {R : V → V → Hp → Prop} {Q : VK}
theorem run2 (ho : Op2 X f g) {σ : St} {H : Hp} (h : TV X.K X.mg T W (m2 g ma mb) σ H Q) : TV X.K X.mg T W ma σ H fun x H1 => TV X.K X.mg T W mb σ H1 fun y H2 => ∃ r, OpR X f r ∧ r x y H2 Q := by
  obtain ⟨e, F, er, h⟩ := h
  refine ⟨e, F, er, h.bind.mono fun d1 e1 H1 F1 er1 mv1 h1 v hv => ⟨e1, F1, er1, h1.bind.mono fun d2 e2 H2 F2 er2 mv2 h2 w hw => ?_⟩⟩
  obtain ⟨d, hd, fin⟩ := h2.fin er2
  obtain ⟨r, hr, q⟩ := ho H2 F2 v w d1 d2 d er2.sub (Rp.rq er2.sub (Rp.mono mv2.sub _ _ hv)) (Rp.rq er2.sub hw) hd
  exact ⟨r, hr, q Q fun H' F' z al hz => fin H' F' al z hz⟩
theorem run2b {mb1 : M Bv} (ho : Op2 X f g) {σ : St} {H : Hp} (h : TV X.K X.mg T W (m2b g mb1 mb) σ H Q) : TBw X.K X.mg T W mb1 σ H fun x H1 => TV X.K X.mg T W mb σ H1 fun y H2 => ∃ r, OpR X f r ∧ r x y H2 Q := by
  obtain ⟨e, F, er, h⟩ := h
  refine ⟨e, F, er, h.bind.mono fun b1 e1 H1 F1 er1 mv1 h1 v hv => ⟨e1, F1, er1, h1.bind.mono fun d2 e2 H2 F2 er2 mv2 h2 w hw => ?_⟩⟩
  obtain ⟨d1, r1, h3⟩ := der_fin h2.bind er2 (hv.mono mv2.sub)
  obtain ⟨d, hd, fin⟩ := h3.fin er2
  obtain ⟨r, hr, q⟩ := ho H2 F2 v w d1 d2 d er2.sub r1 (Rp.rq er2.sub hw) hd
  exact ⟨r, hr, q Q fun H' F' z al hz => fin H' F' al z hz⟩
theorem run2r {mb2 : M Bv} (ho : Op2 X f g) {σ : St} {H : Hp} (h : TV X.K X.mg T W (m2r g ma mb2) σ H Q) : TV X.K X.mg T W ma σ H fun x H1 => TBw X.K X.mg T W mb2 σ H1 fun y H2 => ∃ r, OpR X f r ∧ r x y H2 Q := by
  obtain ⟨e, F, er, h⟩ := h
  refine ⟨e, F, er, h.bind.mono fun d1 e1 H1 F1 er1 mv1 h1 v hv => ⟨e1, F1, er1, h1.bind.mono fun b2 e2 H2 F2 er2 mv2 h2 w hw => ?_⟩⟩
  obtain ⟨d2, r2, h3⟩ := der_fin h2.bind er2 hw
  obtain ⟨d, hd, fin⟩ := h3.fin er2
  obtain ⟨r, hr, q⟩ := ho H2 F2 v w d1 d2 d er2.sub (Rp.rq er2.sub (Rp.mono mv2.sub _ _ hv)) r2 hd
  exact ⟨r, hr, q Q fun H' F' z al hz => fin H' F' al z hz⟩
end
def rAny (X : Cx) (f : Value → Value → Sem Value) : R2 := fun x y H Q => ∃ r, OpR X f r ∧ r x y H Q
theorem opAny {f : Value → Value → Sem Value} : OpR X f (rAny X f) := fun pins s σ H x y v u Q I rx ry ⟨r, hr, q⟩ => hr pins s σ H x y v u Q I rx ry q
theorem jv_bin {op : Operator} {g : D → D → Option D} (ho : Op2 X (binaryOp op) g) (ha : JV X T W a ma) (hb : JV X T W b mb) : JV X T W (.BinOp a op b pos) (m2 g ma mb) :=
  PEimp (pe_op opAny ha hb) fun σ H Q h => run2 ho h
theorem jv_cmp {op : CmpOp} {g : D → D → Option D} (ho : Op2 X (compareOp op) g) (ha : JV X T W a ma) (hb : JV X T W b mb) (hm : behindInMarks op b = false := by first | exact nomark _ | rfl) : JV X T W (.Compare a [op] [b] pos) (m2 g ma mb) :=
  PEimp (pe_cmpR opAny ha hb hm) fun σ H Q h => run2 ho h
theorem jv_cmpB {op : CmpOp} {g : D → D → Option D} {m1 : M Bv} (ho : Op2 X (compareOp op) g) (ha : JB X T W a m1) (hb : JV X T W b mb) (hm : behindInMarks op b = false := by first | exact nomark _ | rfl) : JV X T W (.Compare a [op] [b] pos) (m2b g m1 mb) :=
  PEimp (pe_cmpR opAny ha hb hm) fun σ H Q h => run2b ho h
theorem jv_cmpR {op : CmpOp} {g : D → D → Option D} {m1 : M Bv} (ho : Op2 X (compareOp op) g) (ha : JV X T W a ma) (hb : JB X T W b m1) (hm : behindInMarks op b = false := by first | exact nomark _ | rfl) : JV X T W (.Compare a [op] [b] pos) (m2r g ma m1) :=
  PEimp (pe_cmpR opAny ha hb hm) fun σ H Q h => run2r ho h
def asB : D → Option Bool
  | .bl b => some b
  | _ => none
def mT (m : M D) : M Bool := bnd m fun d => opt (asB d)
theorem runT {σ : St} {H : Hp} {Q : Bool → Hp → Prop} (h : TT' X.K X.mg T W (mT ma) σ H Q) : TV X.K X.mg T W ma σ H fun x H1 => ∃ k, x = .bl k ∧ Q k H1 := by
  obtain ⟨e, F, er, h⟩ := h
  refine ⟨e, F, er, h.bind.mono fun d e1 H1 F1 er1 mv1 h1 v hv => ?_⟩
  obtain ⟨k, hk, fin⟩ := h1.fin er1
  cases d <;> cases hk
  unfold Rp at hv
  exact ⟨_, hv, fin H1 F1 Al.refl⟩
theorem PTimp {e : Expr} {t t' : TT} (h : PT X e t) (k : ∀ σ H Q, t' σ H Q → t σ H Q) : PT X e t' := ⟨fun pins s σ H Q I q => h.run pins s σ H Q I (k σ H Q q)⟩
theorem PWimp {e : Expr} {t t' : TT} (h : PW X e t) (k : ∀ σ H Q, t' σ H Q → t σ H Q) : PW X e t' := ⟨fun wh pins s σ H Q I q => h.run wh pins s σ H Q I (k σ H Q q)⟩
theorem jt_cmp {op : CmpOp} {g : D → D → Option D} (ho : Op2 X (compareOp op) g) (ha : JV X T W a ma) (hb : JV X T W b mb) (hm : behindInMarks op b = false := by first | exact nomark _ | rfl) : JT X T W (.Compare a [op] [b] pos) (mT (m2 g ma mb)) :=
  PTimp (pt_cmpR opAny ha hb hm) fun σ H Q h => run2 ho (runT h)
theorem jt_cmpB {op : CmpOp} {g : D → D → Option D} {m1 : M Bv} (ho : Op2 X (compareOp op) g) (ha : JB X T W a m1) (hb : JV X T W b mb) (hm : behindInMarks op b = false := by first | exact nomark _ | rfl) : JT X T W (.Compare a [op] [b] pos) (mT (m2b g m1 mb)) :=
  PTimp (pt_cmpR opAny ha hb hm) fun σ H Q h => run2b ho (runT h)
theorem jt_cmpR {op : CmpOp} {g : D → D → Option D} {m1 : M Bv} (ho : Op2 X (compareOp op) g) (ha : JV X T W a ma) (hb : JB X T W b m1) (hm : behindInMarks op b = false := by first | exact nomark _ | rfl) : JT X T W (.Compare a [op] [b] pos) (mT (m2r g ma m1)) :=
  PTimp (pt_cmpR opAny ha hb hm) fun σ H Q h => run2r ho (runT h)
def mChain (g g' : D → D → Option D) (ma mb mc : M D) : M D := bnd ma fun d1 => bnd mb fun d2 => bnd (opt ((g d1 d2).bind asB)) fun k => if k = true then bnd mc fun d3 => opt (g' d2 d3) else ret (.bl false)
theorem runChain {op op' : CmpOp} {g g' : D → D → Option D} {Q : VK} {σ : St} {H : Hp} (ho : Op2 X (compareOp op) g) (ho' : Op2 X (compareOp op') g') (h : TV X.K X.mg T W (mChain g g' ma mb mc) σ H Q) :
    tChain (rAny X (compareOp op)) (rAny X (compareOp op')) (TV X.K X.mg T W ma) (TV X.K X.mg T W mb) (TV X.K X.mg T W mc) σ H Q := by
  obtain ⟨e, F, er, h⟩ := h
  refine ⟨e, F, er, h.bind.mono fun d1 e1 H1 F1 er1 mv1 h1 v hv => ⟨e1, F1, er1, h1.bind.mono fun d2 e2 H2 F2 er2 mv2 h2 w hw => ?_⟩⟩
  obtain ⟨k, hk, fin⟩ := h2.bind.fin er2
  cases hg : g d1 d2 with
  | none => rw [hg] at hk; cases hk
  | some d =>
    rw [hg] at hk
    obtain ⟨r, hr, q⟩ := ho H2 F2 v w d1 d2 d er2.sub (Rp.rq er2.sub (Rp.mono mv2.sub _ _ hv)) (Rp.rq er2.sub hw) hg
    refine ⟨r, hr, q _ fun H' F' z al hz => ?_⟩
    cases d <;> cases hk
    unfold Rp at hz
    have er3 := er2.al al
    have s3 : Same F2 F' := (al.same er2.sub).1
    refine ⟨k, hz, ?_⟩
    have h3 := fin H' F' al
    cases k with
    | false =>
      rw [if_neg (by decide)] at h3 ⊢
      exact h3.rfin er3 H' F' Al.refl _ (by unfold Rp; rfl)
    | true =>
      rw [if_pos rfl] at h3 ⊢
      refine ⟨e2, F', er3, h3.bind.mono fun d3 e4 H4 F4 er4 mv4 h4 y hy => ?_⟩
      obtain ⟨d', hd', fin'⟩ := h4.fin er4
      obtain ⟨r', hr', q'⟩ := ho' H4 F4 w y d2 d3 d' er4.sub (Rp.rq er4.sub (Rp.mono (s3.trans mv4.sub) _ _ hw)) (Rp.rq er4.sub hy) hd'
      exact ⟨r', hr', q' Q fun H' F' z al hz => fin' H' F' al z hz⟩
theorem jv_chain {op op' : CmpOp} {g g' : D → D → Option D} (ho : Op2 X (compareOp op) g) (ho' : Op2 X (compareOp op') g') (ha : JV X T W a ma) (hb : JV X T W b mb) (hc : JV X T W c mc)
    (hm : lastMarks [op, op'] [b, c] = false := by with_unfolding_all rfl) : JV X T W (.Compare a [op, op'] [b, c] pos) (mChain g g' ma mb mc) :=
  PEimp (pe_chain opAny opAny ha hb hc hm) fun σ H Q h => runChain ho ho' h
theorem jt_chain {op op' : CmpOp} {g g' : D → D → Option D} (ho : Op2 X (compareOp op) g) (ho' : Op2 X (compareOp op') g') (ha : JV X T W a ma) (hb : JV X T W b mb) (hc : JV X T W c mc)
    (hm : lastMarks [op, op'] [b, c] = false := by with_unfolding_all rfl) : JT X T W (.Compare a [op, op'] [b, c] pos) (mT (mChain g g' ma mb mc)) :=
  PTimp (pt_chain opAny opAny ha hb hc hm) fun σ H Q h => runChain ho ho' (runT h)
def mAnd (m m' : M Bool) : M Bool := bnd m fun k => if k = true then m' else ret false
def mOr (m m' : M Bool) : M Bool := bnd m fun k => if k = true then ret true else m'
def mNot (m : M Bool) : M Bool := bnd m fun k => ret (!k)
variable {rest : List Expr} {n n' : M Bool}
theorem jw_and1 (ha : JT X T W a n) : JW X T W (.BoolOp .And [a] pos) n := pw_and1 ha
theorem jw_or1 (ha : JT X T W a n) : JW X T W (.BoolOp .Or [a] pos) n := pw_or1 ha
theorem jw_and (ha : JT X T W a n) (hb : JW X T W (.BoolOp .And (b :: rest) pos) n') : JW X T W (.BoolOp .And (a :: b :: rest) pos) (mAnd n n') := by
  refine PWimp (pw_and ha hb) fun σ H Q ⟨e, F, er, h⟩ => ⟨e, F, er, h.bind.mono fun k e1 H1 F1 er1 mv1 h1 => ?_⟩
  cases k with
  | true => rw [if_pos rfl] at h1 ⊢; exact ⟨e1, F1, er1, h1⟩
  | false => rw [if_neg (by decide)] at h1 ⊢; exact h1.rfin er1 H1 F1 Al.refl
theorem jw_or (ha : JT X T W a n) (hb : JW X T W (.BoolOp .Or (b :: rest) pos) n') : JW X T W (.BoolOp .Or (a :: b :: rest) pos) (mOr n n') := by
  refine PWimp (pw_or ha hb) fun σ H Q ⟨e, F, er, h⟩ => ⟨e, F, er, h.bind.mono fun k e1 H1 F1 er1 mv1 h1 => ?_⟩
  cases k with
  | false => rw [if_neg (by decide)] at h1 ⊢; exact ⟨e1, F1, er1, h1⟩
  | true => rw [if_pos rfl] at h1 ⊢; exact h1.rfin er1 H1 F1 Al.refl
theorem ofW (h : JW X T W a n) : JT X T W a n := h.pt
theorem jt_not (ha : JT X T W a n) : JT X T W (.UnaryOp .Not a pos) (mNot n) :=
  PTimp (pt_not ha) fun σ H Q ⟨e, F, er, h⟩ => ⟨e, F, er, h.bind.mono fun k e1 H1 F1 er1 mv1 h1 => h1.rfin er1 H1 F1 Al.refl⟩
def mAndV (m m' : M D) : M D := bnd m fun d => bnd (opt (asB d)) fun k => if k = true then m' else ret (.bl false)
def mOrV (m m' : M D) : M D := bnd m fun d => bnd (opt (asB d)) fun k => if k = true then ret (.bl true) else m'
def mNotV (m : M D) : M D := bnd m fun d => opt ((asB d).map fun k => .bl (!k))
theorem jv_one {op} (h : JV X T W a ma) : JV X T W (.BoolOp op [a] pos) ma := pe_one h
theorem jv_and (ha : JV X T W a ma) (hb : JV X T W (.BoolOp .And (b :: rest) pos) mb) : JV X T W (.BoolOp .And (a :: b :: rest) pos) (mAndV ma mb) := by
  refine PEimp (pe_and ha hb) fun σ H Q ⟨e, F, er, h⟩ => ⟨e, F, er, h.bind.mono fun d e1 H1 F1 er1 mv1 h1 v hv => ?_⟩
  obtain ⟨k, hk, fin⟩ := h1.bind.fin er1
  cases d <;> cases hk
  unfold Rp at hv
  refine ⟨k, hv, ?_⟩
  have h2 := fin H1 F1 Al.refl
  cases k with
  | true => rw [if_pos rfl] at h2 ⊢; exact ⟨e1, F1, er1, h2⟩
  | false => rw [if_neg (by decide)] at h2 ⊢; exact h2.rfin er1 H1 F1 Al.refl _ (by unfold Rp; rfl)
theorem jv_or (ha : JV X T W a ma) (hb : JV X T W (.BoolOp .Or (b :: rest) pos) mb) : JV X T W (.BoolOp .Or (a :: b :: rest) pos) (mOrV ma mb) := by
  refine PEimp (pe_or ha hb) fun σ H Q ⟨e, F, er, h⟩ => ⟨e, F, er, h.bind.mono fun d e1 H1 F1 er1 mv1 h1 v hv => ?_⟩
  obtain ⟨k, hk, fin⟩ := h1.bind.fin er1
  cases d <;> cases hk
  unfold Rp at hv
  refine ⟨k, hv, ?_⟩
  have h2 := fin H1 F1 Al.refl
  cases k with
  | false => rw [if_neg (by decide)] at h2 ⊢; exact ⟨e1, F1, er1, h2⟩
  | true => rw [if_pos rfl] at h2 ⊢; exact h2.rfin er1 H1 F1 Al.refl _ (by unfold Rp; rfl)
theorem jv_not (ha : JV X T W a ma) : JV X T W (.UnaryOp .Not a pos) (mNotV ma) := by
  refine PEimp (pe_not ha) fun σ H Q ⟨e, F, er, h⟩ => ⟨e, F, er, h.bind.mono fun d e1 H1 F1 er1 mv1 h1 v hv => ?_⟩
  obtain ⟨z, hz, fin⟩ := h1.fin er1
  cases d <;> cases hz
  unfold Rp at hv
  exact ⟨_, hv, fin H1 F1 Al.refl _ (by unfold Rp; rfl)⟩
def mIf (n : M Bool) (ma mb : M D) : M D := bnd n fun k => if k = true then ma else mb
theorem jv_if {c : Expr} (hc : JT X T W c n) (ha : JV X T W a ma) (hb : JV X T W b mb) : JV X T W (.IfExp c a b pos) (mIf n ma mb) := by
  refine PEimp (pe_ifExp hc ha hb) fun σ H Q ⟨e, F, er, h⟩ => ⟨e, F, er, h.bind.mono fun k e1 H1 F1 er1 mv1 h1 => ?_⟩
  cases k with
  | true => rw [if_pos rfl] at h1 ⊢; exact ⟨e1, F1, er1, h1⟩
  | false => rw [if_neg (by decide)] at h1 ⊢; exact ⟨e1, F1, er1, h1⟩
def dTru : D → Option Bool
  | .non => some false
  | .bl b => some b
  | .int i => some (i != 0)
  | .str y => if y.length ≤ sizeLine then some ((y.length : Int) != 0) else none
  | .lst ds => some (!ds.isEmpty)
  | .tup ds => some (!ds.isEmpty)
  | .dk ds => some (!ds.isEmpty)
  | _ => none
theorem RpL.isEmpty {K : PySem.W.Frag} {mg : Str → Option Value} {F : Hp} {ds : List D} {xs : List V} (h : RpL K mg F ds xs) : ds.isEmpty = xs.isEmpty := by
  cases ds with
  | nil => unfold RpL at h; subst h; rfl
  | cons d ds => unfold RpL at h; obtain ⟨v, vs, rfl, _⟩ := h; rfl
theorem RpK.isEmpty {K : PySem.W.Frag} {mg : Str → Option Value} {F : Hp} {ds : List (Key × D)} {xs : List (Key × V)} (h : RpK K mg F ds xs) : ds.isEmpty = xs.isEmpty := by
  cases ds with
  | nil => unfold RpK at h; subst h; rfl
  | cons d ds => obtain ⟨k, d⟩ := d; unfold RpK at h; obtain ⟨v, vs, rfl, _⟩ := h; rfl
theorem dTru_ok {H F : Hp} {d : D} {v : V} {k : Bool} (s : Same F H) (r : Rq X.K X.mg H F d v) (h : dTru d = some k) : TruV X.K v H k := by
  cases d with
  | non => unfold Rq Rp at r; subst r; simp only [dTru, Option.some.injEq] at h; subst h; rfl
  | bl b => unfold Rq Rp at r; subst r; simp only [dTru, Option.some.injEq] at h; subst h; rfl
  | int i => unfold Rq Rp at r; subst r; simp only [dTru, Option.some.injEq] at h; subst h; rfl
  | str y =>
    unfold Rq Rp at r; subst r
    simp only [dTru] at h
    split at h
    · rename_i hz; cases h; exact ⟨hz, rfl⟩
    · cases h
  | byt b => cases h
  | lst ds =>
    obtain ⟨a, xs, rfl, q, r⟩ := r
    simp only [dTru, Option.some.injEq] at h; subst h
    exact .inl ⟨xs, SqL.of q, by rw [r.isEmpty]⟩
  | tup ds =>
    unfold Rq Rp at r
    obtain ⟨a, xs, rfl, q, r⟩ := r
    simp only [dTru, Option.some.injEq] at h; subst h
    exact .inr (.inl ⟨xs, seqT_mono s q, by rw [r.isEmpty]⟩)
  | dk ds =>
    obtain ⟨a, xs, rfl, q, r⟩ := r
    simp only [dTru, Option.some.injEq] at h; subst h
    exact .inr (.inr ⟨xs, q, by rw [r.isEmpty]⟩)
  | dt ds => cases h
  | obj c fs => cases h
  | scr ns => cases h
def mTru (m : M Bv) : M Bool := bnd m fun b => bnd (der b) fun d => opt (dTru d)
theorem jt_truth {m : M Bv} (ha : JB X T W a m) (he : ∀ whole, isTrue a X.env whole = (do let v ← whole; standAt a.pos; holding [v] (truthy v)) := by intro _; rfl) : JT X T W a (mTru m) := by
  refine PTimp (pt_truth ha he) fun σ H Q ⟨e, F, er, h⟩ => ⟨e, F, er, h.bind.mono fun b e1 H1 F1 er1 mv1 h1 v hv => ?_⟩
  obtain ⟨d, r1, h3⟩ := der_fin h1.bind er1 hv
  obtain ⟨k, hk, fin⟩ := h3.fin er1
  exact ⟨k, dTru_ok er1.sub r1 hk, fin H1 F1 Al.refl⟩
theorem jt_val (ha : JV X T W a ma) (he : ∀ whole, isTrue a X.env whole = (do let v ← whole; standAt a.pos; holding [v] (truthy v)) := by intro _; rfl) : JT X T W a (mT ma) :=
  PTimp (pt_val ha he) fun σ H Q h => runT h
def mNil : M (List D) := ret []
def mCons (m : M D) (ms : M (List D)) : M (List D) := bnd m fun d => bnd ms fun ds => ret (d :: ds)
theorem PAimp {es : List Expr} {t t' : TA} (h : PA X es t) (k : ∀ σ H Q, t' σ H Q → t σ H Q) : PA X es t' := ⟨fun pos pins s σ H Q I q => h.run pos pins s σ H Q I (k σ H Q q)⟩
theorem ja_nil : JA X T W [] mNil := PAimp pa_nil fun σ H Q ⟨e, F, er, h⟩ => h.rfin er H F Al.refl _ (by unfold RpL; rfl)
theorem ja_cons {e : Expr} {es : List Expr} {m : M D} {ms : M (List D)} (ha : JV X T W e m) (hr : JA X T W es ms) (hs : starEach (e :: es) X.env = (false, eval e X.env) :: starEach es X.env := by rfl) : JA X T W (e :: es) (mCons m ms) := by
  refine PAimp (pa_cons ha hr hs) fun σ H Q ⟨e, F, er, h⟩ => ⟨e, F, er, h.bind.mono fun d e1 H1 F1 er1 mv1 h1 v hv => ⟨e1, F1, er1, h1.bind.mono fun ds e2 H2 F2 er2 mv2 h2 vs hvs => ?_⟩⟩
  exact h2.rfin er2 H2 F2 Al.refl _ (by unfold RpL; exact ⟨v, vs, rfl, Rp.mono mv2.sub _ _ hv, hvs⟩)
theorem RpL.len {K : PySem.W.Frag} {mg : Str → Option Value} {F : Hp} : ∀ {ds : List D} {xs : List V}, RpL K mg F ds xs → ds.length = xs.length
  | [], xs, h => by unfold RpL at h; subst h; rfl
  | d :: ds, xs, h => by unfold RpL at h; obtain ⟨v, vs, rfl, _, q⟩ := h; rw [List.length_cons, List.length_cons, q.len]
def mTup (ms : M (List D)) : M D := bnd ms fun ds => opt (if ds.length ≤ sizeLine then some (.tup ds) else none)
def mLst (ms : M (List D)) : M D := bnd ms fun ds => opt (if ds.length ≤ sizeLine then some (.lst ds) else none)
theorem jv_tup {es : List Expr} {x1} {ms : M (List D)} (h : JA X T W es ms) : JV X T W (.Tuple es x1 pos) (mTup ms) := by
  refine PEimp (pe_tup h) fun σ H Q ⟨e, F, er, h⟩ => ⟨e, F, er, h.bind.mono fun ds e1 H1 F1 er1 mv1 h1 vs hvs => ?_⟩
  obtain ⟨d, hd, fin⟩ := h1.fin er1
  split at hd
  · rename_i hz
    cases hd
    refine ⟨by rw [← hvs.len]; exact hz, fun p hp => fin _ _ (Al.one hp) _ ?_⟩
    unfold Rp
    exact ⟨p, vs, rfl, SqT.of upd_same, RpL.mono (same_upd (er1.sub.free hp)) _ _ hvs⟩
  · cases hd
end
theorem RunAt.new {K : PySem.W.Frag} {mg : Str → Option Value} {T : Option Addr} {W : WX} {e : En} {σ : St} {H F : Hp} {d : D} {P : D → En → Hp → Hp → Prop} {p : Addr} {o : HO} (h : RunAt K mg T W e F (ret d) σ H P) (er : ER K mg T e σ H F) (hp : H p = none) : P d e (upd H p o) F := by
  have s : Same H (upd H p o) := same_upd hp
  refine h _ F ⟨er.sub.trans s, er.val, fun i d q => ?_, er.inj, er.len, er.pin⟩ ⟨Same.refl _, fun a u q n => ⟨s a u q, n⟩, fun a u q => .inl q, fun a q => s.free q⟩
  obtain ⟨p', h1, h2, h3⟩ := er.own i d q
  exact ⟨p', h1, h2, h3.keep (Same.refl _) (s p')⟩
section
variable {X : Cx} {T : Option Addr} {W : WX} {pos : Pos} {a b c : Expr} {ma mb mc : M D}
theorem jo_lst {es : List Expr} {ms : M (List D)} (h : JA X T W es ms) : JO X T W (.List es pos) (mLst ms) := by
  refine PEimp (pe_lst h) fun σ H Q ⟨e, F, er, h⟩ => ⟨e, F, er, h.bind.mono fun ds e1 H1 F1 er1 mv1 h1 vs hvs => ?_⟩
  unfold opt at h1
  split at h1
  · rename_i d hd
    split at hd
    · rename_i hz
      cases hd
      refine ⟨by rw [← hvs.len]; exact hz, fun p hp => ?_⟩
      exact (h1.new er1 hp) p (mv1.there p hp) (er1.sub.free hp) (Ow.ne_of_free er1 hp) ⟨vs, upd_same, hvs⟩
    · cases hd
  · exact h1.elim
end
end Sr
namespace Sr
open PySem PySem.Spec L2
open PyProof.Rows hiding St
section
variable {K : PySem.W.Frag} {mg : Str → Option Value} {F H : Hp}
theorem rp_int {i : Int} {v : V} : Rp K mg F (.int i) v ↔ v = .int i := by unfold Rp; exact Iff.rfl
theorem rp_str {x : Str} {v : V} : Rp K mg F (.str x) v ↔ v = .str x := by unfold Rp; exact Iff.rfl
theorem rp_bl {x : Bool} {v : V} : Rp K mg F (.bl x) v ↔ v = .bl x := by unfold Rp; exact Iff.rfl
theorem rp_non {v : V} : Rp K mg F .non v ↔ v = .non := by unfold Rp; exact Iff.rfl
theorem rp_byt {x : Array UInt8} {v : V} : Rp K mg F (.byt x) v ↔ v = .byt x := by unfold Rp; exact Iff.rfl
theorem rq_int {i : Int} {v : V} : Rq K mg H F (.int i) v ↔ v = .int i := by unfold Rq Rp; exact Iff.rfl
theorem rq_str {x : Str} {v : V} : Rq K mg H F (.str x) v ↔ v = .str x := by unfold Rq Rp; exact Iff.rfl
theorem rq_bl {x : Bool} {v : V} : Rq K mg H F (.bl x) v ↔ v = .bl x := by unfold Rq Rp; exact Iff.rfl
theorem rq_non {v : V} : Rq K mg H F .non v ↔ v = .non := by unfold Rq Rp; exact Iff.rfl
theorem rq_byt {x : Array UInt8} {v : V} : Rq K mg H F (.byt x) v ↔ v = .byt x := by unfold Rq Rp; exact Iff.rfl
theorem rq_tup {ds : List D} {v : V} : Rq K mg H F (.tup ds) v ↔ ∃ a xs, v = .ref a ∧ SqT K F a xs ∧ RpL K mg F ds xs := by
  show Rp K mg F (.tup ds) v ↔ _
  rw [Rp]
theorem rq_scr {ns : List Int} {v : V} : Rq K mg H F (.scr ns) v ↔ ∃ a, v = .ref a ∧ SqL K F a (ns.map V.int) := by
  show Rp K mg F (.scr ns) v ↔ _
  rw [Rp]
theorem rp_lst {ds : List D} {v : V} : Rp K mg F (.lst ds) v ↔ ∃ a xs, v = .ref a ∧ F a = some (.lst xs) ∧ RpL K mg F ds xs := by rw [Rp]
theorem rp_tup {ds : List D} {v : V} : Rp K mg F (.tup ds) v ↔ ∃ a xs, v = .ref a ∧ SqT K F a xs ∧ RpL K mg F ds xs := by rw [Rp]
theorem rp_dk {ds : List (Key × D)} {v : V} : Rp K mg F (.dk ds) v ↔ ∃ a xs, v = .ref a ∧ F a = some (.dK xs) ∧ RpK K mg F ds xs := by rw [Rp]
theorem rp_obj {c : Str} {fs : List (Str × D)} {v : V} : Rp K mg F (.obj c fs) v ↔ ∃ a C dx gs, v = .ref a ∧ mg c = some (.ref C) ∧ F a = some (.ins C dx gs) ∧ RpF K mg F fs gs := by rw [Rp]
theorem rp_scr {ns : List Int} {v : V} : Rp K mg F (.scr ns) v ↔ ∃ a, v = .ref a ∧ SqL K F a (ns.map V.int) := by rw [Rp]
theorem rl_nil {xs : List V} : RpL K mg F [] xs ↔ xs = [] := by rw [RpL]
theorem rl_cons {d : D} {ds : List D} {xs : List V} : RpL K mg F (d :: ds) xs ↔ ∃ v vs, xs = v :: vs ∧ Rp K mg F d v ∧ RpL K mg F ds vs := by rw [RpL]
theorem RpL.get : ∀ {ds : List D} {xs : List V} {i : Nat} {d : D}, RpL K mg F ds xs → ds[i]? = some d → ∃ v, xs[i]? = some v ∧ Rp K mg F d v
  | [], _, _, _, _, e => by simp at e
  | d :: ds, xs, 0, d', h, e => by
    rw [rl_cons] at h
    obtain ⟨v, vs, rfl, r, _⟩ := h
    simp at e; subst e
    exact ⟨v, rfl, r⟩
  | d :: ds, xs, i + 1, d', h, e => by
    rw [rl_cons] at h
    obtain ⟨v, vs, rfl, _, q⟩ := h
    simp at e
    obtain ⟨w, h1, h2⟩ := RpL.get (i := i) q e
    exact ⟨w, by simpa using h1, h2⟩
theorem RpL.append : ∀ {ds es : List D} {xs ys : List V}, RpL K mg F ds xs → RpL K mg F es ys → RpL K mg F (ds ++ es) (xs ++ ys)
  | [], es, xs, ys, h, q => by rw [rl_nil] at h; subst h; exact q
  | d :: ds, es, xs, ys, h, q => by
    rw [rl_cons] at h
    obtain ⟨v, vs, rfl, r, h⟩ := h
    rw [List.cons_append, rl_cons]
    exact ⟨v, vs ++ ys, rfl, r, RpL.append h q⟩
theorem RpL.take : ∀ (n : Nat) {ds : List D} {xs : List V}, RpL K mg F ds xs → RpL K mg F (ds.take n) (xs.take n)
  | 0, ds, xs, h => by simp [rl_nil]
  | n + 1, [], xs, h => by rw [rl_nil] at h; subst h; simp [rl_nil]
  | n + 1, d :: ds, xs, h => by
    rw [rl_cons] at h
    obtain ⟨v, vs, rfl, r, h⟩ := h
    rw [List.take_succ_cons, rl_cons]
    exact ⟨v, vs.take n, by simp, r, RpL.take n h⟩
theorem RpL.drop : ∀ (n : Nat) {ds : List D} {xs : List V}, RpL K mg F ds xs → RpL K mg F (ds.drop n) (xs.drop n)
  | 0, ds, xs, h => h
  | n + 1, [], xs, h => by rw [rl_nil] at h; subst h; simp [rl_nil]
  | n + 1, d :: ds, xs, h => by
    rw [rl_cons] at h
    obtain ⟨v, vs, rfl, r, h⟩ := h
    simp only [List.drop_succ_cons]
    exact RpL.drop n h
theorem RpL.set {d : D} {v : V} (r : Rp K mg F d v) : ∀ (i : Nat) {ds : List D} {xs : List V}, RpL K mg F ds xs → RpL K mg F (ds.set i d) (xs.set i v)
  | _, [], xs, h => by rw [rl_nil] at h; subst h; simp [rl_nil]
  | 0, d' :: ds, xs, h => by
    rw [rl_cons] at h
    obtain ⟨w, vs, rfl, _, h⟩ := h
    rw [List.set_cons_zero, List.set_cons_zero, rl_cons]
    exact ⟨v, vs, rfl, r, h⟩
  | i + 1, d' :: ds, xs, h => by
    rw [rl_cons] at h
    obtain ⟨w, vs, rfl, r', h⟩ := h
    rw [List.set_cons_succ, List.set_cons_succ, rl_cons]
    exact ⟨w, vs.set i v, rfl, r', RpL.set r i h⟩
theorem RpL.ints : ∀ {ns : List Int} {xs : List V}, RpL K mg F (ns.map D.int) xs → xs = ns.map V.int
  | [], xs, h => by simpa [rl_nil] using h
  | n :: ns, xs, h => by
    rw [List.map_cons, rl_cons] at h
    obtain ⟨v, vs, rfl, r, h⟩ := h
    rw [rp_int] at r; subst r
    rw [RpL.ints h, List.map_cons]
end
section
variable {X : Cx}
def gI (c : Int → Int → Bool) (f : Int → Int → D) : D → D → Option D
  | .int i, .int j => if c i j = true then some (f i j) else none
  | _, _ => none
def gI0 (f : Int → Int → D) : D → D → Option D
  | .int i, .int j => some (f i j)
  | _, _ => none
theorem op2_i {f : Value → Value → Sem Value} {C : Int → Int → Prop} {c : Int → Int → Bool} {g : Int → Int → V} {g' : Int → Int → D} (ho : OpR X f (rI C g)) (hc : ∀ i j, c i j = true → C i j) (hg : ∀ i j F, Rp X.K X.mg F (g' i j) (g i j)) : Op2 X f (gI c g') := by
  intro H F x y d1 d2 d s r1 r2 e
  unfold gI at e
  split at e
  · rename_i i j
    split at e
    · rename_i hcc
      cases e
      rw [rq_int] at r1 r2
      exact ⟨_, ho, fun Q q => ⟨i, j, r1, r2, hc i j hcc, q H F _ Al.refl (hg i j F)⟩⟩
    · cases e
  · cases e
theorem op2_i0 {f : Value → Value → Sem Value} {g : Int → Int → V} {g' : Int → Int → D} (ho : OpR X f (rI0 g)) (hg : ∀ i j F, Rp X.K X.mg F (g' i j) (g i j)) : Op2 X f (gI0 g') := by
  intro H F x y d1 d2 d s r1 r2 e
  unfold gI0 at e
  split at e
  · rename_i i j
    cases e
    rw [rq_int] at r1 r2
    exact ⟨_, ho, fun Q q => ⟨i, j, r1, r2, q H F _ Al.refl (hg i j F)⟩⟩
  · cases e
def gSub : D → D → Option D := gI0 fun i j => .int (i - j)
def cMul (i j : Int) : Bool := (decide (-(2 ^ 64) < i) && decide (i < 2 ^ 64)) || (decide (-(2 ^ 64) < j) && decide (j < 2 ^ 64))
def gMulI : D → D → Option D := gI cMul fun i j => .int (i * j)
def cDiv (_ j : Int) : Bool := decide (0 < j) && decide (j < 1073741824)
def gDiv : D → D → Option D := gI cDiv fun i j => .int (i / j)
def gMod : D → D → Option D := gI (fun _ j => decide (0 < j)) fun i j => .int (i % j)
def cPow (i j : Int) : Bool := decide (0 ≤ j) && decide (j ≤ 1000000) && decide (i.natAbs < 2 ^ 64)
def gPow : D → D → Option D := gI cPow fun i j => .int (i ^ j.toNat)
def gShl : D → D → Option D := gI cPow fun i j => .int (i * 2 ^ j.toNat)
def gShr : D → D → Option D := gI (fun _ j => decide (0 ≤ j)) fun i j => .int (i / 2 ^ j.toNat)
def gAndI : D → D → Option D := gI0 fun i j => .int (Builtin.bitAnd i j)
theorem o_sub : Op2 X (binaryOp .Sub) gSub := op2_i0 op_sub fun _ _ _ => by rw [rp_int]
theorem o_mulI : Op2 X (binaryOp .Mult) gMulI := op2_i op_mul (fun i j h => by
  unfold cMul at h
  simp only [Bool.or_eq_true, Bool.and_eq_true, decide_eq_true_eq] at h
  exact h) fun _ _ _ => by rw [rp_int]
theorem o_div : Op2 X (binaryOp .FloorDiv) gDiv := op2_i op_fdiv (fun i j h => by
  unfold cDiv at h
  simp only [Bool.and_eq_true, decide_eq_true_eq] at h
  exact h) fun _ _ _ => by rw [rp_int]
theorem o_mod : Op2 X (binaryOp .Mod) gMod := op2_i op_mod (fun i j h => of_decide_eq_true h) fun _ _ _ => by rw [rp_int]
theorem o_pow : Op2 X (binaryOp .Pow) gPow := op2_i op_pow (fun i j h => by
  unfold cPow at h
  simp only [Bool.and_eq_true, decide_eq_true_eq] at h
  exact ⟨h.1.1, h.1.2, h.2⟩) fun _ _ _ => by rw [rp_int]
theorem o_shl : Op2 X (binaryOp .LShift) gShl := op2_i op_shl (fun i j h => by
  unfold cPow at h
  simp only [Bool.and_eq_true, decide_eq_true_eq] at h
  exact ⟨h.1.1, h.1.2, h.2⟩) fun _ _ _ => by rw [rp_int]
theorem o_shr : Op2 X (binaryOp .RShift) gShr := op2_i op_shr (fun i j h => of_decide_eq_true h) fun _ _ _ => by rw [rp_int]
theorem o_andI : Op2 X (binaryOp .BitAnd) gAndI := op2_i0 op_and fun _ _ _ => by rw [rp_int]
theorem o_lt : Op2 X (compareOp .Lt) (gI0 fun i j => .bl (decide (i < j))) := op2_i0 op_lt fun _ _ _ => by rw [rp_bl]
theorem o_le : Op2 X (compareOp .LtE) (gI0 fun i j => .bl (decide (i ≤ j))) := op2_i0 op_le fun _ _ _ => by rw [rp_bl]
theorem o_gt : Op2 X (compareOp .Gt) (gI0 fun i j => .bl (decide (j < i))) := op2_i0 op_gt fun _ _ _ => by rw [rp_bl]
theorem o_ge : Op2 X (compareOp .GtE) (gI0 fun i j => .bl (decide (j ≤ i))) := op2_i0 op_ge fun _ _ _ => by rw [rp_bl]
def gAddI : D → D → Option D := gI0 fun i j => .int (i + j)
def gAddS : D → D → Option D
  | .str x, .str y => if x.length + y.length ≤ sizeLine then some (.str (x ++ y)) else none
  | _, _ => none
def gAddT : D → D → Option D
  | .tup xs, .tup ys => if xs.length + ys.length ≤ sizeLine then some (.tup (xs ++ ys)) else none
  | _, _ => none
def gAddL : D → D → Option D
  | .lst xs, .lst ys => if xs.length + ys.length ≤ sizeLine then some (.lst (xs ++ ys)) else none
  | _, _ => none
theorem o_addI : Op2 X (binaryOp .Add) gAddI := op2_i0 op_add fun _ _ _ => by rw [rp_int]
theorem o_addS : Op2 X (binaryOp .Add) gAddS := by
  intro H F x y d1 d2 d s r1 r2 e
  unfold gAddS at e
  split at e
  · split at e
    · rename_i hz
      cases e
      rw [rq_str] at r1 r2
      exact ⟨_, op_add_str, fun Q q => ⟨_, _, r1, r2, hz, q H F _ Al.refl (by rw [rp_str])⟩⟩
    · cases e
  · cases e
theorem o_addT : Op2 X (binaryOp .Add) gAddT := by
  intro H F x y d1 d2 d s r1 r2 e
  unfold gAddT at e
  split at e
  · split at e
    · rename_i ds es hz
      cases e
      rw [rq_tup] at r1 r2
      obtain ⟨a, xs, rfl, q1, l1⟩ := r1
      obtain ⟨b, ys, rfl, q2, l2⟩ := r2
      have hT : ∀ p, H p = none → Rp X.K X.mg (upd F p (.tup (xs ++ ys))) (.tup (ds ++ es)) (.ref p) := fun p hp => by
        rw [rp_tup]
        exact ⟨p, _, rfl, SqT.of upd_same, RpL.mono (same_upd (s.free hp)) _ _ (l1.append l2)⟩
      refine ⟨_, op_catA, fun Q q => ⟨a, b, xs, ys, rfl, rfl, seqT_mono s q1, seqT_mono s q2, by rw [← l1.len, ← l2.len]; exact hz, fun e0 => ?_, fun _ e0 => ?_, fun _ _ p hp => q _ _ _ (Al.one hp) (hT p hp)⟩⟩
      · subst e0
        have e1 : ds = [] := List.length_eq_zero_iff.mp (by rw [l1.len]; rfl)
        subst e1
        refine q H F _ Al.refl ?_
        rw [rp_tup]
        exact ⟨b, ys, rfl, q2, l2⟩
      · subst e0
        have e1 : es = [] := List.length_eq_zero_iff.mp (by rw [l2.len]; rfl)
        subst e1
        rw [List.append_nil] at q
        refine q H F _ Al.refl ?_
        rw [rp_tup]
        exact ⟨a, xs, rfl, q1, l1⟩
    · cases e
  · cases e
theorem o_addL : Op2 X (binaryOp .Add) gAddL := by
  intro H F x y d1 d2 d s r1 r2 e
  unfold gAddL at e
  split at e
  · split at e
    · rename_i ds es hz
      cases e
      obtain ⟨a, xs, rfl, q1, l1⟩ := r1
      obtain ⟨b, ys, rfl, q2, l2⟩ := r2
      refine ⟨_, op_cat, fun Q q => ⟨a, b, xs, ys, rfl, rfl, q1, q2, by rw [← l1.len, ← l2.len]; exact hz, fun p hp => q _ _ _ (Al.one hp) ?_⟩⟩
      rw [rp_lst]
      exact ⟨p, _, rfl, upd_same, RpL.mono (same_upd (s.free hp)) _ _ (l1.append l2)⟩
    · cases e
  · cases e
def gAdd : D → D → Option D := fun a b => (gAddI a b).or ((gAddS a b).or ((gAddT a b).or (gAddL a b)))
theorem o_add : Op2 X (binaryOp .Add) gAdd := o_addI.or (o_addS.or (o_addT.or o_addL))
mutual
def toP : D → Option PyData
  | .non => some .none
  | .bl b => some (.bool b)
  | .int i => some (.int i)
  | .str x => some (.str x)
  | .lst ds => (toPL ds).map PyData.list
  | .tup ds => (toPL ds).map PyData.tuple
  | _ => none
def toPL : List D → Option (List PyData)
  | [] => some []
  | d :: ds => (toP d).bind fun p => (toPL ds).map fun ps => p :: ps
end
section
variable {K : PySem.W.Frag} {mg : Str → Option Value} {F H : Hp}
mutual
theorem Rp.dp (s : Same F H) : ∀ (d : D) (v : V) (p : PyData), toP d = some p → Rp K mg F d v → Dp K H v p
  | .non, v, p, e, h => by rw [rp_non] at h; subst h; simp only [toP, Option.some.injEq] at e; subst e; exact .non
  | .bl b, v, p, e, h => by rw [rp_bl] at h; subst h; simp only [toP, Option.some.injEq] at e; subst e; exact .bl b
  | .int i, v, p, e, h => by rw [rp_int] at h; subst h; simp only [toP, Option.some.injEq] at e; subst e; exact .int i
  | .str x, v, p, e, h => by rw [rp_str] at h; subst h; simp only [toP, Option.some.injEq] at e; subst e; exact .str x
  | .lst ds, v, p, e, h => by
    rw [rp_lst] at h
    obtain ⟨a, xs, rfl, q, l⟩ := h
    simp only [toP, Option.map_eq_some_iff] at e
    obtain ⟨ps, e, rfl⟩ := e
    exact .lst (SqL.of (s _ _ q)) (RpL.dp s ds xs ps e l)
  | .tup ds, v, p, e, h => by
    rw [rp_tup] at h
    obtain ⟨a, xs, rfl, q, l⟩ := h
    simp only [toP, Option.map_eq_some_iff] at e
    obtain ⟨ps, e, rfl⟩ := e
    exact .tup (seqT_mono s q) (RpL.dp s ds xs ps e l)
  | .byt _, v, p, e, h => by simp [toP] at e
  | .dk _, v, p, e, h => by simp [toP] at e
  | .dt _, v, p, e, h => by simp [toP] at e
  | .obj _ _, v, p, e, h => by simp [toP] at e
  | .scr _, v, p, e, h => by simp [toP] at e
theorem RpL.dp (s : Same F H) : ∀ (ds : List D) (xs : List V) (ps : List PyData), toPL ds = some ps → RpL K mg F ds xs → DpAll K H xs ps
  | [], xs, ps, e, h => by rw [rl_nil] at h; subst h; simp only [toPL, Option.some.injEq] at e; subst e; exact .nil
  | d :: ds, xs, ps, e, h => by
    rw [rl_cons] at h
    obtain ⟨v, vs, rfl, r, l⟩ := h
    simp only [toPL, Option.bind_eq_some_iff, Option.map_eq_some_iff] at e
    obtain ⟨p, e1, qs, e2, rfl⟩ := e
    exact .cons (Rp.dp s d v p e1 r) (RpL.dp s ds vs qs e2 l)
end
theorem Rq.dp (s : Same F H) {d : D} {v : V} {p : PyData} (e : toP d = some p) (h : Rq K mg H F d v) : Dp K H v p := by
  cases d with
  | lst ds =>
    obtain ⟨a, xs, rfl, q, l⟩ := h
    simp only [toP, Option.map_eq_some_iff] at e
    obtain ⟨ps, e, rfl⟩ := e
    exact .lst (SqL.of q) (RpL.dp s ds xs ps e l)
  | dk ds => simp [toP] at e
  | dt ds => simp [toP] at e
  | obj c fs => simp [toP] at e
  | _ => exact Rp.dp (mg := mg) s _ _ _ e h
end
def eqS : D → D → Option Bool
  | .int i, .int j => some (decide (i = j))
  | .str i, .str j => some (decide (i = j))
  | .bl i, .bl j => some (decide (i = j))
  | .non, .non => some true
  | .byt i, .byt j => some (decide (i = j))
  | _, _ => none
def eqDeep (a b : D) : Option Bool := match toP a, toP b with
  | some p, some q => if (SeqAt.shaped p && SeqAt.shaped q) = true then some (PyData.eqv p q) else none
  | _, _ => none
def dEq (a b : D) : Option Bool := (eqS a b).or (eqDeep a b)
def gEq (a b : D) : Option D := (dEq a b).map D.bl
def gNe (a b : D) : Option D := (dEq a b).map fun k => D.bl (!k)
theorem eqS_ok {K : PySem.W.Frag} {mg : Str → Option Value} {F H : Hp} {d1 d2 : D} {x y : V} {k : Bool} (r1 : Rq K mg H F d1 x) (r2 : Rq K mg H F d2 y) (e : eqS d1 d2 = some k) : scal x y = true ∧ decide (x = y) = k := by
  unfold eqS at e
  split at e
  · rw [rq_int] at r1 r2; subst r1 r2; cases e; exact ⟨rfl, by simp⟩
  · rw [rq_str] at r1 r2; subst r1 r2; cases e; exact ⟨rfl, by simp⟩
  · rw [rq_bl] at r1 r2; subst r1 r2; cases e; exact ⟨rfl, by simp⟩
  · rw [rq_non] at r1 r2; subst r1 r2; cases e; exact ⟨rfl, by simp⟩
  · rw [rq_byt] at r1 r2; subst r1 r2; cases e; exact ⟨rfl, by simp⟩
  · cases e
theorem eqDeep_ok {K : PySem.W.Frag} {mg : Str → Option Value} {F H : Hp} (s : Same F H) {d1 d2 : D} {x y : V} {k : Bool} (r1 : Rq K mg H F d1 x) (r2 : Rq K mg H F d2 y) (e : eqDeep d1 d2 = some k) : ∃ p q, Dp K H x p ∧ Dp K H y q ∧ SeqAt.shaped p = true ∧ SeqAt.shaped q = true ∧ PyData.eqv p q = k := by
  unfold eqDeep at e
  split at e
  · rename_i p q e1 e2
    split at e
    · rename_i hs
      rw [Bool.and_eq_true] at hs
      exact ⟨p, q, Rq.dp s e1 r1, Rq.dp s e2 r2, hs.1, hs.2, by cases e; rfl⟩
    · cases e
  · cases e
theorem o_eq (hu : X.A.units + 64 < cLine) : Op2 X (compareOp .Eq) gEq := by
  intro H F x y d1 d2 d s r1 r2 e
  simp only [gEq, Option.map_eq_some_iff] at e
  obtain ⟨k, e, rfl⟩ := e
  unfold dEq at e
  cases q : eqS d1 d2 with
  | some k' =>
    rw [q, Option.some_or] at e; cases e
    obtain ⟨h1, h2⟩ := eqS_ok r1 r2 q
    exact ⟨_, op_eq, fun Q q => ⟨h1, by rw [h2]; exact q H F _ Al.refl (by rw [rp_bl])⟩⟩
  | none =>
    rw [q, Option.none_or] at e
    obtain ⟨p, q, h1, h2, h3, h4, h5⟩ := eqDeep_ok s r1 r2 e
    exact ⟨_, op_eqD hu, fun Q qq => ⟨p, q, h1, h2, h3, h4, by rw [h5]; exact qq H F _ Al.refl (by rw [rp_bl])⟩⟩
theorem o_ne (hu : X.A.units + 64 < cLine) : Op2 X (compareOp .NotEq) gNe := by
  intro H F x y d1 d2 d s r1 r2 e
  simp only [gNe, Option.map_eq_some_iff] at e
  obtain ⟨k, e, rfl⟩ := e
  unfold dEq at e
  cases q : eqS d1 d2 with
  | some k' =>
    rw [q, Option.some_or] at e; cases e
    obtain ⟨h1, h2⟩ := eqS_ok r1 r2 q
    exact ⟨_, op_ne, fun Q q => ⟨h1, by rw [h2]; exact q H F _ Al.refl (by rw [rp_bl])⟩⟩
  | none =>
    rw [q, Option.none_or] at e
    obtain ⟨p, q, h1, h2, h3, h4, h5⟩ := eqDeep_ok s r1 r2 e
    exact ⟨_, op_neD hu, fun Q qq => ⟨p, q, h1, h2, h3, h4, by rw [h5]; exact qq H F _ Al.refl (by rw [rp_bl])⟩⟩
def dInts : List D → Option (List Int)
  | [] => some []
  | .int i :: ds => (dInts ds).map fun ns => i :: ns
  | _ => none
theorem dInts_eq : ∀ {ds : List D} {ns : List Int}, dInts ds = some ns → ds = ns.map D.int
  | [], ns, h => by simp only [dInts, Option.some.injEq] at h; subst h; rfl
  | .int i :: ds, ns, h => by
    simp only [dInts, Option.map_eq_some_iff] at h
    obtain ⟨ms, h, rfl⟩ := h
    rw [dInts_eq h]; rfl
  | .non :: _, _, h => by simp [dInts] at h
  | .bl _ :: _, _, h => by simp [dInts] at h
  | .str _ :: _, _, h => by simp [dInts] at h
  | .byt _ :: _, _, h => by simp [dInts] at h
  | .lst _ :: _, _, h => by simp [dInts] at h
  | .tup _ :: _, _, h => by simp [dInts] at h
  | .dk _ :: _, _, h => by simp [dInts] at h
  | .dt _ :: _, _, h => by simp [dInts] at h
  | .obj _ _ :: _, _, h => by simp [dInts] at h
  | .scr _ :: _, _, h => by simp [dInts] at h
def gLtT : D → D → Option D
  | .tup xs, .tup ys => match dInts xs, dInts ys with
    | some ns, some ms => some (.bl (HT.lexLt ns ms))
    | _, _ => none
  | _, _ => none
theorem o_ltT (hu : X.A.units < cLine) : Op2 X (compareOp .Lt) gLtT := by
  intro H F x y d1 d2 d s r1 r2 e
  unfold gLtT at e
  split at e
  · split at e
    · rename_i xs ys ns ms e1 e2
      cases e
      rw [rq_tup] at r1 r2
      obtain ⟨a, xs, rfl, q1, l1⟩ := r1
      obtain ⟨b, ys, rfl, q2, l2⟩ := r2
      rw [dInts_eq e1] at l1
      rw [dInts_eq e2] at l2
      have l1 := l1.ints
      have l2 := l2.ints
      subst l1 l2
      exact ⟨_, op_ltT hu, fun Q q => ⟨a, b, ns, ms, rfl, rfl, seqT_mono s q1, seqT_mono s q2, q H F _ Al.refl (by rw [rp_bl])⟩⟩
    · cases e
  · cases e
def isNon : D → Bool
  | .non => true
  | _ => false
theorem isNon_ok {K : PySem.W.Frag} {mg : Str → Option Value} {F : Hp} {d : D} {v : V} (h : Rp K mg F d v) : decide (v = .non) = isNon d := by
  cases d <;> unfold Rp at h
  · subst h; rfl
  · subst h; rfl
  · subst h; rfl
  · subst h; rfl
  · subst h; rfl
  · obtain ⟨a, xs, rfl, _⟩ := h; rfl
  · obtain ⟨a, xs, rfl, _⟩ := h; rfl
  · obtain ⟨a, xs, rfl, _⟩ := h; rfl
  · obtain ⟨a, xs, rfl, _⟩ := h; rfl
  · obtain ⟨a, C, dx, xs, rfl, _⟩ := h; rfl
  · obtain ⟨a, rfl, _⟩ := h; rfl
end
section
variable {X : Cx} {T : Option Addr} {W : WX} {pos : Pos} {a b c : Expr} {ma mb mc : M D}
def mIsN (m : M D) : M D := bnd m fun d => ret (.bl (isNon d))
def mNotN (m : M D) : M D := bnd m fun d => ret (.bl (!isNon d))
theorem jv_isN {j pos'} (ha : JV X T W a ma) : JV X T W (.Compare a [.Is] [.Constant .none j pos'] pos) (mIsN ma) :=
  PEimp (pe_cmp (pc_isN ha)) fun σ H Q ⟨e, F, er, h⟩ => ⟨e, F, er, h.bind.mono fun d e1 H1 F1 er1 mv1 h1 v hv => by
    dsimp only; rw [isNon_ok hv]; exact h1.rfin er1 H1 F1 Al.refl _ (by rw [rp_bl])⟩
theorem jv_notN {j pos'} (ha : JV X T W a ma) : JV X T W (.Compare a [.IsNot] [.Constant .none j pos'] pos) (mNotN ma) :=
  PEimp (pe_cmp (pc_notN ha)) fun σ H Q ⟨e, F, er, h⟩ => ⟨e, F, er, h.bind.mono fun d e1 H1 F1 er1 mv1 h1 v hv => by
    dsimp only; rw [isNon_ok hv]; exact h1.rfin er1 H1 F1 Al.refl _ (by rw [rp_bl])⟩
theorem jt_isN {j pos'} (ha : JV X T W a ma) : JT X T W (.Compare a [.Is] [.Constant .none j pos'] pos) (mT (mIsN ma)) := by
  refine PTimp (pt_cmp (pc_isN ha)) fun σ H Q h => ?_
  obtain ⟨e, F, er, h⟩ := runT h
  exact ⟨e, F, er, h.bind.mono fun d e1 H1 F1 er1 mv1 h1 v hv => by
    dsimp only; rw [isNon_ok hv]; exact h1.rfin er1 H1 F1 Al.refl _ (by rw [rp_bl])⟩
theorem jt_notN {j pos'} (ha : JV X T W a ma) : JT X T W (.Compare a [.IsNot] [.Constant .none j pos'] pos) (mT (mNotN ma)) := by
  refine PTimp (pt_cmp (pc_notN ha)) fun σ H Q h => ?_
  obtain ⟨e, F, er, h⟩ := runT h
  exact ⟨e, F, er, h.bind.mono fun d e1 H1 F1 er1 mv1 h1 v hv => by
    dsimp only; rw [isNon_ok hv]; exact h1.rfin er1 H1 F1 Al.refl _ (by rw [rp_bl])⟩
def m1 (g : D → Option D) (m : M D) : M D := bnd m fun d => opt (g d)
def gNeg : D → Option D
  | .int i => some (.int (-i))
  | _ => none
theorem jv_neg (ha : JV X T W a ma) : JV X T W (.UnaryOp .USub a pos) (m1 gNeg ma) := by
  refine PEimp (pe_un un_neg ha) fun σ H Q ⟨e, F, er, h⟩ => ⟨e, F, er, h.bind.mono fun d e1 H1 F1 er1 mv1 h1 v hv => ?_⟩
  obtain ⟨z, hz, fin⟩ := h1.fin er1
  cases d <;> cases hz
  rw [rp_int] at hv
  exact ⟨_, hv, fin H1 F1 Al.refl _ (by rw [rp_int])⟩
def Cal (X : Cx) (f : Value) (g : List D → Option D) : Prop :=
  ∀ (H F : Hp) (xs : List V) (ds : List D) (d : D), Same F H → RpL X.K X.mg F ds xs → g ds = some d →
    ∃ r, CallR X f r ∧ ∀ Q : VK, (∀ H' F' z, Al H F H' F' → Rp X.K X.mg F' d z → Q z H') → r xs H Q
def Cal1 (X : Cx) (f : Value) (g : D → Option D) : Prop :=
  ∀ (H F : Hp) (x : V) (d d' : D), Same F H → Rq X.K X.mg H F d x → g d = some d' →
    ∃ r, CallR X f r ∧ ∀ Q : VK, (∀ H' F' z, Al H F H' F' → Rp X.K X.mg F' d' z → Q z H') → r [x] H Q
def rAnyC (X : Cx) (f : Value) : List V → Hp → VK → Prop := fun xs H Q => ∃ r, CallR X f r ∧ r xs H Q
theorem callAny {f : Value} : CallR X f (rAnyC X f) := fun pins s σ H xs us Q I rx ⟨r, hr, q⟩ => hr pins s σ H xs us Q I rx q
def mCal (g : List D → Option D) (ms : M (List D)) : M D := bnd ms fun ds => opt (g ds)
def mCal1 (g : D → Option D) (m : M Bv) : M D := bnd m fun b => bnd (der b) fun d => opt (g d)
theorem runCal {f : Value} {g : List D → Option D} {ms : M (List D)} {σ : St} {H : Hp} {Q : VK} (hc : Cal X f g) (h : TV X.K X.mg T W (mCal g ms) σ H Q) : TAs X.K X.mg T W ms σ H fun vs H1 => rAnyC X f vs H1 Q := by
  obtain ⟨e, F, er, h⟩ := h
  refine ⟨e, F, er, h.bind.mono fun ds e1 H1 F1 er1 mv1 h1 vs hvs => ?_⟩
  obtain ⟨z, hz, fin⟩ := h1.fin er1
  obtain ⟨r, hr, q⟩ := hc H1 F1 vs ds z er1.sub hvs hz
  exact ⟨r, hr, q Q fun H' F' z al hz => fin H' F' al z hz⟩
theorem runCal1 {f : Value} {g : D → Option D} {m : M Bv} {σ : St} {H : Hp} {Q : VK} (hc : Cal1 X f g) (h : TV X.K X.mg T W (mCal1 g m) σ H Q) : TBw X.K X.mg T W m σ H fun v H1 => rAnyC X f [v] H1 Q := by
  obtain ⟨e, F, er, h⟩ := h
  refine ⟨e, F, er, h.bind.mono fun b e1 H1 F1 er1 mv1 h1 v hv => ?_⟩
  obtain ⟨d, r1, h3⟩ := der_fin h1.bind er1 hv
  obtain ⟨z, hz, fin⟩ := h3.fin er1
  obtain ⟨r, hr, q⟩ := hc H1 F1 v d z er1.sub r1 hz
  exact ⟨r, hr, q Q fun H' F' z al hz => fin H' F' al z hz⟩
section
variable {x : Str} {p : Pos} {e : Expr} {es : List Expr} {id : String} {ms : M (List D)} {g : List D → Option D} {g1 : D → Option D} {mb1 : M Bv}
theorem jv_callB (hc : Cal X (.builtin id) g) (hg : Gl X x) (hm : X.mg x = none) (hv : bootBuiltins x = some (.builtin id)) (ha : JA X T W (e :: es) ms) (hn : x ≠ "__name__" := by decide) (hdb : (x == ("__debug__" : Str)) = false := by decide)
    (he : starEach (e :: es) X.env = (false, eval e X.env) :: starEach es X.env := by rfl) (hpl : (backTo pos (starEach es X.env)).any (·.1) = false := by rfl) : JV X T W (.Call (.Name x p) (e :: es) [] pos) (mCal g ms) :=
  PEimp (pe_callB callAny hg hm hv ha hn hdb he hpl) fun σ H Q h => runCal hc h
theorem jv_callTy (hc : Cal X (.type id) g) (hg : Gl X x) (hm : X.mg x = none) (hv : bootBuiltins x = some (.type id)) (ha : JA X T W (e :: es) ms) (hn : x ≠ "__name__" := by decide) (hdb : (x == ("__debug__" : Str)) = false := by decide)
    (he : starEach (e :: es) X.env = (false, eval e X.env) :: starEach es X.env := by rfl) (hpl : (backTo pos (starEach es X.env)).any (·.1) = false := by rfl) : JV X T W (.Call (.Name x p) (e :: es) [] pos) (mCal g ms) :=
  PEimp (pe_callTy callAny hg hm hv ha hn hdb he hpl) fun σ H Q h => runCal hc h
theorem jv_callB1 (hc : Cal1 X (.builtin id) g1) (hg : Gl X x) (hm : X.mg x = none) (hv : bootBuiltins x = some (.builtin id)) (ha : JB X T W e mb1) (hn : x ≠ "__name__" := by decide) (hdb : (x == ("__debug__" : Str)) = false := by decide)
    (he : starEach [e] X.env = (false, eval e X.env) :: starEach [] X.env := by rfl) : JV X T W (.Call (.Name x p) [e] [] pos) (mCal1 g1 mb1) :=
  PEimp (pe_callB callAny hg hm hv (pa_cons ha pa_nil he) hn hdb he rfl) fun σ H Q h => runCal1 hc h
theorem jv_callTy1 (hc : Cal1 X (.type id) g1) (hg : Gl X x) (hm : X.mg x = none) (hv : bootBuiltins x = some (.type id)) (ha : JB X T W e mb1) (hn : x ≠ "__name__" := by decide) (hdb : (x == ("__debug__" : Str)) = false := by decide)
    (he : starEach [e] X.env = (false, eval e X.env) :: starEach [] X.env := by rfl) : JV X T W (.Call (.Name x p) [e] [] pos) (mCal1 g1 mb1) :=
  PEimp (pe_callTy callAny hg hm hv (pa_cons ha pa_nil he) hn hdb he rfl) fun σ H Q h => runCal1 hc h
end
def gLen : D → Option D
  | .str y => if y.length ≤ sizeLine then some (.int y.length) else none
  | .byt y => if y.size ≤ sizeLine then some (.int y.size) else none
  | .lst ds => some (.int ds.length)
  | .tup ds => some (.int ds.length)
  | .dk ds => some (.int ds.length)
  | .scr ns => some (.int ns.length)
  | _ => none
theorem RpK.len {K : PySem.W.Frag} {mg : Str → Option Value} {F : Hp} : ∀ {ds : List (Key × D)} {xs : List (Key × V)}, RpK K mg F ds xs → ds.length = xs.length
  | [], xs, h => by unfold RpK at h; subst h; rfl
  | (k, d) :: ds, xs, h => by unfold RpK at h; obtain ⟨v, vs, rfl, _, q⟩ := h; rw [List.length_cons, List.length_cons, q.len]
theorem c_len : Cal1 X (.builtin "len") gLen := by
  intro H F x d d' s r e
  cases d <;> simp only [gLen, reduceCtorEq] at e
  · rw [rq_str] at r; subst r
    split at e
    · rename_i hz; cases e
      exact ⟨_, call_len, fun Q q => ⟨_, _, rfl, ⟨hz, rfl⟩, q H F _ Al.refl (by rw [rp_int])⟩⟩
    · cases e
  · rw [rq_byt] at r; subst r
    split at e
    · rename_i hz; cases e
      exact ⟨_, call_len, fun Q q => ⟨_, _, rfl, ⟨hz, rfl⟩, q H F _ Al.refl (by rw [rp_int])⟩⟩
    · cases e
  · obtain ⟨a, xs, rfl, q, l⟩ := r
    cases e
    exact ⟨_, call_len, fun Q qq => ⟨_, _, rfl, .inl ⟨xs, SqL.of q, rfl⟩, qq H F _ Al.refl (by rw [rp_int, l.len])⟩⟩
  · rw [rq_tup] at r
    obtain ⟨a, xs, rfl, q, l⟩ := r
    cases e
    exact ⟨_, call_len, fun Q qq => ⟨_, _, rfl, .inr ⟨xs, seqT_mono s q, rfl⟩, qq H F _ Al.refl (by rw [rp_int, l.len])⟩⟩
  · obtain ⟨a, xs, rfl, q, l⟩ := r
    cases e
    exact ⟨_, call_lenD, fun Q qq => ⟨a, xs, rfl, q, qq H F _ Al.refl (by rw [rp_int, l.len])⟩⟩
  · rw [rq_scr] at r
    obtain ⟨a, rfl, q⟩ := r
    cases e
    exact ⟨_, call_len, fun Q qq => ⟨_, _, rfl, .inl ⟨_, s.seq q, rfl⟩, qq H F _ Al.refl (by rw [rp_int, List.length_map])⟩⟩
def gInt1 : List D → Option D
  | [.int i] => some (.int i)
  | [.bl k] => some (.int (if k then 1 else 0))
  | _ => none
theorem rl_one {K : PySem.W.Frag} {mg : Str → Option Value} {F : Hp} {d : D} {xs : List V} (h : RpL K mg F [d] xs) : ∃ v, xs = [v] ∧ Rp K mg F d v := by
  rw [rl_cons] at h
  obtain ⟨v, vs, rfl, r, h⟩ := h
  rw [rl_nil] at h; subst h
  exact ⟨v, rfl, r⟩
theorem rl_two {K : PySem.W.Frag} {mg : Str → Option Value} {F : Hp} {d d' : D} {xs : List V} (h : RpL K mg F [d, d'] xs) : ∃ v w, xs = [v, w] ∧ Rp K mg F d v ∧ Rp K mg F d' w := by
  rw [rl_cons] at h
  obtain ⟨v, vs, rfl, r, h⟩ := h
  obtain ⟨w, rfl, r'⟩ := rl_one h
  exact ⟨v, w, rfl, r, r'⟩
theorem c_int : Cal X (.type "int") gInt1 := by
  intro H F xs ds d s r e
  unfold gInt1 at e
  split at e
  · cases e
    obtain ⟨v, rfl, r0⟩ := rl_one r
    rw [rp_int] at r0; subst r0
    exact ⟨_, call_int1, fun Q q => .inl ⟨_, rfl, q H F _ Al.refl (by rw [rp_int])⟩⟩
  · cases e
    obtain ⟨v, rfl, r0⟩ := rl_one r
    rw [rp_bl] at r0; subst r0
    exact ⟨_, call_int1, fun Q q => .inr ⟨_, rfl, q H F _ Al.refl (by rw [rp_int])⟩⟩
  · cases e
def gMax2 : List D → Option D
  | [.int i, .int j] => some (.int (if j > i then j else i))
  | _ => none
def gMin2 : List D → Option D
  | [.int i, .int j] => some (.int (if j < i then j else i))
  | _ => none
def gAbs : List D → Option D
  | [.int i] => some (.int (if i < 0 then -i else i))
  | _ => none
theorem c_max (hc : X.calm = true) : Cal X (.builtin "max") gMax2 := by
  intro H F xs ds d s r e
  unfold gMax2 at e
  split at e
  · cases e
    obtain ⟨v, w, rfl, r0, r'⟩ := rl_two r
    rw [rp_int] at r0 r'; subst r0 r'
    exact ⟨_, call_max2 hc, fun Q q => ⟨_, _, rfl, q H F _ Al.refl (by rw [rp_int])⟩⟩
  · cases e
theorem c_min (hc : X.calm = true) : Cal X (.builtin "min") gMin2 := by
  intro H F xs ds d s r e
  unfold gMin2 at e
  split at e
  · cases e
    obtain ⟨v, w, rfl, r0, r'⟩ := rl_two r
    rw [rp_int] at r0 r'; subst r0 r'
    exact ⟨_, call_min2 hc, fun Q q => ⟨_, _, rfl, q H F _ Al.refl (by rw [rp_int])⟩⟩
  · cases e
theorem c_abs : Cal X (.builtin "abs") gAbs := by
  intro H F xs ds d s r e
  unfold gAbs at e
  split at e
  · cases e
    obtain ⟨v, rfl, r0⟩ := rl_one r
    rw [rp_int] at r0; subst r0
    exact ⟨_, call_abs, fun Q q => ⟨_, rfl, q H F _ Al.refl (by rw [rp_int])⟩⟩
  · cases e
def gIx : D → D → Option D
  | .lst ds, .int i => atI ds i
  | .tup ds, .int i => atI ds i
  | .str z, .int i => if z.length ≤ sizeLine then (atI z.cps.toList i).map fun c => .str ⟨#[c]⟩ else none
  | .scr ns, .int i => (atI ns i).map D.int
  | _, _ => none
theorem RpL.atI {K : PySem.W.Frag} {mg : Str → Option Value} {F : Hp} {ds : List D} {xs : List V} {i : Int} {d : D} (l : RpL K mg F ds xs) (h : L2.atI ds i = some d) : ∃ v, L2.atI xs i = some v ∧ Rp K mg F d v := by
  unfold L2.atI at h ⊢
  rw [← l.len]
  cases q : ixN ds.length i with
  | none => rw [q] at h; cases h
  | some j => rw [q] at h; exact l.get h
theorem atI_map {A B : Type} (f : A → B) (xs : List A) (i : Int) : L2.atI (xs.map f) i = (L2.atI xs i).map f := by
  unfold L2.atI
  rw [List.length_map]
  cases ixN xs.length i with
  | none => rfl
  | some j => simp
theorem ix_data {H F : Hp} {d1 d2 d : D} {x y : V} (s : Same F H) (r1 : Rq X.K X.mg H F d1 x) (r2 : Rq X.K X.mg H F d2 y) (e : gIx d1 d2 = some d) (Q : VK) (q : ∀ z, Rp X.K X.mg F d z → Q z H) : L2.rIx X.K x y H Q := by
  unfold gIx at e
  split at e
  · obtain ⟨a, xs, rfl, h, l⟩ := r1
    rw [rq_int] at r2
    obtain ⟨v, h1, h2⟩ := l.atI e
    exact .inl ⟨a, xs, _, v, rfl, r2, SqL.of h, h1, q v h2⟩
  · rw [rq_tup] at r1
    obtain ⟨a, xs, rfl, h, l⟩ := r1
    rw [rq_int] at r2
    obtain ⟨v, h1, h2⟩ := l.atI e
    exact .inr (.inl ⟨a, xs, _, v, rfl, r2, seqT_mono s h, h1, q v h2⟩)
  · split at e
    · rename_i hz
      rw [Option.map_eq_some_iff] at e
      obtain ⟨c, e, rfl⟩ := e
      rw [rq_str] at r1
      rw [rq_int] at r2
      exact .inr (.inr ⟨_, _, c, r1, r2, hz, e, q _ (by rw [rp_str])⟩)
    · cases e
  · rw [rq_scr] at r1
    obtain ⟨a, rfl, h⟩ := r1
    rw [rq_int] at r2
    rw [Option.map_eq_some_iff] at e
    obtain ⟨n, e, rfl⟩ := e
    exact .inl ⟨a, _, _, .int n, rfl, r2, s.seq h, by rw [atI_map, e]; rfl, q _ (by rw [rp_int])⟩
  · cases e
theorem jv_ixB {m1 : M Bv} (ha : JB X T W a m1) (hb : JV X T W b mb) (hs : PlainIx b := by intro _ _; rfl) : JV X T W (.Subscript a b pos) (m2b gIx m1 mb) := by
  refine PEimp (pe_ix ix_seq ha hb hs) fun σ H Q ⟨e, F, er, h⟩ => ⟨e, F, er, h.bind.mono fun b1 e1 H1 F1 er1 mv1 h1 v hv => ⟨e1, F1, er1, h1.bind.mono fun d2 e2 H2 F2 er2 mv2 h2 w hw => ?_⟩⟩
  obtain ⟨d1, r1, h3⟩ := der_fin h2.bind er2 (hv.mono mv2.sub)
  obtain ⟨d, hd, fin⟩ := h3.fin er2
  exact ix_data er2.sub r1 (Rp.rq er2.sub hw) hd Q fun z hz => fin H2 F2 Al.refl z hz
theorem jv_ix (ha : JV X T W a ma) (hb : JV X T W b mb) (hs : PlainIx b := by intro _ _; rfl) : JV X T W (.Subscript a b pos) (m2 gIx ma mb) := by
  refine PEimp (pe_ix ix_seq ha hb hs) fun σ H Q ⟨e, F, er, h⟩ => ⟨e, F, er, h.bind.mono fun d1 e1 H1 F1 er1 mv1 h1 v hv => ⟨e1, F1, er1, h1.bind.mono fun d2 e2 H2 F2 er2 mv2 h2 w hw => ?_⟩⟩
  obtain ⟨d, hd, fin⟩ := h2.fin er2
  exact ix_data er2.sub (Rp.rq er2.sub (Rp.mono mv2.sub _ _ hv)) (Rp.rq er2.sub hw) hd Q fun z hz => fin H2 F2 Al.refl z hz
end
end Sr
namespace Sr
open PySem PySem.Spec L2
open PyProof.Rows hiding St
inductive Fl where
  | nx
  | rt (d : D)
  | ro (d : D)
  | bk
  | ct
section
variable (K : PySem.W.Frag) (mg : Str → Option Value) (T : Option Addr) (W : WX)
def RunS (e : En) (F : Hp) (s : M Fl) (σ : St) (H : Hp) (Dn : Ends) : Prop :=
  match s e with
  | .ok .nx e' => ∀ σ' H' F', ER K mg T e' σ' H' F' → Mv e σ H F e' σ' H' F' → Dn.nx σ' H'
  | .ok (.rt d) e' => ∀ σ' H' F' v, ER K mg T e' σ' H' F' → Mv e σ H F e' σ' H' F' → Rp K mg F' d v → Dn.rt v H'
  | .ok (.ro d) e' => ∀ σ' H' F' p, ER K mg T e' σ' H' F' → Mv e σ H F e' σ' H' F' → H p = none → F' p = none → ¬ Ow e' σ' p → OwnAt K mg H' F' p d → Dn.rt (.ref p) H'
  | .ok .bk e' => ∀ σ' H' F', ER K mg T e' σ' H' F' → Mv e σ H F e' σ' H' F' → Dn.bk σ' H'
  | .ok .ct e' => ∀ σ' H' F', ER K mg T e' σ' H' F' → Mv e σ H F e' σ' H' F' → Dn.ct σ' H'
  | .exc x e' => ∀ σ' H' F' cl dd, ER K mg T e' σ' H' F' → Mv e σ H F e' σ' H' F' → XR K mg x cl dd H' F' → W cl dd σ' H'
  | .bad => False
def TSt (s : M Fl) : TS := fun Dn σ H => ∃ e F, ER K mg T e σ H F ∧ RunS K mg T W e F s σ H Dn
end
abbrev JS (X : Cx) (T : Option Addr) (W : WX) (st : Stmt) (m : M Fl) : Prop := PS X st (TSt X.K X.mg T W m)
abbrev JSs (X : Cx) (T : Option Addr) (W : WX) (st : List Stmt) (m : M Fl) : Prop := PSs X st (TSt X.K X.mg T W m)
theorem PSimp {X : Cx} {e : Stmt} {t t' : TS} (h : PS X e t) (k : ∀ D σ H, t' D σ H → t D σ H) : PS X e t' := ⟨fun pins s σ H D I q => h.run pins s σ H D I (k D σ H q)⟩
theorem PSsimp {X : Cx} {e : List Stmt} {t t' : TS} (h : PSs X e t) (k : ∀ D σ H, t' D σ H → t D σ H) : PSs X e t' := ⟨fun pins s σ H D I q => h.run pins s σ H D I (k D σ H q)⟩
section
variable {K : PySem.W.Frag} {mg : Str → Option Value} {T : Option Addr} {W : WX} {e e1 : En} {σ σ1 : St} {H F H1 F1 : Hp} {A : Type}
theorem RunS.after {s s' : M Fl} {Dn : Ends} (h : RunS K mg T W e F s σ H Dn) (hs : s e = s' e1) (mv : Mv e σ H F e1 σ1 H1 F1) : RunS K mg T W e1 F1 s' σ1 H1 Dn := by
  unfold RunS at h ⊢
  rw [hs] at h
  cases q : s' e1 with
  | ok fl e2 =>
    rw [q] at h
    cases fl with
    | nx => exact fun σ' H' F' er mv' => h σ' H' F' er (mv.trans mv')
    | rt d => exact fun σ' H' F' v er mv' => h σ' H' F' v er (mv.trans mv')
    | ro d => exact fun σ' H' F' p er mv' hp => h σ' H' F' p er (mv.trans mv') (mv.there p hp)
    | bk => exact fun σ' H' F' er mv' => h σ' H' F' er (mv.trans mv')
    | ct => exact fun σ' H' F' er mv' => h σ' H' F' er (mv.trans mv')
  | exc x e2 => rw [q] at h; exact fun σ' H' F' cl dd er mv' => h σ' H' F' cl dd er (mv.trans mv')
  | bad => rw [q] at h; exact h
theorem RunS.bind {m : M A} {f : A → M Fl} {Dn : Ends} (h : RunS K mg T W e F (bnd m f) σ H Dn) : RunAt K mg T W e F m σ H fun a e1 H1 F1 => RunS K mg T W e1 F1 (f a) σ H1 Dn := by
  unfold RunAt
  cases q : m e with
  | ok a e1 =>
    intro H1 F1 er1 mv1
    exact h.after (by unfold bnd; rw [q]) mv1
  | exc x e1 =>
    unfold RunS bnd at h
    rw [q] at h
    exact fun H' F' cl dd er mv xr => h σ H' F' cl dd er mv xr
  | bad => unfold RunS bnd at h; rw [q] at h; exact h
end
section
variable {X : Cx} {T : Option Addr} {W : WX} {pos : Pos} {a b c : Expr} {ma mb mc : M D} {st : Stmt} {rest sa sb : List Stmt} {s u : M Fl}
def skp : M Fl := ret .nx
def sq (s u : M Fl) : M Fl := fun e => match s e with
  | .ok .nx e1 => u e1
  | o => o
theorem js_nil : JSs X T W [] skp := PSsimp pss_nil fun D σ H ⟨e, F, er, h⟩ => h σ H F er Mv.refl
theorem js_cons (h1 : JS X T W st s) (h2 : JSs X T W rest u) : JSs X T W (st :: rest) (sq s u) := by
  refine PSsimp (pss_cons h1 h2) fun D σ H ⟨e, F, er, h⟩ => ⟨e, F, er, ?_⟩
  unfold RunS
  cases q : s e with
  | ok fl e1 =>
    cases fl with
    | nx => exact fun σ' H' F' er' mv => ⟨e1, F', er', h.after (by unfold sq; rw [q]) mv⟩
    | rt d => unfold RunS sq at h; rw [q] at h; exact h
    | ro d => unfold RunS sq at h; rw [q] at h; exact h
    | bk => unfold RunS sq at h; rw [q] at h; exact h
    | ct => unfold RunS sq at h; rw [q] at h; exact h
  | exc x e1 => unfold RunS sq at h; rw [q] at h; exact h
  | bad => unfold RunS sq at h; rw [q] at h; exact h
theorem js_one (h1 : JS X T W st s) : JSs X T W [st] s := pss_one h1
theorem js_pass : JS X T W (.Pass pos) skp := PSimp ps_pass fun D σ H ⟨e, F, er, h⟩ => h σ H F er Mv.refl
theorem js_break : JS X T W (.Break pos) (ret .bk) := PSimp ps_break fun D σ H ⟨e, F, er, h⟩ => h σ H F er Mv.refl
theorem js_continue : JS X T W (.Continue pos) (ret .ct) := PSimp ps_continue fun D σ H ⟨e, F, er, h⟩ => h σ H F er Mv.refl
def sDrop (m : M D) : M Fl := bnd m fun _ => skp
theorem js_expr (ha : JV X T W a ma) (hs : swapsWith a none pos.line X.env = pure false := by rfl) : JS X T W (.Expr a pos) (sDrop ma) :=
  PSimp (ps_expr ha hs) fun D σ H ⟨e, F, er, h⟩ => ⟨e, F, er, h.bind.mono fun d e1 H1 F1 er1 mv1 h1 v hv => h1 σ H1 F1 er1 Mv.refl⟩
def sRet (m : M D) : M Fl := bnd m fun d => ret (.rt d)
def sRetO (m : M D) : M Fl := bnd m fun d => ret (.ro d)
theorem js_ret (ha : JV X T W a ma) : JS X T W (.Return (some a) pos) (sRet ma) :=
  PSimp (ps_ret ha) fun D σ H ⟨e, F, er, h⟩ => ⟨e, F, er, h.bind.mono fun d e1 H1 F1 er1 mv1 h1 v hv => h1 σ H1 F1 v er1 Mv.refl hv⟩
theorem js_retO (ha : JO X T W a ma) : JS X T W (.Return (some a) pos) (sRetO ma) :=
  PSimp (ps_ret ha) fun D σ H ⟨e, F, er, h⟩ => ⟨e, F, er, by
    unfold RunAt
    cases q : ma e with
    | ok d e1 =>
      intro H1 F1 er1 mv1 p hp fp np ow
      unfold RunS sRetO bnd ret at h
      rw [q] at h
      exact h σ H1 F1 p er1 mv1 hp fp np ow
    | exc x e1 => unfold RunS sRetO bnd at h; rw [q] at h; exact fun H' F' cl dd er mv xr => h σ H' F' cl dd er mv xr
    | bad => unfold RunS sRetO bnd at h; rw [q] at h; exact h⟩
theorem js_retN : JS X T W (.Return none pos) (ret (.rt .non)) := PSimp ps_retN fun D σ H ⟨e, F, er, h⟩ => h σ H F .non er Mv.refl (by rw [rp_non])
def sIf (n : M Bool) (s u : M Fl) : M Fl := bnd n fun k => if k = true then s else u
theorem js_if {n : M Bool} (hc : JT X T W c n) (ha : JSs X T W sa s) (hb : JSs X T W sb u) : JS X T W (.If c sa sb pos) (sIf n s u) := by
  refine PSimp (ps_if hc ha hb) fun D σ H ⟨e, F, er, h⟩ => ⟨e, F, er, h.bind.mono fun k e1 H1 F1 er1 mv1 h1 => ?_⟩
  cases k with
  | true => rw [if_pos rfl] at h1 ⊢; exact ⟨e1, F1, er1, h1⟩
  | false => rw [if_neg (by decide)] at h1 ⊢; exact ⟨e1, F1, er1, h1⟩
theorem ER.setV {K : PySem.W.Frag} {mg : Str → Option Value} {e : En} {σ : St} {H F : Hp} {i : Nat} {d : D} {v : V} (er : ER K mg T e σ H F) (hT : T = none ∨ i ≠ 0) (r : Rp K mg F d v) :
    ER K mg T (e.set i (.val d)) (σ.set i (some v)) H F ∧ Mv e σ H F (e.set i (.val d)) (σ.set i (some v)) H F := by
  have ow : ∀ (j : Nat) (x : D), (e.set i (Sl.val d))[j]? = some (.own x) → e[j]? = some (.own x) ∧ j ≠ i := fun j x q => by
    by_cases hj : j = i
    · subst hj
      by_cases hl : j < e.length
      · rw [List.getElem?_set_self hl] at q; cases q
      · rw [List.getElem?_eq_none (by rw [List.length_set]; omega)] at q; cases q
    · rw [List.getElem?_set_ne (Ne.symm hj)] at q; exact ⟨q, hj⟩
  refine ⟨⟨er.sub, fun j x q => ?_, fun j x q => ?_, fun j k p x y q1 q2 q3 q4 => ?_, by rw [List.length_set, List.length_set]; exact er.len, fun p hp => ?_⟩, Same.refl _, fun a o q n => ⟨q, ?_⟩, fun a o q => .inl q, fun a q => q⟩
  · by_cases hj : j = i
    · subst hj
      by_cases hl : j < e.length
      · rw [List.getElem?_set_self hl] at q; cases q
        exact ⟨v, List.getElem?_set_self (by rw [← er.len]; exact hl), r⟩
      · rw [List.getElem?_eq_none (by rw [List.length_set]; omega)] at q; cases q
    · rw [List.getElem?_set_ne (Ne.symm hj)] at q
      obtain ⟨w, h1, h2⟩ := er.val j x q
      exact ⟨w, by rw [List.getElem?_set_ne (Ne.symm hj)]; exact h1, h2⟩
  · obtain ⟨q, hj⟩ := ow j x q
    obtain ⟨p, h1, h2, h3⟩ := er.own j x q
    exact ⟨p, by rw [List.getElem?_set_ne (Ne.symm hj)]; exact h1, h2, h3⟩
  · obtain ⟨q1, hj⟩ := ow j x q1
    obtain ⟨q2, hk⟩ := ow k y q2
    rw [List.getElem?_set_ne (Ne.symm hj)] at q3
    rw [List.getElem?_set_ne (Ne.symm hk)] at q4
    exact er.inj j k p x y q1 q2 q3 q4
  · rcases hT with hT | hT
    · rw [hT] at hp; cases hp
    · rw [List.getElem?_set_ne hT]; exact er.pin p hp
  · rintro ⟨j, x, q1, q2⟩
    obtain ⟨q1, hj⟩ := ow j x q1
    rw [List.getElem?_set_ne (Ne.symm hj)] at q2
    exact n ⟨j, x, q1, q2⟩
theorem ER.setO {K : PySem.W.Frag} {mg : Str → Option Value} {e : En} {σ : St} {H F H0 : Hp} {i : Nat} {d : D} {p : Addr} (er : ER K mg T e σ H F) (hT : T = none ∨ i ≠ 0) (fp : F p = none) (np : ¬ Ow e σ p) (ow : OwnAt K mg H F p d) :
    ER K mg T (e.set i (.own d)) (σ.set i (some (.ref p))) H F ∧ ∀ {e0 : En} {σ0 : St} {F0 : Hp}, H0 p = none → Mv e0 σ0 H0 F0 e σ H F → Mv e0 σ0 H0 F0 (e.set i (.own d)) (σ.set i (some (.ref p))) H F := by
  have own : ∀ (j : Nat) (x : D), (e.set i (Sl.own d))[j]? = some (.own x) → (j ≠ i ∧ e[j]? = some (.own x)) ∨ (j = i ∧ x = d ∧ i < e.length) := fun j x q => by
    by_cases hj : j = i
    · subst hj
      by_cases hl : j < e.length
      · rw [List.getElem?_set_self hl] at q; cases q; exact .inr ⟨rfl, rfl, hl⟩
      · rw [List.getElem?_eq_none (by rw [List.length_set]; omega)] at q; cases q
    · rw [List.getElem?_set_ne (Ne.symm hj)] at q; exact .inl ⟨hj, q⟩
  refine ⟨⟨er.sub, fun j x q => ?_, fun j x q => ?_, fun j k p' x y q1 q2 q3 q4 => ?_, by rw [List.length_set, List.length_set]; exact er.len, fun p hp => ?_⟩, fun {e0 σ0 F0} hp mv => ⟨mv.sub, fun a o q n => ?_, mv.new, mv.there⟩⟩
  · have hj : j ≠ i := by
      rintro rfl
      by_cases hl : j < e.length
      · rw [List.getElem?_set_self hl] at q; cases q
      · rw [List.getElem?_eq_none (by rw [List.length_set]; omega)] at q; cases q
    rw [List.getElem?_set_ne (Ne.symm hj)] at q
    obtain ⟨w, h1, h2⟩ := er.val j x q
    exact ⟨w, by rw [List.getElem?_set_ne (Ne.symm hj)]; exact h1, h2⟩
  · rcases own j x q with ⟨hj, q⟩ | ⟨rfl, rfl, hl⟩
    · obtain ⟨p', h1, h2, h3⟩ := er.own j x q
      exact ⟨p', by rw [List.getElem?_set_ne (Ne.symm hj)]; exact h1, h2, h3⟩
    · exact ⟨p, List.getElem?_set_self (by rw [← er.len]; exact hl), fp, ow⟩
  · rcases own j x q1 with ⟨hj, w1⟩ | ⟨hj, _, hl⟩
    · rw [List.getElem?_set_ne (Ne.symm hj)] at q3
      rcases own k y q2 with ⟨hk, w2⟩ | ⟨hk, _, hl⟩
      · rw [List.getElem?_set_ne (Ne.symm hk)] at q4
        exact er.inj j k p' x y w1 w2 q3 q4
      · rw [hk, List.getElem?_set_self (by rw [← er.len]; exact hl)] at q4
        cases q4
        exact (np ⟨j, x, w1, q3⟩).elim
    · rcases own k y q2 with ⟨hk, w2⟩ | ⟨hk, _, hl2⟩
      · rw [List.getElem?_set_ne (Ne.symm hk)] at q4
        rw [hj, List.getElem?_set_self (by rw [← er.len]; exact hl)] at q3
        cases q3
        exact (np ⟨k, y, w2, q4⟩).elim
      · rw [hj, hk]
  · rcases hT with hT | hT
    · rw [hT] at hp; cases hp
    · rw [List.getElem?_set_ne hT]; exact er.pin p hp
  · obtain ⟨h1, h2⟩ := mv.keep a o q n
    refine ⟨h1, ?_⟩
    rintro ⟨j, x, q1, q2⟩
    rcases own j x q1 with ⟨hj, q1⟩ | ⟨rfl, rfl, hl⟩
    · rw [List.getElem?_set_ne (Ne.symm hj)] at q2
      exact h2 ⟨j, x, q1, q2⟩
    · rw [List.getElem?_set_self (by rw [← er.len]; exact hl)] at q2
      cases q2
      rw [hp] at q; cases q
def sSet (i : Nat) (m : M D) : M Fl := bnd m fun d e => .ok .nx (e.set i (.val d))
def sSetO (i : Nat) (m : M D) : M Fl := bnd m fun d e => .ok .nx (e.set i (.own d))
theorem run_set {i : Nat} {Dn : Ends} {σ : St} {H : Hp} (hT : T = none ∨ i ≠ 0) (h : TSt X.K X.mg T W (sSet i ma) Dn σ H) : tAsg (TV X.K X.mg T W ma) (gName i) Dn σ H := by
  obtain ⟨e, F, er, h⟩ := h
  refine ⟨e, F, er, h.bind.mono fun d e1 H1 F1 er1 mv1 h1 v hv => ?_⟩
  obtain ⟨er2, mv2⟩ := er1.setV hT hv
  exact h1 _ H1 F1 er2 mv2
theorem run_setO {i : Nat} {Dn : Ends} {σ : St} {H : Hp} (hT : T = none ∨ i ≠ 0) (h : TSt X.K X.mg T W (sSetO i ma) Dn σ H) : tAsg (TO X.K X.mg T W ma) (gName i) Dn σ H := by
  obtain ⟨e, F, er, h⟩ := h
  refine ⟨e, F, er, ?_⟩
  unfold RunAt
  cases q : ma e with
  | ok d e1 =>
    intro H1 F1 er1 mv1 p hp fp np ow
    obtain ⟨er2, mv2⟩ := er1.setO (H0 := H) hT fp np ow
    unfold RunS sSetO bnd at h
    rw [q] at h
    exact h _ H1 F1 er2 (mv2 hp mv1)
  | exc x e1 => unfold RunS sSetO bnd at h; rw [q] at h; exact fun H' F' cl dd er mv xr => h σ H' F' cl dd er mv xr
  | bad => unfold RunS sSetO bnd at h; rw [q] at h; exact h
theorem js_set {i : Nat} {x : Str} {pos' : Pos} (hT : T = none ∨ i ≠ 0) (hN : X.N.Nodup) (hi : X.N[i]? = some x) (hx : Loc X.env.scope x) (ha : JV X T W a ma) (hs : swapsWith a (some (.Name x pos')) pos.line X.env = pure false := by rfl) (hf : X.fn x = true ∨ X.env.scope.names.lookup x = some .local := by first | exact .inl rfl | exact .inr rfl | assumption) :
    JS X T W (.Assign [.Name x pos'] a pos) (sSet i ma) := PSimp (ps_set hN hi hx ha hs hf) fun D σ H h => run_set hT h
theorem js_setO {i : Nat} {x : Str} {pos' : Pos} (hT : T = none ∨ i ≠ 0) (hN : X.N.Nodup) (hi : X.N[i]? = some x) (hx : Loc X.env.scope x) (ha : JO X T W a ma) (hs : swapsWith a (some (.Name x pos')) pos.line X.env = pure false := by rfl) (hf : X.fn x = true ∨ X.env.scope.names.lookup x = some .local := by first | exact .inl rfl | exact .inr rfl | assumption) :
    JS X T W (.Assign [.Name x pos'] a pos) (sSetO i ma) := PSimp (ps_set hN hi hx ha hs hf) fun D σ H h => run_setO hT h
def TG' (K : PySem.W.Frag) (mg : Str → Option Value) (T : Option Addr) (W : WX) (w : D → M Unit) : TG := fun v σ H Q => ∃ e F d, ER K mg T e σ H F ∧ Rp K mg F d v ∧
  match w d e with
  | .ok _ e' => ∀ σ' H' F', ER K mg T e' σ' H' F' → Mv e σ H F e' σ' H' F' → Q σ' H'
  | _ => False
def TGs' (K : PySem.W.Frag) (mg : Str → Option Value) (T : Option Addr) (W : WX) (w : List D → M Unit) : TGs := fun vs σ H Q => ∃ e F ds, ER K mg T e σ H F ∧ RpL K mg F ds vs ∧
  match w ds e with
  | .ok _ e' => ∀ σ' H' F', ER K mg T e' σ' H' F' → Mv e σ H F e' σ' H' F' → Q σ' H'
  | _ => False
abbrev JG (X : Cx) (T : Option Addr) (W : WX) (tg : Expr) (w : D → M Unit) : Prop := PG X tg (TG' X.K X.mg T W w)
abbrev JGs (X : Cx) (T : Option Addr) (W : WX) (tg : List Expr) (w : List D → M Unit) : Prop := PGs X tg (TGs' X.K X.mg T W w)
def gN (i : Nat) : D → M Unit := fun d e => .ok () (e.set i (.val d))
def gsN : List D → M Unit
  | [] => ret ()
  | _ => fun _ => .bad
def gsC (w : D → M Unit) (ws : List D → M Unit) : List D → M Unit
  | d :: ds => bnd (w d) fun _ => ws ds
  | [] => fun _ => .bad
def gT (n : Nat) (ws : List D → M Unit) : D → M Unit
  | .tup ds => if ds.length = n then ws ds else fun _ => .bad
  | _ => fun _ => .bad
theorem jg_name {i : Nat} {x : Str} (hT : T = none ∨ i ≠ 0) (hN : X.N.Nodup) (hi : X.N[i]? = some x) (hx : Loc X.env.scope x) (hf : X.fn x = true ∨ X.env.scope.names.lookup x = some .local := by first | exact .inl rfl | exact .inr rfl | assumption) : JG X T W (.Name x pos) (gN i) := by
  refine ⟨fun pins s σ H v u Q I r h => (pg_name hN hi hx hf).run pins s σ H v u Q I r ?_⟩
  obtain ⟨e, F, d, er, rd, h⟩ := h
  obtain ⟨er2, mv2⟩ := er.setV hT rd
  exact h _ H F er2 mv2
theorem jgs_nil : JGs X T W [] gsN := by
  refine ⟨fun pins s σ H vs us Q I r h => pgs_nil.run pins s σ H vs us Q I r ?_⟩
  obtain ⟨e, F, ds, er, rd, h⟩ := h
  cases ds with
  | nil => rw [rl_nil] at rd; exact ⟨rd, h σ H F er Mv.refl⟩
  | cons d ds => exact h.elim
theorem jgs_cons {e : Expr} {es : List Expr} {w : D → M Unit} {ws : List D → M Unit} (h1 : JG X T W e w) (h2 : JGs X T W es ws)
    (hs : (assignEach (e :: es) X.env).map (·.2) = assign e X.env :: (assignEach es X.env).map (·.2) := by rfl) : JGs X T W (e :: es) (gsC w ws) := by
  refine ⟨fun pins s σ H vs us Q I r h => (pgs_cons h1 h2 hs).run pins s σ H vs us Q I r ?_⟩
  obtain ⟨e, F, ds, er, rd, h⟩ := h
  cases ds with
  | nil => exact h.elim
  | cons d ds =>
    rw [rl_cons] at rd
    obtain ⟨v, vs, rfl, rd, rl⟩ := rd
    refine ⟨v, vs, rfl, e, F, d, er, rd, ?_⟩
    simp only [gsC, bnd] at h
    cases q : w d e with
    | ok u e1 =>
      rw [q] at h
      dsimp only at h ⊢
      intro σ1 H1 F1 er1 mv1
      refine ⟨e1, F1, ds, er1, RpL.mono mv1.sub _ _ rl, ?_⟩
      cases q2 : ws ds e1 with
      | ok u e2 => rw [q2] at h; exact fun σ' H' F' er' mv' => h σ' H' F' er' (mv1.trans mv')
      | exc x e2 => rw [q2] at h; exact h
      | bad => rw [q2] at h; exact h
    | exc x e1 => rw [q] at h; exact h
    | bad => rw [q] at h; exact h
theorem jg_tup {es : List Expr} {k : Nat} {ws : List D → M Unit} {n : Nat} (hc : X.calm = true) (h : JGs X T W es ws)
    (hn : (assignEach es X.env).length = n := by rfl) (hst : (assignEach es X.env).findIdx? (·.1) = none := by rfl) : JG X T W (.Tuple es k pos) (gT n ws) := by
  refine ⟨fun pins s σ H v u Q I r q => (pg_tup hc h hn hst).run pins s σ H v u Q I r ?_⟩
  obtain ⟨e, F, d, er, rd, q⟩ := q
  unfold gT at q
  split at q
  · rename_i u e' hh
    split at hh
    · rename_i ds
      rw [rp_tup] at rd
      obtain ⟨a, xs, rfl, rd, rl⟩ := rd
      split at hh
      · rename_i hl
        refine ⟨a, xs, rfl, seqT_mono er.sub rd, by rw [← rl.len]; exact hl, e, F, ds, er, rl, ?_⟩
        rw [hh]; exact q
      · cases hh
    · cases hh
  · exact q.elim
def sAsg (m : M D) (w : D → M Unit) : M Fl := bnd m fun d => bnd (w d) fun _ => skp
theorem RunAt.noexc {K : PySem.W.Frag} {mg : Str → Option Value} {e : En} {σ : St} {H F : Hp} {w : M Unit} {Dn : Ends} (h : RunS K mg T W e F (bnd w fun _ => skp) σ H Dn) (hx : ∀ x e', w e ≠ .exc x e') : match w e with
  | .ok _ e' => ∀ σ' H' F', ER K mg T e' σ' H' F' → Mv e σ H F e' σ' H' F' → Dn.nx σ' H'
  | _ => False := by
  unfold RunS bnd at h
  cases q : w e with
  | ok u e' => rw [q] at h; exact h
  | exc x e' => exact (hx x e' q).elim
  | bad => rw [q] at h; exact h
def NoExc (w : D → M Unit) : Prop := ∀ d e x e', w d e ≠ .exc x e'
def NoExcs (w : List D → M Unit) : Prop := ∀ d e x e', w d e ≠ .exc x e'
theorem ne_name {i : Nat} : NoExc (gN i) := fun _ _ _ _ h => by cases h
theorem nes_nil : NoExcs gsN := fun d e x e' h => by cases d <;> cases h
theorem nes_cons {w : D → M Unit} {ws : List D → M Unit} (h1 : NoExc w) (h2 : NoExcs ws) : NoExcs (gsC w ws) := fun d e x e' h => by
  cases d with
  | nil => cases h
  | cons d ds =>
    simp only [gsC, bnd] at h
    cases q : w d e with
    | ok u e1 => rw [q] at h; exact h2 _ _ _ _ h
    | exc x e1 => exact h1 _ _ _ _ q
    | bad => rw [q] at h; cases h
theorem ne_tup {n : Nat} {ws : List D → M Unit} (h2 : NoExcs ws) : NoExc (gT n ws) := fun d e x e' h => by
  unfold gT at h
  split at h
  · split at h
    · exact h2 _ _ _ _ h
    · cases h
  · cases h
theorem js_asg {tg : Expr} {w : D → M Unit} (ha : JV X T W a ma) (hg : JG X T W tg w) (hne : NoExc w) (hs : swapsWithSole [tg] a pos.line X.env = pure false := by rfl) (hw : swappedStores [tg] a X.env = pure none := by rfl)
    (h1 : (assignEach [tg] X.env).map (·.2) = [assign tg X.env] := by rfl) : JS X T W (.Assign [tg] a pos) (sAsg ma w) :=
  PSimp (ps_asg ha hg hs hw h1) fun D σ H ⟨e, F, er, h⟩ => ⟨e, F, er, h.bind.mono fun d e1 H1 F1 er1 mv1 h1 v hv => ⟨e1, F1, d, er1, hv, RunAt.noexc h1 fun x e' => hne d e1 x e'⟩⟩
def sPar (ms : M (List D)) (ws : List D → M Unit) : M Fl := bnd ms fun ds => bnd (ws ds) fun _ => skp
theorem js_par {i j : Nat} {x y : Str} {ms : M (List D)} {px py pt : Pos} {kt k2 pt2} (hT : T = none ∨ i ≠ 0) (hT' : T = none ∨ j ≠ 0) (hc : X.calm = true) (hN : X.N.Nodup) (hi : X.N[i]? = some x) (hj : X.N[j]? = some y) (hij : i ≠ j)
    (hx : X.env.scope.names.lookup x = some .local) (hy : X.env.scope.names.lookup y = some .local) (ha : JA X T W [a, b] ms)
    (hw : swappedStores [.Tuple [.Name x px, .Name y py] kt pt] (.Tuple [a, b] k2 pt2) X.env = pure (some [x, y]) := by rfl)
    (hs : swapsWithSole [.Tuple [.Name x px, .Name y py] kt pt] (.Tuple [a, b] k2 pt2) pos.line X.env = pure false := by rfl) :
    JS X T W (.Assign [.Tuple [.Name x px, .Name y py] kt pt] (.Tuple [a, b] k2 pt2) pos) (sPar ms (gsC (gN i) (gsC (gN j) gsN))) := by
  refine PSimp (ps_par hc hN hi hj hij hx hy ha hw hs) fun D σ H ⟨e, F, er, h⟩ => ⟨e, F, er, h.bind.mono fun ds e1 H1 F1 er1 mv1 h1 vs hvs => ?_⟩
  match ds, hvs with
  | [], _ => exact h1.elim
  | [_], _ => exact h1.elim
  | _ :: _ :: _ :: _, _ => exact h1.elim
  | [d1, d2], hvs =>
    obtain ⟨v, w, rfl, r1, r2⟩ := rl_two hvs
    obtain ⟨er2, mv2⟩ := er1.setV hT r1
    obtain ⟨er3, mv3⟩ := er2.setV hT' r2
    exact ⟨v, w, rfl, h1 _ H1 F1 er3 (mv2.trans mv3)⟩
theorem js_par3 {i j l : Nat} {x y z : Str} {ms : M (List D)} {px py pz pt : Pos} {kt k2 pt2} (hT : T = none ∨ i ≠ 0) (hT' : T = none ∨ j ≠ 0) (hT2 : T = none ∨ l ≠ 0) (hc : X.calm = true) (hN : X.N.Nodup) (hi : X.N[i]? = some x) (hj : X.N[j]? = some y) (hl : X.N[l]? = some z) (hij : i ≠ j) (hil : i ≠ l) (hjl : j ≠ l)
    (hx : X.env.scope.names.lookup x = some .local) (hy : X.env.scope.names.lookup y = some .local) (hz : X.env.scope.names.lookup z = some .local) (ha : JA X T W [a, b, c] ms)
    (hw : swappedStores [.Tuple [.Name x px, .Name y py, .Name z pz] kt pt] (.Tuple [a, b, c] k2 pt2) X.env = pure (some [x, y, z]) := by rfl)
    (hs : swapsWithSole [.Tuple [.Name x px, .Name y py, .Name z pz] kt pt] (.Tuple [a, b, c] k2 pt2) pos.line X.env = pure false := by rfl) :
    JS X T W (.Assign [.Tuple [.Name x px, .Name y py, .Name z pz] kt pt] (.Tuple [a, b, c] k2 pt2) pos) (sPar ms (gsC (gN i) (gsC (gN j) (gsC (gN l) gsN)))) := by
  refine PSimp (ps_par3 hc hN hi hj hl hij hil hjl hx hy hz ha hw hs) fun D σ H ⟨e, F, er, h⟩ => ⟨e, F, er, h.bind.mono fun ds e1 H1 F1 er1 mv1 h1 vs hvs => ?_⟩
  match ds, hvs with
  | [], _ => exact h1.elim
  | [_], _ => exact h1.elim
  | [_, _], _ => exact h1.elim
  | _ :: _ :: _ :: _ :: _, _ => exact h1.elim
  | [d1, d2, d3], hvs =>
    rw [rl_cons] at hvs
    obtain ⟨u, us, rfl, r0, hvs⟩ := hvs
    obtain ⟨v, w, rfl, r1, r2⟩ := rl_two hvs
    obtain ⟨er2, mv2⟩ := er1.setV hT r0
    obtain ⟨er3, mv3⟩ := er2.setV hT' r1
    obtain ⟨er4, mv4⟩ := er3.setV hT2 r2
    exact ⟨u, v, w, rfl, h1 _ H1 F1 er4 ((mv2.trans mv3).trans mv4)⟩
end
end Sr
namespace Sr
open PySem PySem.Spec L2
open PyProof.Rows hiding St
def Walks (K : PySem.W.Frag) (mg : Str → Option Value) (J : It) (ds : List D) (F : Hp) : Prop :=
  ∃ (G : Hp → Prop) (Y : Nat → Hp → V → Hp → Prop), Walk J ds.length G Y ∧ (∀ H, Same F H → G H) ∧
    ∀ i H1 F1 x H2, i < ds.length → Same F F1 → Same F1 H1 → Y i H1 x H2 → ∃ F2 d, Al H1 F1 H2 F2 ∧ ds[i]? = some d ∧ Rp K mg F2 d x
def TIt (K : PySem.W.Frag) (mg : Str → Option Value) (T : Option Addr) (W : WX) (m : M (List D)) : TI := fun σ H R => ∃ e F, ER K mg T e σ H F ∧ RunAt K mg T W e F m σ H fun ds _ H' F' => ∀ J, Walks K mg J ds F' → R J H'
abbrev JI (X : Cx) (T : Option Addr) (W : WX) (tg iter : Expr) (m : M (List D)) : Prop := PI X tg iter (TIt X.K X.mg T W m)
theorem PIimp {X : Cx} {tg iter : Expr} {t t' : TI} (h : PI X tg iter t) (k : ∀ σ H R, t' σ H R → t σ H R) : PI X tg iter t' := ⟨fun pins s σ H R I q => h.run pins s σ H R I (k σ H R q)⟩
def lp (b k : M Fl) : M Fl := fun e => match b e with
  | .ok .nx e2 => k e2
  | .ok .ct e2 => k e2
  | .ok .bk e2 => .ok .nx e2
  | o => o
def forL (w : D → M Unit) (b : M Fl) : List D → M Fl
  | [] => skp
  | d :: ds => bnd (w d) fun _ => lp b (forL w b ds)
def sFor (m : M (List D)) (w : D → M Unit) (b : M Fl) : M Fl := bnd m fun ds => forL w b ds
def whl (c : M Bool) (b : M Fl) : Nat → M Fl
  | 0 => fun _ => .bad
  | n + 1 => bnd c fun k => if k = true then lp b (whl c b n) else skp
def wF : Nat := 1000000
def sWhile (c : M Bool) (b : M Fl) : M Fl := whl c b wF
section
variable {X : Cx} {T : Option Addr} {W : WX} {pos : Pos} {a b c : Expr} {ma mb mc : M D} {body : List Stmt} {s u : M Fl}
theorem RunS.lp {K : PySem.W.Frag} {mg : Str → Option Value} {e : En} {F : Hp} {σ : St} {H : Hp} {Dn : Ends} {b k : M Fl} (h : RunS K mg T W e F (Sr.lp b k) σ H Dn) (N : St → Hp → Prop) (hN : ∀ σ' H' e' F', ER K mg T e' σ' H' F' → RunS K mg T W e' F' k σ' H' Dn → N σ' H') :
    RunS K mg T W e F b σ H { Dn with nx := N, ct := N, bk := Dn.nx } := by
  unfold RunS
  cases q : b e with
  | ok fl e1 =>
    cases fl with
    | nx => exact fun σ' H' F' er mv => hN σ' H' e1 F' er (h.after (by unfold Sr.lp; rw [q]) mv)
    | ct => exact fun σ' H' F' er mv => hN σ' H' e1 F' er (h.after (by unfold Sr.lp; rw [q]) mv)
    | bk => unfold RunS Sr.lp at h; rw [q] at h; exact h
    | rt d => unfold RunS Sr.lp at h; rw [q] at h; exact h
    | ro d => unfold RunS Sr.lp at h; rw [q] at h; exact h
  | exc x e1 => unfold RunS Sr.lp at h; rw [q] at h; exact h
  | bad => unfold RunS Sr.lp at h; rw [q] at h; exact h
theorem js_for {tg iter : Expr} {m : M (List D)} {w : D → M Unit} (hp : PassesOwn (model X.prog X.w) X.A X.env X.xe) (hc : X.calm = true) (hi : JI X T W tg iter m) (hg : JG X T W tg w) (hne : NoExc w) (hb : JSs X T W body s)
    (hs : ∀ x, foldedSetIterable iter X.env x = pure x := by intro _; rfl) : JS X T W (.For tg iter body [] pos) (sFor m w s) := by
  refine PSimp (ps_for hp hc hi hg hb hs) fun Dn σ H ⟨e, F, er, h⟩ => ⟨e, F, er, h.bind.mono fun ds e1 H1 F1 er1 mv1 h1 J wk => ?_⟩
  obtain ⟨G, Y, wlk, hG, hY⟩ := wk
  refine for_it wlk (fun i σ2 H2 => ∃ e2 F2, ER X.K X.mg T e2 σ2 H2 F2 ∧ Same F1 F2 ∧ RunS X.K X.mg T W e2 F2 (forL w s (ds.drop i)) σ2 H2 Dn) ⟨e1, F1, er1, Same.refl _, h1⟩ (fun i σ2 H2 _ ⟨e2, F2, er2, s2, _⟩ => hG H2 (s2.trans er2.sub)) ?_ ?_
  · rintro i x σ2 H2 H3 hi ⟨e2, F2, er2, s2, h2⟩ y
    obtain ⟨F3, d, al, hd, rd⟩ := hY i H2 F2 x H3 hi s2 er2.sub y
    have er3 := er2.al al
    have hdr : ds.drop i = d :: ds.drop (i + 1) := by
      rw [List.drop_eq_getElem_cons hi]
      have : ds[i] = d := by rw [List.getElem?_eq_getElem hi] at hd; exact Option.some.inj hd
      rw [this]
    rw [hdr] at h2
    have h3 := h2.after (s' := forL w s (d :: ds.drop (i + 1))) rfl (Mv.al er2 al)
    refine ⟨e2, F3, d, er3, rd, ?_⟩
    cases q : w d e2 with
    | ok u e3 =>
      intro σ4 H4 F4 er4 mv4
      have h4 := h3.after (s' := Sr.lp s (forL w s (ds.drop (i + 1)))) (by show bnd (w d) _ e2 = _; unfold bnd; rw [q]) mv4
      refine ⟨e3, F4, er4, ?_⟩
      have s4 : Same F1 F4 := (s2.trans (al.same er2.sub).1).trans mv4.sub
      have hh := h4.lp (fun σ' H' => ∃ e5 F5, ER X.K X.mg T e5 σ' H' F5 ∧ RunS X.K X.mg T W e5 F5 (forL w s (ds.drop (i + 1))) σ' H' Dn) fun σ' H' e' F' er' r' => ⟨e', F', er', r'⟩
      unfold RunS at hh ⊢
      cases q2 : s e3 with
      | ok fl e5 =>
        rw [q2] at hh
        cases fl with
        | nx => exact fun σ' H' F' er' mv' => ⟨e5, F', er', s4.trans mv'.sub, h4.after (by unfold Sr.lp; rw [q2]) mv'⟩
        | ct => exact fun σ' H' F' er' mv' => ⟨e5, F', er', s4.trans mv'.sub, h4.after (by unfold Sr.lp; rw [q2]) mv'⟩
        | bk => exact hh
        | rt d => exact hh
        | ro d => exact hh
      | exc x e5 => rw [q2] at hh; exact hh
      | bad => rw [q2] at hh; exact hh
    | exc x e3 => exact (hne d e2 x e3 q).elim
    | bad =>
      have h4 : RunS X.K X.mg T W e2 F3 (bnd (w d) fun _ => Sr.lp s (forL w s (ds.drop (i + 1)))) σ2 H3 Dn := h3
      unfold RunS bnd at h4; rw [q] at h4; exact h4
  · rintro σ2 H2 ⟨e2, F2, er2, s2, h2⟩
    rw [List.drop_length] at h2
    exact h2 σ2 H2 F2 er2 Mv.refl
theorem js_while {n : M Bool} (hp : PassesOwn (model X.prog X.w) X.A X.env X.xe) (hc : JT X T W c n) (hb : JSs X T W body s) : JS X T W (.While c body [] pos) (sWhile n s) := by
  refine PSimp (ps_while hp hc hb) fun Dn σ H ⟨e, F, er, h⟩ => ?_
  refine ⟨fun m σ2 H2 => ∃ e2 F2, ER X.K X.mg T e2 σ2 H2 F2 ∧ RunS X.K X.mg T W e2 F2 (whl n s m) σ2 H2 Dn, ⟨wF, e, F, er, h⟩, ?_⟩
  rintro m σ2 H2 ⟨e2, F2, er2, h2⟩
  cases m with
  | zero => exact h2.elim
  | succ m =>
    refine ⟨e2, F2, er2, h2.bind.mono fun k e3 H3 F3 er3 mv3 h3 => ?_⟩
    cases k with
    | true =>
      rw [if_pos rfl] at h3 ⊢
      exact ⟨fun σ' H' => ∃ e' F', ER X.K X.mg T e' σ' H' F' ∧ RunS X.K X.mg T W e' F' (whl n s m) σ' H' Dn, fun σ' H' z => ⟨m, Nat.lt_succ_self m, z⟩, e3, F3, er3, h3.lp _ fun σ' H' e' F' er' r' => ⟨e', F', er', r'⟩⟩
    | false =>
      rw [if_neg (by decide)] at h3 ⊢
      exact h3 σ2 H3 F3 er3 Mv.refl
def dItems : D → Option (List D)
  | .lst ds => some ds
  | .tup ds => some ds
  | .str z => some (z.cps.toList.map fun c => .str ⟨#[c]⟩)
  | _ => none
def mItems (m : M D) : M (List D) := bnd m fun d => opt (dItems d)
theorem walks_list {K : PySem.W.Frag} {mg : Str → Option Value} {F : Hp} {a : Addr} {xs : List V} {ds : List D} (h : F a = some (.lst xs)) (l : RpL K mg F ds xs) : Walks K mg (Itl K a) ds F := by
  refine ⟨_, _, by rw [l.len]; exact walk_list (xs := xs), fun H s => SqL.of (s _ _ h), fun i H1 F1 x H2 hi s1 s2 y => ?_⟩
  obtain ⟨rfl, y⟩ := y
  obtain ⟨v, h1, h2⟩ := l.get (List.getElem?_eq_getElem hi)
  rw [h1] at y; cases y
  exact ⟨F1, ds[i], Al.refl, List.getElem?_eq_getElem hi, Rp.mono s1 _ _ h2⟩
theorem walks_tup {K : PySem.W.Frag} {mg : Str → Option Value} {F : Hp} {a : Addr} {xs : List V} {ds : List D} (h : SqT K F a xs) (l : RpL K mg F ds xs) : Walks K mg (Itt K a) ds F := by
  refine ⟨_, _, by rw [l.len]; exact walk_tup (xs := xs), fun H s => seqT_mono s h, fun i H1 F1 x H2 hi s1 s2 y => ?_⟩
  obtain ⟨rfl, y⟩ := y
  obtain ⟨v, h1, h2⟩ := l.get (List.getElem?_eq_getElem hi)
  rw [h1] at y; cases y
  exact ⟨F1, ds[i], Al.refl, List.getElem?_eq_getElem hi, Rp.mono s1 _ _ h2⟩
theorem walks_str {K : PySem.W.Frag} {mg : Str → Option Value} {F : Hp} {z : Str} : Walks K mg (Its z) (z.cps.toList.map fun c => .str ⟨#[c]⟩) F := by
  refine ⟨_, _, by rw [List.length_map, Array.length_toList]; exact walk_str (z := z), fun H s => trivial, fun i H1 F1 x H2 hi s1 s2 y => ?_⟩
  obtain ⟨rfl, c, hc, rfl⟩ := y
  refine ⟨F1, .str ⟨#[c]⟩, Al.refl, ?_, by rw [rp_str]⟩
  rw [List.getElem?_map, Array.getElem?_toList, hc]; rfl
theorem RunAt.got {K : PySem.W.Frag} {mg : Str → Option Value} {A : Type} {e e1 : En} {σ : St} {H F : Hp} {m : M A} {x : A} {P : A → En → Hp → Hp → Prop} (h : RunAt K mg T W e F m σ H P) (q : m e = .ok x e1) : RunAt K mg T W e F m σ H fun a e' H' F' => a = x ∧ e' = e1 ∧ P a e' H' F' := by
  unfold RunAt at h ⊢
  rw [q] at h ⊢
  exact fun H' F' er mv => ⟨rfl, rfl, h H' F' er mv⟩
theorem PIor {tg iter : Expr} {t t' : TI} (h : PI X tg iter t) (h' : PI X tg iter t') : PI X tg iter (fun σ H R => t σ H R ∨ t' σ H R) := ⟨fun pins s σ H R I q => q.elim (h.run pins s σ H R I) (h'.run pins s σ H R I)⟩
theorem ji_v {tg : Expr} (ha : JV X T W a ma) : JI X T W tg a (mItems ma) := by
  refine PIimp (PIor (pi_list ha) (PIor (pi_tup ha) (pi_str ha))) fun σ H R ⟨e, F, er, h⟩ => ?_
  cases q : ma e with
  | ok d e1 =>
    cases d with
    | lst ds =>
      refine .inl ⟨e, F, er, (h.bind.got q).mono fun d e1 H1 F1 er1 mv1 h1 v hv => ?_⟩
      obtain ⟨rfl, rfl, h1⟩ := h1
      rw [rp_lst] at hv
      obtain ⟨a, xs, rfl, hv, l⟩ := hv
      exact ⟨a, rfl, ⟨xs, SqL.of (er1.sub _ _ hv)⟩, h1 H1 F1 er1 Mv.refl _ (walks_list hv l)⟩
    | tup ds =>
      refine .inr (.inl ⟨e, F, er, (h.bind.got q).mono fun d e1 H1 F1 er1 mv1 h1 v hv => ?_⟩)
      obtain ⟨rfl, rfl, h1⟩ := h1
      rw [rp_tup] at hv
      obtain ⟨a, xs, rfl, hv, l⟩ := hv
      exact ⟨a, rfl, ⟨xs, seqT_mono er1.sub hv⟩, h1 H1 F1 er1 Mv.refl _ (walks_tup hv l)⟩
    | str z =>
      refine .inr (.inr ⟨e, F, er, (h.bind.got q).mono fun d e1 H1 F1 er1 mv1 h1 v hv => ?_⟩)
      obtain ⟨rfl, rfl, h1⟩ := h1
      rw [rp_str] at hv
      exact ⟨z, hv, h1 H1 F1 er1 Mv.refl _ walks_str⟩
    | _ => unfold RunAt mItems bnd at h; rw [q] at h; exact h.elim
  | exc x e1 =>
    refine .inl ⟨e, F, er, ?_⟩
    unfold RunAt mItems bnd at h; unfold RunAt; rw [q] at h ⊢; exact h
  | bad => unfold RunAt mItems bnd at h; rw [q] at h; exact h.elim
def rngL (lo hi : Int) : List D := (List.range (hi - lo).toNat).map fun (i : Nat) => D.int (lo + i)
def okR (i : Int) : Bool := decide (-(2 ^ 62) ≤ i) && decide (i < 2 ^ 62)
def gRng : List D → Option (List D)
  | [.int n] => if okR n = true then some (rngL 0 n) else none
  | _ => none
def gRng2 : List D → Option (List D)
  | [.int a, .int b] => if (okR a && okR b) = true then some (rngL a b) else none
  | _ => none
def mRng (ms : M (List D)) : M (List D) := bnd ms fun ds => opt (gRng ds)
def mRng2 (ms : M (List D)) : M (List D) := bnd ms fun ds => opt (gRng2 ds)
theorem walks_range {K : PySem.W.Frag} {mg : Str → Option Value} {F : Hp} {lo hi : Int} : Walks K mg (Itr lo (hi - lo).toNat) (rngL lo hi) F := by
  refine ⟨_, _, by unfold rngL; rw [List.length_map, List.length_range]; exact walk_range, fun H s => trivial, fun i H1 F1 x H2 hi s1 s2 y => ?_⟩
  obtain ⟨rfl, rfl⟩ := y
  refine ⟨F1, .int (lo + i), Al.refl, ?_, by rw [rp_int]⟩
  unfold rngL at hi ⊢
  rw [List.length_map, List.length_range] at hi
  rw [List.getElem?_map, List.getElem?_range hi]; rfl
theorem ji_range1 {tg : Expr} {p : Pos} {ms : M (List D)} (hg : Gl X "range") (hm : X.mg "range" = none) (ha : JA X T W [a] ms) (hs : starEach [a] X.env = [(false, eval a X.env)] := by rfl) : JI X T W tg (.Call (.Name "range" p) [a] [] pos) (mRng ms) := by
  refine PIimp (pi_range1 hg hm ha hs) fun σ H R ⟨e, F, er, h⟩ => ⟨e, F, er, h.bind.mono fun ds e1 H1 F1 er1 mv1 h1 vs hvs => ?_⟩
  obtain ⟨z, hz, fin⟩ := h1.fin er1
  unfold gRng at hz
  split at hz
  · rename_i n
    split at hz
    · rename_i ho
      cases hz
      obtain ⟨v, rfl, r⟩ := rl_one hvs
      rw [rp_int] at r; subst r
      unfold okR at ho
      rw [Bool.and_eq_true, decide_eq_true_eq, decide_eq_true_eq] at ho
      refine ⟨n, rfl, ho.1, ho.2, fin H1 F1 Al.refl _ ?_⟩
      have := walks_range (K := X.K) (mg := X.mg) (F := F1) (lo := 0) (hi := n)
      rw [Int.sub_zero] at this
      exact this
    · cases hz
  · cases hz
theorem ji_range2 {tg : Expr} {p : Pos} {ms : M (List D)} (hg : Gl X "range") (hm : X.mg "range" = none) (ha : JA X T W [a, b] ms) (hs : starEach [a, b] X.env = [(false, eval a X.env), (false, eval b X.env)] := by rfl) (hs2 : starEach [b] X.env = [(false, eval b X.env)] := by rfl) : JI X T W tg (.Call (.Name "range" p) [a, b] [] pos) (mRng2 ms) := by
  refine PIimp (pi_range2 hg hm ha hs hs2) fun σ H R ⟨e, F, er, h⟩ => ⟨e, F, er, h.bind.mono fun ds e1 H1 F1 er1 mv1 h1 vs hvs => ?_⟩
  obtain ⟨z, hz, fin⟩ := h1.fin er1
  unfold gRng2 at hz
  split at hz
  · rename_i i j
    split at hz
    · rename_i ho
      cases hz
      obtain ⟨v, w, rfl, r, r'⟩ := rl_two hvs
      rw [rp_int] at r r'; subst r r'
      unfold okR at ho
      simp only [Bool.and_eq_true, decide_eq_true_eq] at ho
      exact ⟨i, j, rfl, ⟨ho.1.1, ho.1.2, ho.2.1, ho.2.2⟩, fin H1 F1 Al.refl _ walks_range⟩
    · cases hz
  · cases hz
theorem ER.put {K : PySem.W.Frag} {mg : Str → Option Value} {e : En} {σ : St} {H F : Hp} {i : Nat} {d d' : D} {p : Addr} {o : HO} (er : ER K mg T e σ H F) (h : e[i]? = some (.own d)) (hp : σ[i]? = some (some (.ref p))) (ow : OwnAt K mg (upd H p o) F p d') :
    ER K mg T (e.set i (.own d')) σ (upd H p o) F ∧ Mv e σ H F (e.set i (.own d')) σ (upd H p o) F := by
  have hi : i < e.length := (List.getElem?_eq_some_iff.mp h).1
  obtain ⟨p', h1, h2, h3⟩ := er.own i d h
  rw [hp] at h1; cases h1
  obtain ⟨o0, ho0⟩ := h3.there
  have own : ∀ (j : Nat) (x : D), (e.set i (Sl.own d'))[j]? = some (.own x) → (j ≠ i ∧ e[j]? = some (.own x)) ∨ (j = i ∧ x = d') := fun j x q => by
    by_cases hj : j = i
    · subst hj
      rw [List.getElem?_set_self hi] at q; cases q; exact .inr ⟨rfl, rfl⟩
    · rw [List.getElem?_set_ne (Ne.symm hj)] at q; exact .inl ⟨hj, q⟩
  have iff : ∀ a, Ow (e.set i (Sl.own d')) σ a → Ow e σ a := fun a ⟨j, x, q1, q2⟩ => by
    rcases own j x q1 with ⟨_, w⟩ | ⟨rfl, _⟩
    · exact ⟨j, x, w, q2⟩
    · exact ⟨j, d, h, q2⟩
  refine ⟨⟨fun b u q => ?_, fun j x q => ?_, fun j x q => ?_, fun j k q x y q1 q2 q3 q4 => ?_, by rw [List.length_set]; exact er.len, er.pin⟩, Same.refl _, fun a u q n => ⟨?_, fun z => n (iff a z)⟩, fun a u q => .inl q, fun a q => ?_⟩
  · rw [upd_ne (ne_of_none q h2)]; exact er.sub b u q
  · have hj : j ≠ i := by rintro rfl; rw [List.getElem?_set_self hi] at q; cases q
    rw [List.getElem?_set_ne (Ne.symm hj)] at q
    exact er.val j x q
  · rcases own j x q with ⟨hj, w⟩ | ⟨rfl, rfl⟩
    · obtain ⟨p', g1, g2, g3⟩ := er.own j x w
      refine ⟨p', g1, g2, g3.keep (Same.refl _) fun o' ho' => ?_⟩
      rw [upd_ne]; exact ho'
      rintro rfl
      exact hj (er.inj j i p' x d w h g1 hp)
    · exact ⟨p, hp, h2, ow⟩
  · rcases own j x q1 with ⟨hj, w1⟩ | ⟨hj, _⟩ <;> rcases own k y q2 with ⟨hk, w2⟩ | ⟨hk, _⟩
    · exact er.inj j k q x y w1 w2 q3 q4
    · rw [hk] at q4 ⊢; exact er.inj j i q x d w1 h q3 q4
    · rw [hj] at q3 ⊢; exact er.inj i k q d y h w2 q3 q4
    · rw [hj, hk]
  · rw [upd_ne]; exact q
    rintro rfl
    exact n ⟨i, d, h, hp⟩
  · by_cases hb : a = p
    · subst hb; rw [upd_same] at q; cases q
    · rw [upd_ne hb] at q; exact q
def chkL (i : Nat) : M Unit := fun e => match e[i]? with
  | some (.own (.lst _)) => .ok () e
  | _ => .bad
def putL (i : Nat) (f : List D → Option (List D)) : M Fl := fun e => match e[i]? with
  | some (.own (.lst ds)) => match f ds with
    | some ds' => .ok .nx (e.set i (.own (.lst ds')))
    | none => .bad
  | _ => .bad
theorem chk_fin {K : PySem.W.Frag} {mg : Str → Option Value} {e : En} {σ : St} {H F : Hp} {i : Nat} {Dn : Ends} {k : M Fl} (h : RunS K mg T W e F (bnd (chkL i) fun _ => k) σ H Dn) (er : ER K mg T e σ H F) : ∃ p xs, σ[i]? = some (some (.ref p)) ∧ H p = some (.lst xs) ∧ RunS K mg T W e F k σ H Dn := by
  cases q : e[i]? with
  | none => unfold RunS bnd chkL at h; rw [q] at h; exact h.elim
  | some sl =>
    cases sl with
    | no => unfold RunS bnd chkL at h; rw [q] at h; exact h.elim
    | val d => unfold RunS bnd chkL at h; rw [q] at h; exact h.elim
    | own d =>
      cases d with
      | lst ds =>
        obtain ⟨p, h1, h2, xs, h3, h4⟩ := er.own i _ q
        exact ⟨p, xs, h1, h3, h.after (by unfold bnd chkL; rw [q]) Mv.refl⟩
      | _ => unfold RunS bnd chkL at h; rw [q] at h; exact h.elim
theorem put_fin {K : PySem.W.Frag} {mg : Str → Option Value} {e : En} {σ : St} {H F : Hp} {i : Nat} {Dn : Ends} {f : List D → Option (List D)} (h : RunS K mg T W e F (putL i f) σ H Dn) (er : ER K mg T e σ H F) : ∃ p ds ds' xs, σ[i]? = some (some (.ref p)) ∧ H p = some (.lst xs) ∧ RpL K mg F ds xs ∧ f ds = some ds' ∧
    ∀ xs', RpL K mg F ds' xs' → Dn.nx σ (upd H p (.lst xs')) := by
  cases q : e[i]? with
  | none => unfold RunS putL at h; rw [q] at h; exact h.elim
  | some sl =>
    cases sl with
    | no => unfold RunS putL at h; rw [q] at h; exact h.elim
    | val d => unfold RunS putL at h; rw [q] at h; exact h.elim
    | own d =>
      cases d with
      | lst ds =>
        obtain ⟨p, h1, h2, xs, h3, h4⟩ := er.own i _ q
        cases qf : f ds with
        | none => unfold RunS putL at h; simp only [q, qf] at h
        | some ds' =>
          refine ⟨p, ds, ds', xs, h1, h3, h4, qf, fun xs' l => ?_⟩
          obtain ⟨er2, mv2⟩ := er.put (o := .lst xs') (d' := .lst ds') q h1 ⟨xs', upd_same, l⟩
          unfold RunS putL at h
          simp only [q, qf] at h
          exact h σ _ F er2 mv2
      | _ => unfold RunS putL at h; rw [q] at h; exact h.elim
def sApp (i : Nat) (m : M D) : M Fl := bnd (chkL i) fun _ => bnd m fun d => putL i fun ds => if ds.length < sizeLine then some (ds ++ [d]) else none
theorem js_append {i : Nat} {x : Str} {pn apos cpos : Pos} (hN : X.N[i]? = some x) (hv : Vis X.env.scope x) (ha : JV X T W a ma)
    (hd : (x == ("__debug__" : Str)) = false := by decide) (hcd : (x == ("__classdict__" : Str)) = false := by decide)
    (hst : swapsWith (.Call (.Attribute (.Name x pn) "append" apos) [a] [] cpos) none pos.line X.env = pure false := by rfl)
    (hbase : attributeBase (.Name x pn) "append" X.env (eval (.Name x pn) X.env) = eval (.Name x pn) X.env := by rfl)
    (hfew : ((backTo cpos (starEach [a] X.env)).all (fun x => !x.1) && (backToKw cpos (keywordEach [] X.env)).all (fun x => x.1.isSome)
      && decide ([a].length + ([] : List Keyword).length + (if ([] : List Keyword).isEmpty then 0 else 1) < 30)) = true := by rfl)
    (hline : (apos.endLine == cpos.line) = true := by rfl) (hs : starEach [a] X.env = (false, eval a X.env) :: starEach [] X.env := by rfl) :
    JS X T W (.Expr (.Call (.Attribute (.Name x pn) "append" apos) [a] [] cpos) pos) (sApp i ma) := by
  refine PSimp (ps_expr (pe_bm PySem.F.plainAttrs_list PySem.F.slot_list_append PySem.F.type_list_append mt_append (pe_var hN hv hd hcd) (pa_cons ha pa_nil hs) hbase hfew hline hs rfl) hst) fun Dn σ H ⟨e, F, er, h⟩ => ?_
  obtain ⟨p, xs, h1, h2, h⟩ := chk_fin h er
  refine ⟨_, h1, .inl ⟨rfl, xs, SqL.of h2⟩, e, F, er, h.bind.mono fun d e1 H1 F1 er1 mv1 h3 v hv => ?_⟩
  obtain ⟨p', ds, ds', ys, g1, g2, g3, g4, g5⟩ := put_fin h3 er1
  rw [h1] at g1; cases g1
  split at g4
  · rename_i hz
    cases g4
    exact ⟨p, ys, v, rfl, rfl, g2, by rw [← g3.len]; exact hz, g5 _ (g3.append (by rw [rl_cons]; exact ⟨v, [], rfl, hv, by rw [rl_nil]⟩))⟩
  · cases g4
def sExt (i : Nat) (m : M D) : M Fl := bnd (chkL i) fun _ => bnd m fun d => putL i fun ds => match d with
  | .lst es => if ds.length + es.length ≤ sizeLine then some (ds ++ es) else none
  | _ => none
theorem js_extend {i : Nat} {x : Str} {pn apos cpos : Pos} (hN : X.N[i]? = some x) (hv : Vis X.env.scope x) (ha : JV X T W a ma)
    (hd : (x == ("__debug__" : Str)) = false := by decide) (hcd : (x == ("__classdict__" : Str)) = false := by decide)
    (hst : swapsWith (.Call (.Attribute (.Name x pn) "extend" apos) [a] [] cpos) none pos.line X.env = pure false := by rfl)
    (hbase : attributeBase (.Name x pn) "extend" X.env (eval (.Name x pn) X.env) = eval (.Name x pn) X.env := by rfl)
    (hfew : ((backTo cpos (starEach [a] X.env)).all (fun x => !x.1) && (backToKw cpos (keywordEach [] X.env)).all (fun x => x.1.isSome)
      && decide ([a].length + ([] : List Keyword).length + (if ([] : List Keyword).isEmpty then 0 else 1) < 30)) = true := by rfl)
    (hline : (apos.endLine == cpos.line) = true := by rfl) (hs : starEach [a] X.env = (false, eval a X.env) :: starEach [] X.env := by rfl) :
    JS X T W (.Expr (.Call (.Attribute (.Name x pn) "extend" apos) [a] [] cpos) pos) (sExt i ma) := by
  refine PSimp (ps_expr (pe_bm PySem.F.plainAttrs_list PySem.F.slot_list_extend PySem.F.type_list_extend mt_extend (pe_var hN hv hd hcd) (pa_cons ha pa_nil hs) hbase hfew hline hs rfl) hst) fun Dn σ H ⟨e, F, er, h⟩ => ?_
  obtain ⟨p, xs, h1, h2, h⟩ := chk_fin h er
  refine ⟨_, h1, .inl ⟨rfl, xs, SqL.of h2⟩, e, F, er, h.bind.mono fun d e1 H1 F1 er1 mv1 h3 v hv => ?_⟩
  obtain ⟨p', ds, ds', ys, g1, g2, g3, g4, g5⟩ := put_fin h3 er1
  rw [h1] at g1; cases g1
  split at g4
  · split at g4
    · rename_i hz
      cases g4
      rw [rp_lst] at hv
      obtain ⟨b, zs, rfl, hb, hl⟩ := hv
      exact ⟨p, b, ys, zs, rfl, rfl, g2, er1.sub _ _ hb, by rw [← g3.len, ← hl.len]; exact hz, g5 _ (g3.append hl)⟩
    · cases g4
  · cases g4
def sPutI (i : Nat) (mi m : M D) : M Fl := bnd m fun d => bnd (chkL i) fun _ => bnd mi fun k => putL i fun ds => match k with
  | .int j => (ixN ds.length j).map fun n => ds.set n d
  | _ => none
theorem js_putI {i : Nat} {x : Str} {pn ps : Pos} {mi : M D} (hN : X.N[i]? = some x) (hv : Vis X.env.scope x) (ha : JV X T W a ma) (hi : JV X T W b mi)
    (hd : (x == ("__debug__" : Str)) = false := by decide) (hcd : (x == ("__classdict__" : Str)) = false := by decide)
    (hs : swapsWithSole [.Subscript (.Name x pn) b ps] a pos.line X.env = pure false := by rfl) (hw : swappedStores [.Subscript (.Name x pn) b ps] a X.env = pure none := by rfl)
    (h1 : (assignEach [.Subscript (.Name x pn) b ps] X.env).map (·.2) = [assign (.Subscript (.Name x pn) b ps) X.env] := by rfl)
    (hb : ∀ v, assign (.Subscript (.Name x pn) b ps) X.env v = (do
      let ov ← holding [v] (eval (.Name x pn) X.env)
      let iv ← holding [v, ov] (eval b X.env)
      standAt ps
      holding [v, ov, iv] (setItem ov iv v)
      release [v, ov, iv] []) := by intro _; rfl) :
    JS X T W (.Assign [.Subscript (.Name x pn) b ps] a pos) (sPutI i mi ma) := by
  refine PSimp (ps_asg ha (pg_sub (pe_var hN hv hd hcd) hi set_list hb) hs hw h1) fun Dn σ H ⟨e, F, er, h⟩ => ⟨e, F, er, h.bind.mono fun d e1 H1 F1 er1 mv1 h3 v hv => ?_⟩
  obtain ⟨p, xs, g1, g2, h4⟩ := chk_fin h3 er1
  refine ⟨_, g1, e1, F1, er1, h4.bind.mono fun k e2 H2 F2 er2 mv2 h5 w hw => ?_⟩
  obtain ⟨p', ds, ds', ys, g3, g4, g5, g6, g7⟩ := put_fin h5 er2
  rw [g1] at g3; cases g3
  split at g6
  · rename_i j
    rw [Option.map_eq_some_iff] at g6
    obtain ⟨n, g6, rfl⟩ := g6
    rw [rp_int] at hw
    exact ⟨p, ys, j, n, rfl, hw, g4, by rw [← g5.len]; exact g6, g7 _ (RpL.set (Rp.mono mv2.sub _ _ hv) n g5)⟩
  · cases g6
end
end Sr
namespace Sr
open PySem hiding start
open PySem.Spec L2
open PyProof.Rows hiding St
inductive Rs where
  | ok (d o : D)
  | exc (x : Ex) (o : D)
  | bad
abbrev Fnc := D → List D → Rs
structure Fr (p : Option Addr) (H F H' F' : Hp) : Prop where
  sub : Same F F'
  fin : Same F' H'
  keep : ∀ a o, H a = some o → p ≠ some a → H' a = some o
  new : ∀ a o, F' a = some o → F a = some o ∨ H a = none
  there : ∀ a, H' a = none → H a = none
section
variable (K : PySem.W.Frag) (mg : Str → Option Value)
def Res (ro : Bool) (p : Option Addr) (d : D) (H : Hp) (Q : VK) (H' F' : Hp) : Prop :=
  if ro = true then ∀ q, H q = none → F' q = none → OwnAt K mg H' F' q d → Q (.ref q) H' else ∀ v, Rp K mg F' d v → Q v H'
def spF0 (ro : Bool) (n : Nat) (f : Fnc) : Sp := fun vs H Q E => ∃ (ds : List D) (F : Hp), Same F H ∧ RpL K mg F ds vs ∧ ds.length = n ∧
  match f .non ds with
  | .ok d _ => ∀ H' F', Fr none H F H' F' → Res K mg ro none d H Q H' F'
  | .exc x _ => ∀ H' F' cl dd, Fr none H F H' F' → XR K mg x cl dd H' F' → E cl dd H'
  | .bad => False
def spF1 (ro : Bool) (n : Nat) (f : Fnc) : Sp := fun vs H Q E => ∃ (p : Addr) (o : D) (ws : List V) (ds : List D) (F : Hp), vs = .ref p :: ws ∧ Same F H ∧ F p = none ∧ OwnAt K mg H F p o ∧ RpL K mg F ds ws ∧ ds.length + 1 = n ∧
  match f o ds with
  | .ok d o' => ∀ H' F', Fr (some p) H F H' F' → F' p = none → OwnAt K mg H' F' p o' → Res K mg ro (some p) d H Q H' F'
  | .exc x o' => ∀ H' F' cl dd, Fr (some p) H F H' F' → F' p = none → OwnAt K mg H' F' p o' → XR K mg x cl dd H' F' → E cl dd H'
  | .bad => False
end
def st0 (nl : Nat) (ds : List D) : En := ds.map Sl.val ++ List.replicate (nl - ds.length) Sl.no
def st1 (nl : Nat) (o : D) (ds : List D) : En := Sl.own o :: st0 (nl - 1) ds
def fin0 (ro : Bool) : Out Fl → Rs
  | .ok .nx _ => if ro = true then .bad else .ok .non .non
  | .ok (.rt d) _ => if ro = true then .bad else .ok d .non
  | .ok (.ro d) _ => .ok d .non
  | .ok _ _ => .bad
  | .exc x _ => .exc x .non
  | .bad => .bad
def fin1 (ro : Bool) : Out Fl → Rs
  | .ok fl e => match (e[0]? : Option Sl) with
    | some (Sl.own o) => match fl with
      | .nx => if ro = true then .bad else .ok .non o
      | .rt d => if ro = true then .bad else .ok d o
      | .ro d => .ok d o
      | _ => .bad
    | _ => .bad
  | .exc x e => match (e[0]? : Option Sl) with
    | some (Sl.own o) => .exc x o
    | _ => .bad
  | .bad => .bad
def mkF0 (nl : Nat) (ro : Bool) (s : M Fl) : Fnc := fun _ ds => fin0 ro (s (st0 nl ds))
def mkF1 (nl : Nat) (ro : Bool) (s : M Fl) : Fnc := fun o ds => fin1 ro (s (st1 nl o ds))
section
variable {K : PySem.W.Frag} {mg : Str → Option Value}
theorem st0_get {nl : Nat} {ds : List D} {i : Nat} {sl : Sl} (h : (st0 nl ds)[i]? = some sl) : (∃ d, ds[i]? = some d ∧ sl = .val d) ∨ sl = .no := by
  unfold st0 at h
  rw [List.getElem?_append] at h
  split at h
  · rw [List.getElem?_map] at h
    cases q : ds[i]? with
    | none => rw [q] at h; cases h
    | some d => rw [q] at h; cases h; exact .inl ⟨d, rfl, rfl⟩
  · rw [List.getElem?_replicate] at h
    split at h
    · cases h; exact .inr rfl
    · cases h
theorem ER.start0 {N : List Str} {vs : List V} {ds : List D} {H F : Hp} (s : Same F H) (l : RpL K mg F ds vs) (hl : vs.length ≤ N.length) : ER K mg none (st0 N.length ds) (start N vs) H F := by
  refine ⟨s, fun i d h => ?_, fun i d h => ?_, fun i j p d d' h => ?_, ?_, fun p h => nomatch h⟩
  · rcases st0_get h with ⟨d', h1, h2⟩ | h2
    · cases h2
      obtain ⟨v, h3, h4⟩ := l.get h1
      refine ⟨v, ?_, h4⟩
      unfold start
      rw [List.getElem?_append_left (by rw [List.length_map]; exact (List.getElem?_eq_some_iff.mp h3).1), List.getElem?_map, h3]; rfl
    · cases h2
  · rcases st0_get h with ⟨d', h1, h2⟩ | h2 <;> cases h2
  · rcases st0_get h with ⟨d', h1, h2⟩ | h2 <;> cases h2
  · unfold st0 start
    simp only [List.length_append, List.length_map, List.length_replicate, l.len]
theorem ER.start1 {N : List Str} {ws : List V} {ds : List D} {H F : Hp} {p : Addr} {o : D} (s : Same F H) (fp : F p = none) (ow : OwnAt K mg H F p o) (l : RpL K mg F ds ws) (hl : ws.length + 1 ≤ N.length) : ER K mg (some p) (st1 N.length o ds) (start N (.ref p :: ws)) H F := by
  have own : ∀ (i : Nat) (d : D), (st1 N.length o ds)[i]? = some (.own d) → i = 0 ∧ d = o := fun i d h => by
    unfold st1 at h
    cases i with
    | zero => simp at h; exact ⟨rfl, h.symm⟩
    | succ i =>
      rw [List.getElem?_cons_succ] at h
      rcases st0_get h with ⟨d', h1, h2⟩ | h2 <;> cases h2
  refine ⟨s, fun i d h => ?_, fun i d h => ?_, fun i j q d d' h h' => fun _ _ => by rw [(own i d h).1, (own j d' h').1], ?_, fun q h => ?_⟩
  · unfold st1 at h
    cases i with
    | zero => simp at h
    | succ i =>
      rw [List.getElem?_cons_succ] at h
      rcases st0_get h with ⟨d', h1, h2⟩ | h2
      · cases h2
        obtain ⟨v, h3, h4⟩ := l.get h1
        refine ⟨v, ?_, h4⟩
        unfold start
        rw [List.map_cons, List.cons_append, List.getElem?_cons_succ, List.getElem?_append_left (by rw [List.length_map]; exact (List.getElem?_eq_some_iff.mp h3).1), List.getElem?_map, h3]; rfl
      · cases h2
  · obtain ⟨rfl, rfl⟩ := own i d h
    exact ⟨p, rfl, fp, ow⟩
  · unfold st1 st0 start
    simp only [List.length_append, List.length_map, List.length_replicate, List.length_cons, l.len]
    omega
  · cases h; rfl
theorem no_ow0 {nl : Nat} {ds : List D} {σ : St} {a : Addr} : ¬ Ow (st0 nl ds) σ a := by
  rintro ⟨i, d, h, _⟩
  rcases st0_get h with ⟨d', h1, h2⟩ | h2 <;> cases h2
theorem ow1 {N : List Str} {ds : List D} {o : D} {ws : List V} {p a : Addr} (h : Ow (st1 N.length o ds) (start N (.ref p :: ws)) a) : a = p := by
  obtain ⟨i, d, h, h'⟩ := h
  unfold st1 at h
  cases i with
  | zero =>
    have e : (start N (.ref p :: ws))[0]? = some (some (.ref p)) := rfl
    rw [e] at h'; cases h'; rfl
  | succ i =>
    rw [List.getElem?_cons_succ] at h
    rcases st0_get h with ⟨d', h1, h2⟩ | h2 <;> cases h2
theorem Mv.fr0 {nl : Nat} {ds : List D} {e' : En} {σ σ' : St} {H F H' F' : Hp} (er : ER K mg none e' σ' H' F') (mv : Mv (st0 nl ds) σ H F e' σ' H' F') : Fr none H F H' F' :=
  ⟨mv.sub, er.sub, fun a o h _ => (mv.keep a o h no_ow0).1, fun a o h => by
    rcases mv.new a o h with h | h | h
    · exact .inl h
    · exact .inr h
    · exact (no_ow0 h).elim, mv.there⟩
theorem Mv.fr1 {N : List Str} {ds : List D} {o o' : D} {ws : List V} {p : Addr} {e' : En} {σ' : St} {H F H' F' : Hp} (er : ER K mg (some p) e' σ' H' F') (h0 : e'[0]? = some (.own o')) (mv : Mv (st1 N.length o ds) (start N (.ref p :: ws)) H F e' σ' H' F') : Fr (some p) H F H' F' ∧ F' p = none ∧ OwnAt K mg H' F' p o' := by
  obtain ⟨p', h1, h2, h3⟩ := er.own 0 o' h0
  rw [er.pin p rfl] at h1; cases h1
  refine ⟨⟨mv.sub, er.sub, fun a u h n => (mv.keep a u h fun z => n (by rw [ow1 z])).1, fun a u h => ?_, mv.there⟩, h2, h3⟩
  rcases mv.new a u h with g | g | g
  · exact .inl g
  · exact .inr g
  · rw [ow1 g, h2] at h; cases h
end
section
variable {P : Program} {w : World} {K : PySem.W.Frag} {mg : Str → Option Value} {base : Heap} {x qual : Str} {params : Arguments} {body : List Stmt} {scope : Scope} {dvs : List V} {kws : List (Str × V)} {f : Addr} {fd : FuncData}
abbrev WE0 (E : XK) : WX := fun cls d _ H => E cls d H
theorem res_v {ro : Bool} {p : Option Addr} {d : D} {H H' F' : Hp} {Q : VK} {v : V} (hr : ro = false) (h : Res K mg ro p d H Q H' F') (r : Rp K mg F' d v) : Q v H' := by
  subst hr; exact h v r
theorem res_o {d : D} {H F H' F' : Hp} {Q : VK} {q : Addr} {p : Option Addr} {ro : Bool} {C : Hp → Hp → Prop} (h : ∀ H' F', Fr p H F H' F' → C H' F' → Res K mg ro p d H Q H' F') (hC : ∀ F'', Same F' F'' → (∀ o, F'' = upd F' q o → C H' F'')) (c0 : C H' F') (fr : Fr p H F H' F') (hq : H q = none) (fq : F' q = none) (ow : OwnAt K mg H' F' q d) : Q (.ref q) H' := by
  cases ro with
  | true => exact h H' F' fr c0 q hq fq ow
  | false =>
    obtain ⟨o, ho⟩ := ow.there
    have s : Same F' (upd F' q o) := same_upd fq
    refine h H' (upd F' q o) ⟨fr.sub.trans s, fun b u e => ?_, fr.keep, fun b u e => ?_, fr.there⟩ (hC _ s o rfl) _ (ow.rp fq ho)
    · by_cases hb : b = q
      · subst hb; rw [upd_same] at e; cases e; exact ho
      · rw [upd_ne hb] at e; exact fr.fin b u e
    · by_cases hb : b = q
      · subst hb; exact .inr hq
      · rw [upd_ne hb] at e; exact fr.new b u e
structure FnG (P : Program) (w : World) (K : PySem.W.Frag) (mg : Str → Option Value) (base : Heap) (k : Nat) (f : Addr) (fd : FuncData) (ps : List Str) (sp : Sp) : Prop where
  len : ∀ vs H Q E, sp vs H Q E → vs.length = ps.length
  run : ∀ (A : Around) (outer : List Env) (s : Shared) (H : Hp) (args : Args) (us : List Value) (vs : List V) (Q : VK) (E : XK),
    Room k A → A.guards = some [] → Env0 P w K mg base A outer s H → BindsTo s fd args (ps.zip us) → Vals vs us → sp vs H Q E →
    codeAny (model P w) A (.call (.ref f) args) (CR (L2.CX P w) outer P w H s Q E) s
theorem FnG.mono {P : Program} {w : World} {K : PySem.W.Frag} {mg : Str → Option Value} {base : Heap} {j k : Nat} {f : Addr} {fd : FuncData} {ps : List Str} {sp : Sp} (F : FnG P w K mg base j f fd ps sp) (h : j ≤ k) : FnG P w K mg base k f fd ps sp :=
  ⟨F.len, fun A outer s H args us vs Q E hr => F.run A outer s H args us vs Q E (hr.mono h)⟩
theorem fnG_of {N ps : List Str} {k : Nat} {sp : Sp} (G : FunD K x qual params body scope dvs kws f fd) (S : FnScope N ps scope) (len : ∀ vs H Q E, sp vs H Q E → vs.length = ps.length)
    (hbody : ∀ (cdv : Value) (A : Around) (outer : List Env) (s : Shared) (H : Hp) (vs : List V) (Q : VK) (E : XK), Room k (A.deeper (envOfC qual scope s.heap.objs.size f cdv)) → A.guards = some [] → sp vs H Q E →
      ∃ t, PSs (cxOf (L2.CX P w) P w K mg base N qual scope f cdv A outer s H E) body t ∧ t { nx := fun _ H' => Q .non H', rt := Q } (start N vs) H) :
    FnG P w K mg base (k + 1) f fd ps sp := by
  obtain ⟨oc, od, dV, kV, doc, pm, an, cdv, ct, osl, rfl, lk, hcd, _, _⟩ := G.ex
  refine ⟨len, fun A outer s H args us vs Q E hr hgu e0 hb r hsp => ?_⟩
  have KX : K.In s.heap := e0.mod.kin.keeps fun b o q => (e0.bs b o q).1
  have lim : s.heap.NoLimit := e0.mod.nolimit.keeps fun b o q => (e0.bs b o q).1
  refine codeAny_call_function hr.depth (KX _ _ lk) rfl S.co S.gen rfl (PySem.W.codeRec_of KX hcd) (hb _ _ _ _ ?_)
  refine wpAny_newFunctionEnv_cells S.kind (fun ⟨n, v⟩ hy => ?_) fun env he s1 y => ?_
  · rcases S.par n (List.of_mem_zip hy).1 with q | q
    · exact .inl q
    · exact .inr ⟨q, PySem.W.cellsFrom_some _ _ _ (.inl q)⟩
  · subst he
    refine ⟨lim.keeps y.toInCall.keep, codeAny_func ?_⟩
    obtain ⟨t, ht, hq⟩ := hbody cdv A outer s H vs Q E (hr.deeper _) hgu hsp
    have I := inv_start (CX := L2.CX P w) (mg := mg) (E := E) S hr.hd e0 (len _ _ _ _ hsp) r y
    refine wpAny_mono (ht.run [] s1 (start N vs) H _ I hq) (fun fl s' hs => ?_) fun _ _ hs => hs
    match fl, hs with
    | .ret u, ⟨v, σ', H', J, rv, q⟩ => exact ⟨v, H', J.os, J.bare, J.base, J.hok, rv, q⟩
    | .next, ⟨σ', H', J, q⟩ => exact ⟨.non, H', J.os, J.bare, J.base, J.hok, rfl, q⟩
    | .brk, ⟨_, _, _, q⟩ => exact q.elim
    | .cont, ⟨_, _, _, q⟩ => exact q.elim
theorem fn0 {N ps : List Str} {k nl np : Nat} {ro : Bool} {s : M Fl} (hnl : N.length = nl) (hnp : ps.length = np) (G : FunD K x qual params body scope dvs kws f fd) (S : FnScope N ps scope)
    (hb : ∀ (cdv : Value) (A : Around) (outer : List Env) (s0 : Shared) (H : Hp) (E : XK), Room k (A.deeper (envOfC qual scope s0.heap.objs.size f cdv)) → A.guards = some [] → JSs (cxOf (L2.CX P w) P w K mg base N qual scope f cdv A outer s0 H E) none (WE0 E) body s) :
    FnG P w K mg base (k + 1) f fd ps (spF0 K mg ro np (mkF0 nl ro s)) := by
  subst hnl hnp
  refine fnG_of G S (fun vs H Q E h => ?_) (fun cdv A outer s0 H vs Q E hr hgu h => ?_)
  · obtain ⟨ds, F, _, l, hl, _⟩ := h
    rw [← l.len]; exact hl
  · obtain ⟨ds, F, sub, l, hl, h⟩ := h
    have hN : ps.length ≤ N.length := by have := congrArg List.length S.pre; rw [List.length_take] at this; omega
    refine ⟨_, hb cdv A outer s0 H E hr hgu, st0 N.length ds, F, ER.start0 sub l (by rw [← l.len]; omega), ?_⟩
    unfold RunS
    unfold mkF0 at h
    cases q : s (st0 N.length ds) with
    | ok fl e1 =>
      rw [q] at h
      cases fl with
      | nx =>
        cases ro with
        | true => exact h.elim
        | false => exact fun σ' H' F' er mv => res_v rfl (h H' F' (mv.fr0 er)) (by rw [rp_non])
      | rt d =>
        cases ro with
        | true => exact h.elim
        | false => exact fun σ' H' F' v er mv r => res_v rfl (h H' F' (mv.fr0 er)) r
      | ro d => exact fun σ' H' F' p er mv hp fp np ow => res_o (C := fun _ _ => True) (fun H' F' fr _ => h H' F' fr) (fun _ _ _ _ => trivial) trivial (mv.fr0 er) hp fp ow
      | bk => exact h.elim
      | ct => exact h.elim
    | exc x e1 =>
      rw [q] at h
      intro σ' H' F' cl dd er mv xr
      exact h H' F' cl dd (mv.fr0 er) xr
    | bad => rw [q] at h; exact h.elim
theorem fn1 {N ps : List Str} {k nl np : Nat} {ro : Bool} {s : M Fl} (hnl : N.length = nl) (hnp : ps.length = np) (G : FunD K x qual params body scope dvs kws f fd) (S : FnScope N ps scope)
    (hb : ∀ (cdv : Value) (A : Around) (outer : List Env) (s0 : Shared) (H : Hp) (E : XK) (p : Addr), Room k (A.deeper (envOfC qual scope s0.heap.objs.size f cdv)) → A.guards = some [] → JSs (cxOf (L2.CX P w) P w K mg base N qual scope f cdv A outer s0 H E) (some p) (WE0 E) body s) :
    FnG P w K mg base (k + 1) f fd ps (spF1 K mg ro np (mkF1 nl ro s)) := by
  subst hnl hnp
  refine fnG_of G S (fun vs H Q E h => ?_) (fun cdv A outer s0 H vs Q E hr hgu h => ?_)
  · obtain ⟨p, o, ws, ds, F, rfl, _, _, _, l, hl, _⟩ := h
    rw [List.length_cons, ← l.len]; exact hl
  · obtain ⟨p, o, ws, ds, F, rfl, sub, fp, ow, l, hl, h⟩ := h
    have hN : ps.length ≤ N.length := by have := congrArg List.length S.pre; rw [List.length_take] at this; omega
    refine ⟨_, hb cdv A outer s0 H E p hr hgu, st1 N.length o ds, F, ER.start1 sub fp ow l (by rw [← l.len]; omega), ?_⟩
    unfold RunS
    unfold mkF1 at h
    cases q : s (st1 N.length o ds) with
    | ok fl e1 =>
      rw [q] at h
      unfold fin1 at h
      dsimp only at h
      cases q0 : (e1[0]? : Option Sl) with
      | none => rw [q0] at h; exact h.elim
      | some sl =>
        rw [q0] at h
        cases sl with
        | no => exact h.elim
        | val d => exact h.elim
        | own o' =>
          dsimp only at h
          cases fl with
          | nx =>
            cases ro with
            | true => exact h.elim
            | false =>
              intro σ' H' F' er mv
              obtain ⟨f1, f2, f3⟩ := mv.fr1 er q0
              exact res_v rfl (h H' F' f1 f2 f3) (by rw [rp_non])
          | rt d =>
            cases ro with
            | true => exact h.elim
            | false =>
              intro σ' H' F' v er mv r
              obtain ⟨f1, f2, f3⟩ := mv.fr1 er q0
              exact res_v rfl (h H' F' f1 f2 f3) r
          | ro d =>
            intro σ' H' F' pp er mv hp fp' np ow'
            obtain ⟨f1, f2, f3⟩ := mv.fr1 er q0
            obtain ⟨o1, ho1⟩ := ow.there
            have hpp : p ≠ pp := ne_of_none ho1 hp
            refine res_o (ro := ro) (C := fun H'' F'' => F'' p = none ∧ OwnAt K mg H'' F'' p o') (fun H2 F2 fr c => h H2 F2 fr c.1 c.2) (fun F'' sm o e => ⟨?_, f3.keep sm fun _ z => z⟩) ⟨f2, f3⟩ f1 hp fp' ow'
            rw [e, upd_ne hpp]; exact f2
          | bk => exact h.elim
          | ct => exact h.elim
    | exc x e1 =>
      rw [q] at h
      unfold fin1 at h
      dsimp only at h
      cases q0 : (e1[0]? : Option Sl) with
      | none => rw [q0] at h; exact h.elim
      | some sl =>
        rw [q0] at h
        cases sl with
        | no => exact h.elim
        | val d => exact h.elim
        | own o' =>
          intro σ' H' F' cl dd er mv xr
          obtain ⟨f1, f2, f3⟩ := mv.fr1 er q0
          exact h H' F' cl dd f1 f2 f3 xr
    | bad => rw [q] at h; exact h.elim
end
end Sr
namespace Sr
open PySem hiding start
open PySem.Spec L2
open PyProof.Rows hiding St
section
variable {K : PySem.W.Frag} {mg : Str → Option Value} {T : Option Addr} {W : WX} {e : En} {σ : St} {H F H' F' : Hp}
theorem ER.fr (er : ER K mg T e σ H F) (fr : Fr none H F H' F') : ER K mg T e σ H' F' ∧ Mv e σ H F e σ H' F' := by
  have s : Same H H' := fun a o h => fr.keep a o h (fun z => nomatch z)
  refine ⟨⟨fr.fin, fun i d h => ?_, fun i d h => ?_, er.inj, er.len, er.pin⟩, fr.sub, fun a o h n => ⟨s a o h, n⟩, fun a o h => ?_, fr.there⟩
  · obtain ⟨v, h1, h2⟩ := er.val i d h
    exact ⟨v, h1, Rp.mono fr.sub _ _ h2⟩
  · obtain ⟨p, h1, h2, h3⟩ := er.own i d h
    refine ⟨p, h1, ?_, h3.keep fr.sub (s p)⟩
    obtain ⟨o, ho⟩ := h3.there
    cases q : F' p with
    | none => rfl
    | some u =>
      rcases fr.new p u q with z | z
      · rw [h2] at z; cases z
      · rw [ho] at z; cases z
  · rcases fr.new a o h with z | z
    · exact .inl z
    · exact .inr (.inl z)
theorem ER.fr1 {i : Nat} {o o' : D} {p : Addr} (er : ER K mg T e σ H F) (h0 : e[i]? = some (.own o)) (hp : σ[i]? = some (some (.ref p))) (fr : Fr (some p) H F H' F') (fp : F' p = none) (ow : OwnAt K mg H' F' p o') : ER K mg T (e.set i (.own o')) σ H' F' ∧ Mv e σ H F (e.set i (.own o')) σ H' F' := by
  have hi : i < e.length := (List.getElem?_eq_some_iff.mp h0).1
  have own : ∀ (j : Nat) (x : D), (e.set i (Sl.own o'))[j]? = some (.own x) → (j ≠ i ∧ e[j]? = some (.own x)) ∨ (j = i ∧ x = o') := fun j x q => by
    by_cases hj : j = i
    · subst hj
      rw [List.getElem?_set_self hi] at q; cases q; exact .inr ⟨rfl, rfl⟩
    · rw [List.getElem?_set_ne (Ne.symm hj)] at q; exact .inl ⟨hj, q⟩
  have iff : ∀ a, Ow (e.set i (Sl.own o')) σ a → Ow e σ a := fun a ⟨j, x, q1, q2⟩ => by
    rcases own j x q1 with ⟨_, w⟩ | ⟨rfl, _⟩
    · exact ⟨j, x, w, q2⟩
    · exact ⟨j, o, h0, q2⟩
  refine ⟨⟨fr.fin, fun j d h => ?_, fun j d h => ?_, fun j k q x y q1 q2 q3 q4 => ?_, by rw [List.length_set]; exact er.len, er.pin⟩, fr.sub, fun a u h n => ⟨fr.keep a u h fun z => n ?_, fun z => n (iff a z)⟩, fun a u h => ?_, fr.there⟩
  · have hj : j ≠ i := by rintro rfl; rw [List.getElem?_set_self hi] at h; cases h
    rw [List.getElem?_set_ne (Ne.symm hj)] at h
    obtain ⟨v, h1, h2⟩ := er.val j d h
    exact ⟨v, h1, Rp.mono fr.sub _ _ h2⟩
  · rcases own j d h with ⟨hj, w⟩ | ⟨rfl, rfl⟩
    · obtain ⟨q, h1, h2, h3⟩ := er.own j d w
      have hqp : q ≠ p := by
        rintro rfl
        exact hj (er.inj j i q d o w h0 h1 hp)
      obtain ⟨u, hu⟩ := h3.there
      refine ⟨q, h1, ?_, h3.keep fr.sub fun v hv => fr.keep q v hv fun z => hqp (Option.some.inj z).symm⟩
      cases c : F' q with
      | none => rfl
      | some y =>
        rcases fr.new q y c with z | z
        · rw [h2] at z; cases z
        · rw [hu] at z; cases z
    · exact ⟨p, hp, fp, ow⟩
  · rcases own j x q1 with ⟨hj, w1⟩ | ⟨hj, _⟩ <;> rcases own k y q2 with ⟨hk, w2⟩ | ⟨hk, _⟩
    · exact er.inj j k q x y w1 w2 q3 q4
    · rw [hk] at q4 ⊢; exact er.inj j i q x o w1 h0 q3 q4
    · rw [hj] at q3 ⊢; exact er.inj i k q o y h0 w2 q3 q4
    · rw [hj, hk]
  · cases z; exact ⟨i, o, h0, hp⟩
  · rcases fr.new a u h with z | z
    · exact .inl z
    · exact .inr (.inl z)
end
def ap0 (f : Fnc) (ds : List D) : M D := fun e => match f .non ds with
  | .ok d _ => .ok d e
  | .exc x _ => .exc x e
  | .bad => .bad
def ap1 (f : Fnc) (i : Nat) (ds : List D) : M D := fun e => match e[i]? with
  | some (.own o) => match f o ds with
    | .ok d o' => .ok d (e.set i (.own o'))
    | .exc x o' => .exc x (e.set i (.own o'))
    | .bad => .bad
  | _ => .bad
def mC0 (f : Fnc) (dds : List D) (ms : M (List D)) : M D := bnd ms fun ds => ap0 f (ds ++ dds)
def chkO (i : Nat) : M Unit := fun e => match e[i]? with
  | some (.own _) => .ok () e
  | _ => .bad
def mC1 (f : Fnc) (i : Nat) (dds : List D) (ms : M (List D)) : M D := bnd (chkO i) fun _ => bnd ms fun ds => ap1 f i (ds ++ dds)
section
variable {K : PySem.W.Frag} {mg : Str → Option Value} {T : Option Addr} {W : WX} {e : En} {σ : St} {H F : Hp} {f : Fnc} {ds : List D} {n : Nat}
theorem ap0_v {vs : List V} {Q : VK} (h : RunAt K mg T W e F (ap0 f ds) σ H fun d _ H' F' => ∀ v, Rp K mg F' d v → Q v H') (er : ER K mg T e σ H F) (l : RpL K mg F ds vs) (hn : ds.length = n) : spF0 K mg false n f vs H Q (fun cl dd H' => W cl dd σ H') := by
  refine ⟨ds, F, er.sub, l, hn, ?_⟩
  unfold RunAt ap0 at h
  cases q : f .non ds with
  | ok d o =>
    simp only [q] at h
    intro H' F' fr
    obtain ⟨er', mv⟩ := er.fr fr
    exact h H' F' er' mv
  | exc x o =>
    simp only [q] at h
    intro H' F' cl dd fr xr
    obtain ⟨er', mv⟩ := er.fr fr
    exact h H' F' cl dd er' mv xr
  | bad => simp only [q] at h
theorem ap0_o {vs : List V} {Q : VK} {H0 : Hp} (h : RunAt K mg T W e F (ap0 f ds) σ H fun d e' H' F' => ∀ p, H0 p = none → F' p = none → ¬ Ow e' σ p → OwnAt K mg H' F' p d → Q (.ref p) H') (hH : ∀ p, H p = none → H0 p = none) (er : ER K mg T e σ H F) (l : RpL K mg F ds vs) (hn : ds.length = n) : spF0 K mg true n f vs H Q (fun cl dd H' => W cl dd σ H') := by
  refine ⟨ds, F, er.sub, l, hn, ?_⟩
  unfold RunAt ap0 at h
  cases q : f .non ds with
  | ok d o =>
    simp only [q] at h
    intro H' F' fr p hp fp ow
    obtain ⟨er', mv⟩ := er.fr fr
    exact h H' F' er' mv p (hH p hp) fp (Ow.ne_of_free er hp) ow
  | exc x o =>
    simp only [q] at h
    intro H' F' cl dd fr xr
    obtain ⟨er', mv⟩ := er.fr fr
    exact h H' F' cl dd er' mv xr
  | bad => simp only [q] at h
theorem ap1_v {i : Nat} {p : Addr} {vs : List V} {Q : VK} (h : RunAt K mg T W e F (ap1 f i ds) σ H fun d _ H' F' => ∀ v, Rp K mg F' d v → Q v H') (er : ER K mg T e σ H F) (hp : σ[i]? = some (some (.ref p))) (l : RpL K mg F ds vs) (hn : ds.length + 1 = n) : spF1 K mg false n f (.ref p :: vs) H Q (fun cl dd H' => W cl dd σ H') := by
  unfold RunAt ap1 at h
  cases q0 : e[i]? with
  | none => simp only [q0] at h
  | some sl =>
    cases sl with
    | no => simp only [q0] at h
    | val d => simp only [q0] at h
    | own o =>
      simp only [q0] at h
      obtain ⟨p', h1, h2, h3⟩ := er.own i o q0
      rw [hp] at h1; cases h1
      refine ⟨p, o, vs, ds, F, rfl, er.sub, h2, h3, l, hn, ?_⟩
      cases q : f o ds with
      | ok d o' =>
        simp only [q] at h
        intro H' F' fr fp ow
        obtain ⟨er', mv⟩ := er.fr1 q0 hp fr fp ow
        exact h H' F' er' mv
      | exc x o' =>
        simp only [q] at h
        intro H' F' cl dd fr fp ow xr
        obtain ⟨er', mv⟩ := er.fr1 q0 hp fr fp ow
        exact h H' F' cl dd er' mv xr
      | bad => simp only [q] at h
theorem ap1_o {i : Nat} {p : Addr} {vs : List V} {Q : VK} {H0 : Hp} (h : RunAt K mg T W e F (ap1 f i ds) σ H fun d e' H' F' => ∀ p, H0 p = none → F' p = none → ¬ Ow e' σ p → OwnAt K mg H' F' p d → Q (.ref p) H') (hH : ∀ p, H p = none → H0 p = none) (er : ER K mg T e σ H F) (hp : σ[i]? = some (some (.ref p))) (l : RpL K mg F ds vs) (hn : ds.length + 1 = n) : spF1 K mg true n f (.ref p :: vs) H Q (fun cl dd H' => W cl dd σ H') := by
  unfold RunAt ap1 at h
  cases q0 : e[i]? with
  | none => simp only [q0] at h
  | some sl =>
    cases sl with
    | no => simp only [q0] at h
    | val d => simp only [q0] at h
    | own o =>
      simp only [q0] at h
      obtain ⟨p', h1, h2, h3⟩ := er.own i o q0
      rw [hp] at h1; cases h1
      refine ⟨p, o, vs, ds, F, rfl, er.sub, h2, h3, l, hn, ?_⟩
      cases q : f o ds with
      | ok d o' =>
        simp only [q] at h
        intro H' F' fr fp ow r hr fr' ow'
        obtain ⟨er', mv⟩ := er.fr1 q0 hp fr fp ow
        refine h H' F' er' mv r (hH r hr) fr' ?_ ow'
        rintro ⟨j, x, q1, q2⟩
        refine Ow.ne_of_free er hr ?_
        by_cases hj : j = i
        · subst hj; exact ⟨j, o, q0, q2⟩
        · rw [List.getElem?_set_ne (Ne.symm hj)] at q1; exact ⟨j, x, q1, q2⟩
      | exc x o' =>
        simp only [q] at h
        intro H' F' cl dd fr fp ow xr
        obtain ⟨er', mv⟩ := er.fr1 q0 hp fr fp ow
        exact h H' F' cl dd er' mv xr
      | bad => simp only [q] at h
theorem chkO_fin {A : Type} {i : Nat} {k : M A} {P : A → En → Hp → Hp → Prop} (h : RunAt K mg T W e F (bnd (chkO i) fun _ => k) σ H P) (er : ER K mg T e σ H F) : ∃ p, σ[i]? = some (some (.ref p)) ∧ RunAt K mg T W e F k σ H P := by
  unfold RunAt bnd chkO at h
  cases q : e[i]? with
  | none => simp only [q] at h
  | some sl =>
    cases sl with
    | no => simp only [q] at h
    | val d => simp only [q] at h
    | own d =>
      simp only [q] at h
      obtain ⟨p, h1, h2, h3⟩ := er.own i d q
      exact ⟨p, h1, h⟩
end
theorem len_nil {e e' : En} {ds : List D} (h : mNil e = .ok ds e') : ds.length = 0 := by cases h; rfl
theorem len_cons {n : Nat} {m : M D} {ms : M (List D)} (hh : ∀ (ds : List D) (e e' : En), ms e = .ok ds e' → ds.length = n) (ds : List D) (e e' : En) (h : mCons m ms e = .ok ds e') : ds.length = n + 1 := by
  unfold mCons bnd at h
  cases q : m e with
  | ok d e1 =>
    simp only [q] at h
    cases q2 : ms e1 with
    | ok d2 e2 => simp only [q2, ret] at h; cases h; rw [List.length_cons, hh _ _ _ q2]
    | exc x e2 => simp only [q2] at h; cases h
    | bad => simp only [q2] at h; cases h
  | exc x e1 => simp only [q] at h; cases h
  | bad => simp only [q] at h; cases h
structure JL (X : Cx) (T : Option Addr) (W : WX) (es : List Expr) (ms : M (List D)) : Prop where
  ja : JA X T W es ms
  ln : ∀ (ds : List D) (e e' : En), ms e = .ok ds e' → ds.length = es.length
theorem jl_nil {X : Cx} {T : Option Addr} {W : WX} : JL X T W [] mNil := ⟨ja_nil, fun _ _ _ h => len_nil h⟩
theorem jl_cons {X : Cx} {T : Option Addr} {W : WX} {e : Expr} {es : List Expr} {m : M D} {ms : M (List D)} (ha : JV X T W e m) (hr : JL X T W es ms) (hs : starEach (e :: es) X.env = (false, eval e X.env) :: starEach es X.env := by rfl) : JL X T W (e :: es) (mCons m ms) :=
  ⟨ja_cons ha hr.ja hs, len_cons hr.ln⟩
structure Fn (X : Cx) (k : Nat) (x : Str) (sp : Sp) (ps : List Str) (dvs : List V) : Prop where
  ex : ∃ f fd ds, FnG X.prog X.w X.K X.mg X.base k f fd ps sp ∧ X.mg x = some (.ref f) ∧ PySem.W.keepIn X.K (.ref f) = true ∧ Binds X.K fd ps ds ∧ Vals dvs ds
section
variable {X : Cx} {k : Nat} {f : Addr} {fd : FuncData} {ps : List Str} {sp : Sp} {dvs : List V} {ds : List Value} {W : WX} {x : Str} {p pos : Pos} {e : Expr} {es : List Expr} {t : TA}
theorem run_g {pins : List (Addr × Obj)} {σ : St} {H : Hp} {s : Shared} {Q : VK} {us : List Value} {vs : List V} (F : FnG X.prog X.w X.K X.mg X.base k f fd ps sp) (hr : Room k X.A) (hgu : X.A.guards = some [])
    (hb : Binds X.K fd ps ds) (hd : Vals dvs ds) (tk : Takes X W) (I : Inv X pins σ H s) (r : Vals vs us) (h : sp (vs ++ dvs) H Q (WE W σ)) : wpAny (model X.prog X.w) X.A (call (.ref f) us) (EP X pins σ Q) X.xe s := by
  have r2 : Vals (vs ++ dvs) (us ++ ds) := r.append hd
  have hl : (us ++ ds).length = ps.length := by rw [← r2.length]; exact F.len _ _ _ _ h
  refine wpAny_call (codeAny_mono (F.run X.A X.stack s H _ _ _ Q _ hr hgu I.env0 (hb s us I.kIn hl) r2 h) ?_)
  intro r s' hq
  match r, hq with
  | .error e, hq => exact passAt tk σ pins H s e s' I hq
  | .ok (.ret u), hq => exact I.after hq
  | .ok .next, hq => exact hq.elim
  | .ok .brk, hq => exact hq.elim
  | .ok .cont, hq => exact hq.elim
theorem pe_callG (F : FnG X.prog X.w X.K X.mg X.base k f fd ps sp) (hr : Room k X.A) (hgu : X.A.guards = some []) (hg : Gl X x) (hm : X.mg x = some (.ref f)) (hk : PySem.W.keepIn X.K (.ref f) = true) (hb : Binds X.K fd ps ds) (hd : Vals dvs ds) (tk : Takes X W)
    (ha : PA X (e :: es) t) (hdb : (x == ("__debug__" : Str)) = false := by decide) (he : starEach (e :: es) X.env = (false, eval e X.env) :: starEach es X.env := by rfl) (hpl : (backTo pos (starEach es X.env)).any (·.1) = false := by rfl) :
    PE X (.Call (.Name x p) (e :: es) [] pos) (tCallSD sp dvs (fun σ => WE W σ) t) := by
  refine ⟨fun pins s σ H Q I h => wpAny_Call_Name_kw (ld_glob I hg hm ?_ hdb)⟩
  refine PySem.W.callWith_K (h₀ := X.base) I.ok.mod.kin hk (thn (ha.run pos pins s σ H _ I h) fun us s1 ⟨vs, H1, I1, r, q⟩ => ⟨I1.kIn, ?_⟩) he hpl
  exact run_g F hr hgu hb hd tk I1 r q
end
section
variable {X : Cx} {T : Option Addr} {W : WX} {pos p : Pos} {a b : Expr} {es : List Expr} {ma mb : M D} {ms : M (List D)} {f : Fnc} {k n : Nat} {x : Str} {ps : List Str} {dvs : List V} {dds : List D}
theorem jv_call0 (G : Fn X k x (spF0 X.K X.mg false n f) ps dvs) (hr : Room k X.A) (hgu : X.A.guards = some []) (tk : Takes X W) (hdd : ∀ F, RpL X.K X.mg F dds dvs) (hg : Gl X x) (ha : JL X T W (a :: es) ms) (hn : (a :: es).length + dds.length = n := by rfl)
    (hdb : (x == ("__debug__" : Str)) = false := by decide) (he : starEach (a :: es) X.env = (false, eval a X.env) :: starEach es X.env := by rfl) (hpl : (backTo pos (starEach es X.env)).any (·.1) = false := by rfl) :
    JV X T W (.Call (.Name x p) (a :: es) [] pos) (mC0 f dds ms) := by
  obtain ⟨fa, fd, ds0, FO, hm, hk, hb, hd⟩ := G.ex
  refine PEimp (pe_callG FO hr hgu hg hm hk hb hd tk ha.ja hdb he hpl) fun σ H Q ⟨e, F, er, h⟩ => ⟨e, F, er, ?_⟩
  have hb2 := h.bind
  unfold RunAt at hb2 ⊢
  cases q : ms e with
  | ok ds e1 =>
    rw [q] at hb2
    intro H1 F1 er1 mv1 vs hvs
    exact ap0_v (hb2 H1 F1 er1 mv1) er1 (hvs.append (hdd F1)) (by rw [List.length_append, ha.ln ds e e1 q]; exact hn)
  | exc x e1 => rw [q] at hb2; exact hb2
  | bad => rw [q] at hb2; exact hb2
theorem jo_call0 (G : Fn X k x (spF0 X.K X.mg true n f) ps dvs) (hr : Room k X.A) (hgu : X.A.guards = some []) (tk : Takes X W) (hdd : ∀ F, RpL X.K X.mg F dds dvs) (hg : Gl X x) (ha : JL X T W (a :: es) ms) (hn : (a :: es).length + dds.length = n := by rfl)
    (hdb : (x == ("__debug__" : Str)) = false := by decide) (he : starEach (a :: es) X.env = (false, eval a X.env) :: starEach es X.env := by rfl) (hpl : (backTo pos (starEach es X.env)).any (·.1) = false := by rfl) :
    JO X T W (.Call (.Name x p) (a :: es) [] pos) (mC0 f dds ms) := by
  obtain ⟨fa, fd, ds0, FO, hm, hk, hb, hd⟩ := G.ex
  refine PEimp (pe_callG FO hr hgu hg hm hk hb hd tk ha.ja hdb he hpl) fun σ H Q ⟨e, F, er, h⟩ => ⟨e, F, er, ?_⟩
  have hb2 := h.bind
  unfold RunAt at hb2 ⊢
  cases q : ms e with
  | ok ds e1 =>
    rw [q] at hb2
    intro H1 F1 er1 mv1 vs hvs
    exact ap0_o (hb2 H1 F1 er1 mv1) mv1.there er1 (hvs.append (hdd F1)) (by rw [List.length_append, ha.ln ds e e1 q]; exact hn)
  | exc x e1 => rw [q] at hb2; exact hb2
  | bad => rw [q] at hb2; exact hb2
theorem jv_call1 {i : Nat} {y : Str} {py : Pos} (G : Fn X k x (spF1 X.K X.mg false n f) ps dvs) (hr : Room k X.A) (hgu : X.A.guards = some []) (tk : Takes X W) (hdd : ∀ F, RpL X.K X.mg F dds dvs) (hg : Gl X x) (hN : X.N[i]? = some y) (hv : Vis X.env.scope y) (ha : JL X T W es ms) (hn : es.length + dds.length + 1 = n := by rfl)
    (hdb : (x == ("__debug__" : Str)) = false := by decide) (he : starEach (.Name y py :: es) X.env = (false, eval (.Name y py) X.env) :: starEach es X.env := by rfl) (hpl : (backTo pos (starEach es X.env)).any (·.1) = false := by rfl)
    (hd2 : (y == ("__debug__" : Str)) = false := by decide) (hcd : (y == ("__classdict__" : Str)) = false := by decide) :
    JV X T W (.Call (.Name x p) (.Name y py :: es) [] pos) (mC1 f i dds ms) := by
  obtain ⟨fa, fd, ds0, FO, hm, hk, hb, hd⟩ := G.ex
  refine PEimp (pe_callG FO hr hgu hg hm hk hb hd tk (pa_cons (pe_var hN hv hd2 hcd) ha.ja he) hdb he hpl) fun σ H Q ⟨e, F, er, h⟩ => ?_
  obtain ⟨p, hp, h⟩ := chkO_fin h er
  refine ⟨_, hp, e, F, er, ?_⟩
  have hb2 := h.bind
  unfold RunAt at hb2 ⊢
  cases q : ms e with
  | ok ds e1 =>
    rw [q] at hb2
    intro H1 F1 er1 mv1 vs hvs
    exact ap1_v (hb2 H1 F1 er1 mv1) er1 hp (hvs.append (hdd F1)) (by rw [List.length_append, ha.ln ds e e1 q]; exact hn)
  | exc x e1 => rw [q] at hb2; exact hb2
  | bad => rw [q] at hb2; exact hb2
theorem jo_call1 {i : Nat} {y : Str} {py : Pos} (G : Fn X k x (spF1 X.K X.mg true n f) ps dvs) (hr : Room k X.A) (hgu : X.A.guards = some []) (tk : Takes X W) (hdd : ∀ F, RpL X.K X.mg F dds dvs) (hg : Gl X x) (hN : X.N[i]? = some y) (hv : Vis X.env.scope y) (ha : JL X T W es ms) (hn : es.length + dds.length + 1 = n := by rfl)
    (hdb : (x == ("__debug__" : Str)) = false := by decide) (he : starEach (.Name y py :: es) X.env = (false, eval (.Name y py) X.env) :: starEach es X.env := by rfl) (hpl : (backTo pos (starEach es X.env)).any (·.1) = false := by rfl)
    (hd2 : (y == ("__debug__" : Str)) = false := by decide) (hcd : (y == ("__classdict__" : Str)) = false := by decide) :
    JO X T W (.Call (.Name x p) (.Name y py :: es) [] pos) (mC1 f i dds ms) := by
  obtain ⟨fa, fd, ds0, FO, hm, hk, hb, hd⟩ := G.ex
  refine PEimp (pe_callG FO hr hgu hg hm hk hb hd tk (pa_cons (pe_var hN hv hd2 hcd) ha.ja he) hdb he hpl) fun σ H Q ⟨e, F, er, h⟩ => ?_
  obtain ⟨p, hp, h⟩ := chkO_fin h er
  refine ⟨_, hp, e, F, er, ?_⟩
  have hb2 := h.bind
  unfold RunAt at hb2 ⊢
  cases q : ms e with
  | ok ds e1 =>
    rw [q] at hb2
    intro H1 F1 er1 mv1 vs hvs
    exact ap1_o (hb2 H1 F1 er1 mv1) mv1.there er1 hp (hvs.append (hdd F1)) (by rw [List.length_append, ha.ln ds e e1 q]; exact hn)
  | exc x e1 => rw [q] at hb2; exact hb2
  | bad => rw [q] at hb2; exact hb2
end
end Sr
namespace Sr
open PySem hiding start
open PySem.Spec L2
open PyProof.Rows hiding St
def putD (f : Str) (d : D) : List (Str × D) → List (Str × D)
  | [] => [(f, d)]
  | (g, x) :: r => if g = f then (g, d) :: r else (g, x) :: putD f d r
section
variable {K : PySem.W.Frag} {mg : Str → Option Value} {F : Hp}
theorem rf_nil {xs : List (Str × V)} : RpF K mg F [] xs ↔ xs = [] := by rw [RpF]
theorem rf_cons {k : Str} {d : D} {ds : List (Str × D)} {xs : List (Str × V)} : RpF K mg F ((k, d) :: ds) xs ↔ ∃ v vs, xs = (k, v) :: vs ∧ Rp K mg F d v ∧ RpF K mg F ds vs := by rw [RpF]
theorem RpF.get {f : Str} {d : D} : ∀ {fs : List (Str × D)} {gs : List (Str × V)}, RpF K mg F fs gs → fs.lookup f = some d → ∃ v, gs.lookup f = some v ∧ Rp K mg F d v
  | [], gs, _, e => by cases e
  | (k, x) :: fs, gs, h, e => by
    rw [rf_cons] at h
    obtain ⟨v, vs, rfl, r, h⟩ := h
    rw [List.lookup_cons] at e ⊢
    split at e
    · cases e; exact ⟨v, rfl, r⟩
    · exact RpF.get h e
theorem RpF.put {f : Str} {d : D} {v : V} (r : Rp K mg F d v) : ∀ {fs : List (Str × D)} {gs : List (Str × V)}, RpF K mg F fs gs → RpF K mg F (putD f d fs) (putF f v gs)
  | [], gs, h => by
    rw [rf_nil] at h; subst h
    unfold putD putF
    rw [rf_cons]; exact ⟨v, [], rfl, r, by rw [rf_nil]⟩
  | (k, x) :: fs, gs, h => by
    rw [rf_cons] at h
    obtain ⟨w, vs, rfl, q, h⟩ := h
    unfold putD putF
    split
    · rw [rf_cons]; exact ⟨v, vs, rfl, r, h⟩
    · rw [rf_cons]; exact ⟨w, _, rfl, q, RpF.put r h⟩
theorem RpF.len : ∀ {fs : List (Str × D)} {gs : List (Str × V)}, RpF K mg F fs gs → fs.length = gs.length
  | [], gs, h => by rw [rf_nil] at h; subst h; rfl
  | (k, x) :: fs, gs, h => by rw [rf_cons] at h; obtain ⟨v, vs, rfl, r, h⟩ := h; rw [List.length_cons, List.length_cons, h.len]
end
structure ClK (K : PySem.W.Frag) (mg : Str → Option Value) (c : Str) (C : Addr) : Prop where
  mg : mg c = some (.ref C)
  cl : Cls K C
abbrev Cl (X : Cx) (c : Str) (C : Addr) : Prop := ClK X.K X.mg c C
def gFld (c f : Str) : D → Option D
  | .obj c' fs => if c' = c then fs.lookup f else none
  | _ => none
def mFldB (c f : Str) (m : M Bv) : M D := bnd m fun b => bnd (der b) fun d => opt (gFld c f d)
section
variable {X : Cx} {T : Option Addr} {W : WX} {pos : Pos} {a b : Expr} {es : List Expr} {ma mb : M D} {m1 : M Bv} {ms : M (List D)} {f : Fnc} {k n : Nat} {x c g : Str} {C : Addr}
theorem fld_ok {H F : Hp} {d z : D} {v : V} (s : Same F H) (r : Rq X.K X.mg H F d v) (hc : Cl X c C) (e : gFld c g d = some z) : ∃ a dx fs w, v = .ref a ∧ H a = some (.ins C dx fs) ∧ fs.lookup g = some w ∧ Rp X.K X.mg F z w := by
  cases d <;> simp only [gFld, reduceCtorEq] at e
  split at e
  · rename_i hcc
    subst hcc
    obtain ⟨a, C', dx, gs, rfl, h1, h2, h3⟩ := r
    rw [hc.mg] at h1; cases h1
    obtain ⟨w, h4, h5⟩ := h3.get e
    exact ⟨a, dx, gs, w, rfl, h2, h4, h5⟩
  · cases e
theorem jv_fld (hc : Cl X c C) (hn : NoAttr X.K C g) (ha : JB X T W a m1) (hb : attributeBase a g X.env (eval a X.env) = eval a X.env := by rfl) : JV X T W (.Attribute a g pos) (mFldB c g m1) := by
  refine PEimp (pe_fld ha hb) fun σ H Q ⟨e, F, er, h⟩ => ⟨e, F, er, h.bind.mono fun b e1 H1 F1 er1 mv1 h1 v hv => ?_⟩
  obtain ⟨d, r1, h3⟩ := der_fin h1.bind er1 hv
  obtain ⟨z, hz, fin⟩ := h3.fin er1
  obtain ⟨a, dx, fs, w, rfl, h4, h5, h6⟩ := fld_ok er1.sub r1 hc hz
  exact ⟨a, C, dx, fs, w, rfl, h4, hc.cl, hn, h5, fin H1 F1 Al.refl w h6⟩
theorem jv_prop {y : Str} {pp ga : Addr} {fd : FuncData} (hc : Cl X c C) (hp : PropOf X.K C y pp ga) (G : FnOk X.prog X.w X.K X.mg X.base CX0 k ga fd ["self"] (getSp C g)) (hr : Room (k + 1) X.A) (hb : Binds X.K fd ["self"] [])
    (ha : JB X T W a m1) (hab : attributeBase a y X.env (eval a X.env) = eval a X.env := by rfl) : JV X T W (.Attribute a y pos) (mFldB c g m1) := by
  refine PEimp (pe_prop (E := E0) (dvs := []) ha hc.cl hp G hr hb .nil pass0 hab) fun σ H Q ⟨e, F, er, h⟩ => ⟨e, F, er, h.bind.mono fun b e1 H1 F1 er1 mv1 h1 v hv => ?_⟩
  obtain ⟨d, r1, h3⟩ := der_fin h1.bind er1 hv
  obtain ⟨z, hz, fin⟩ := h3.fin er1
  obtain ⟨a, dx, fs, w, rfl, h4, h5, h6⟩ := fld_ok er1.sub r1 hc hz
  exact ⟨a, dx, fs, rfl, h4, a, dx, fs, w, rfl, h4, h5, fin H1 F1 Al.refl w h6⟩
def gA (i : Nat) (c f : Str) : D → M Unit := fun d e => match e[i]? with
  | some (.own (.obj c' fs)) => if c' = c ∧ fs.length < 1000 then .ok () (e.set i (.own (.obj c (putD f d fs)))) else .bad
  | _ => .bad
theorem ne_attr {i : Nat} : NoExc (gA i c g) := fun d e x e' h => by
  unfold gA at h
  split at h
  · split at h <;> cases h
  · cases h
theorem jg_attr {i : Nat} {y : Str} {pn : Pos} (hc : Cl X c C) (hn : NoAttr X.K C g) (hN : X.N[i]? = some y) (hv : Vis X.env.scope y) (hd : (y == ("__debug__" : Str)) = false := by decide) (hcd : (y == ("__classdict__" : Str)) = false := by decide) :
    JG X T W (.Attribute (.Name y pn) g pos) (gA i c g) := by
  refine ⟨fun pins s σ H v u Q I r h => ?_⟩
  obtain ⟨e, F, d, er, rd, h⟩ := h
  unfold gA at h
  cases q : e[i]? with
  | none => simp only [q] at h
  | some sl =>
    cases sl with
    | no => simp only [q] at h
    | val z => simp only [q] at h
    | own z =>
      cases z with
      | obj c' fs =>
        simp only [q] at h
        split at h
        · rename_i u' e' hh
          split at hh
          · rename_i hcc
            cases hh
            obtain ⟨p, h1, h2, C', dx, gs, h3, h4, h5⟩ := er.own i _ q
            rw [hcc.1, hc.mg] at h3; cases h3
            rw [assign_Attribute]
            refine wpAny_bind (wpAny_holding (thn ((pe_var (pos := pn) hN hv hd hcd).run pins s σ H (fun x H1 => x = .ref p ∧ H1 = H) I ⟨_, h1, rfl, rfl⟩) fun ov s1 ⟨x, H1, I1, r1, ex, eH⟩ => ?_))
            subst ex eH
            obtain rfl : ov = Value.ref p := r1
            refine wpAny_bind (wpAny_standAt (wpAny_bind (wpAny_holding (setattr_ok I1 h4 hc.cl hn (by rw [← h5.len]; exact hcc.2) r fun s2 I2 => ?_))))
            obtain ⟨er2, mv2⟩ := er.put (o := .ins C dx (putF g v gs)) (d' := .obj c (putD g d fs)) q h1 ⟨C, dx, _, hc.mg, upd_same, h5.put rd⟩
            exact wpAny_release ⟨σ, _, I2, h σ _ F er2 mv2⟩
          · cases hh
        · exact h.elim
      | _ => simp only [q] at h
end
end Sr
namespace Sr
open PySem hiding start
open PySem.Spec L2
open PyProof.Rows hiding St
theorem RunAt.eq {K : PySem.W.Frag} {mg : Str → Option Value} {T : Option Addr} {W : WX} {A : Type} {e : En} {σ : St} {H F : Hp} {m : M A} {P : A → En → Hp → Hp → Prop} (h : RunAt K mg T W e F m σ H P) : RunAt K mg T W e F m σ H fun a e' H' F' => m e = .ok a e' ∧ P a e' H' F' := by
  unfold RunAt at h ⊢
  cases q : m e with
  | ok a e' => rw [q] at h; exact fun H' F' er mv => ⟨rfl, h H' F' er mv⟩
  | exc x e' => rw [q] at h; exact h
  | bad => rw [q] at h; exact h
def sNever : M Fl := fun _ => .bad
theorem js_never {X : Cx} {T : Option Addr} {W : WX} {st : Stmt} : JS X T W st sNever := ⟨fun _ _ _ _ _ _ ⟨_, _, _, h⟩ => h.elim⟩
section
variable {X : Cx} {k n : Nat} {f C : Addr} {fd : FuncData} {ps ks : List Str} {sp : Sp} {W : WX} {g : List Value → List Value → List Value} {gV : List V → List V → List V}
theorem run_mk {pins : List (Addr × Obj)} {σ : St} {H : Hp} {s : Shared} {Q : VK} {us ws : List Value} {vs zs : List V} (M0 : Mk X.K C f)
    (F0 : FnG X.prog X.w X.K X.mg X.base k f fd ps sp) (hr : Room (k + 1) X.A) (hgu : X.A.guards = some []) (hb : KBn X.K fd ps (n + 1) ks g gV) (tk : Takes X W)
    (I : Inv X pins σ H s) (r : Vals vs us) (rz : Vals zs ws) (l1 : vs.length = n) (l2 : zs.length = ks.length)
    (h : ∀ x dx, H x = none → H dx = none → dx ≠ x → sp (gV (.ref x :: vs) zs) (upd (upd H dx (.own x)) x (.ins C dx [])) (fun v H2 => v = .non ∧ Q (.ref x) H2) (WE W σ)) :
    wpAny (model X.prog X.w) X.A (call (.ref C) us (ks.zip ws)) (EP X pins σ Q) X.xe s := by
  have f1 : H (s.heap.objs.size + 1) = none := I.hok.fresh (by omega)
  have f0 : H s.heap.objs.size = none := I.hok.fresh (by omega)
  have hq := h _ _ f1 f0 (Nat.ne_of_lt (Nat.lt_succ_self _))
  have I2 := Inv.made (C := C) I
  have r1 : Vals (V.ref _ :: vs) (Value.ref (s.heap.objs.size + 1) :: us) := .cons rfl r
  have n1 : (Value.ref (s.heap.objs.size + 1) :: us).length = n + 1 := by rw [List.length_cons, ← r.length, l1]
  refine wpAny_call (make_map (f := f) I.kIn M0.makes M0.init (beq_iff_eq.mp M0.fn) ?_)
  refine codeAny_mono (F0.run _ X.stack _ _ ⟨_, ks.zip ws⟩ (g _ ws) _ _ (WE W σ) (hr.make C us _) (by simpa [Around.under, Code.guards, Code.isGuard, guardIds, pushGuards] using hgu) (I2.env0.make C us _) (hb.to _ _ ws I2.kIn n1 (rz.length.symm.trans l2)) (hb.rel r1 rz) hq) ?_
  intro r s' hq'
  match r, hq' with
  | .error e, hq' => exact passAt tk σ pins _ _ e s' I2 hq'
  | .ok (.ret u), hq' =>
    obtain ⟨v, H', I3, rv, ev, q3⟩ := I2.after hq'
    subst ev
    exact ⟨rv, V.ref (s.heap.objs.size + 1), H', I3, rfl, q3⟩
  | .ok .next, hq' => exact hq'.elim
  | .ok .brk, hq' => exact hq'.elim
  | .ok .cont, hq' => exact hq'.elim
end
def TKs (K : PySem.W.Frag) (mg : Str → Option Value) (T : Option Addr) (W : WX) (m : M (List D)) : TA := TAs K mg T W m
structure JK (X : Cx) (T : Option Addr) (W : WX) (kws : List Keyword) (ms : M (List D)) : Prop where
  pk : PK X kws (TAs X.K X.mg T W ms)
  ln : ∀ (ds : List D) (e e' : En), ms e = .ok ds e' → ds.length = kws.length
theorem PKimp {X : Cx} {es : List Keyword} {t t' : TA} (h : PK X es t) (k : ∀ σ H Q, t' σ H Q → t σ H Q) : PK X es t' := ⟨fun pos pins s σ H Q I q => h.run pos pins s σ H Q I (k σ H Q q)⟩
theorem jk_nil {X : Cx} {T : Option Addr} {W : WX} : JK X T W [] mNil := ⟨PKimp pk_nil fun σ H Q ⟨e, F, er, h⟩ => h.rfin er H F Al.refl _ (by rw [rl_nil]), fun _ _ _ h => len_nil h⟩
theorem jk_cons {X : Cx} {T : Option Addr} {W : WX} {e : Expr} {nm : Option Str} {kpos : Pos} {kws : List Keyword} {m : M D} {ms : M (List D)} (ha : JV X T W e m) (hr : JK X T W kws ms) : JK X T W (⟨nm, e, kpos⟩ :: kws) (mCons m ms) := by
  refine ⟨PKimp (pk_cons ha hr.pk) fun σ H Q ⟨e, F, er, h⟩ => ⟨e, F, er, h.bind.mono fun d e1 H1 F1 er1 mv1 h1 v hv => ⟨e1, F1, er1, h1.bind.mono fun ds e2 H2 F2 er2 mv2 h2 vs hvs => ?_⟩⟩, len_cons hr.ln⟩
  exact h2.rfin er2 H2 F2 Al.refl _ (by rw [rl_cons]; exact ⟨v, vs, rfl, Rp.mono mv2.sub _ _ hv, hvs⟩)
structure Mkr (X : Cx) (k : Nat) (c : Str) (C : Addr) (sp : Sp) (ps : List Str) (n : Nat) (ks : List Str) (gV : List V → List V → List V) : Prop where
  cl : Cl X c C
  ex : ∃ f fd g, Mk X.K C f ∧ FnG X.prog X.w X.K X.mg X.base k f fd ps sp ∧ KBn X.K fd ps (n + 1) ks g gV
def apM (c : Str) (f : Fnc) (ds : List D) : M D := fun e => match f (.obj c []) ds with
  | .ok .non o => .ok o e
  | .ok _ _ => .bad
  | .exc x _ => .exc x e
  | .bad => .bad
def mMk (c : Str) (f : Fnc) (gD : List D → List D → List D) (ms mk : M (List D)) : M D := bnd ms fun ds => bnd mk fun es => apM c f (gD ds es)
section
variable {X : Cx} {T : Option Addr} {W : WX} {pos p : Pos} {a : Expr} {es : List Expr} {kws : List Keyword} {ms mk : M (List D)} {f : Fnc} {k n np : Nat} {c : Str} {C : Addr} {ps ks : List Str} {gV : List V → List V → List V} {gD : List D → List D → List D}
theorem apM_o {K : PySem.W.Frag} {mg : Str → Option Value} {e : En} {σ : St} {H F H0 : Hp} {ds : List D} {vs : List V} {Q : VK} {x dx : Addr}
    (h : RunAt K mg T W e F (apM c f ds) σ H fun d e' H' F' => ∀ p, H0 p = none → F' p = none → ¬ Ow e' σ p → OwnAt K mg H' F' p d → Q (.ref p) H') (hH : ∀ p, H p = none → H0 p = none) (er : ER K mg T e σ H F) (l : RpL K mg F ds vs) (hn : ds.length + 1 = n)
    (hm : mg c = some (.ref C)) (hx : H x = none) (hdx : H dx = none) (hne : dx ≠ x) : spF1 K mg false n f (.ref x :: vs) (upd (upd H dx (.own x)) x (.ins C dx [])) (fun v H2 => v = .non ∧ Q (.ref x) H2) (fun cl dd H' => W cl dd σ H') := by
  have s0 : Same H (upd (upd H dx (.own x)) x (.ins C dx [])) := fun b o q => by
    rw [upd_ne (ne_of_none q hx), upd_ne (ne_of_none q hdx)]; exact q
  refine ⟨x, .obj c [], vs, ds, F, rfl, er.sub.trans s0, er.sub.free hx, ⟨C, dx, [], hm, upd_same, by rw [rf_nil]⟩, l, hn, ?_⟩
  have conv : ∀ H' F', Fr (some x) (upd (upd H dx (.own x)) x (.ins C dx [])) F H' F' → Fr none H F H' F' := fun H' F' fr =>
    ⟨fr.sub, fr.fin, fun b o q _ => fr.keep b o (s0 b o q) fun z => (ne_of_none q hx) (Option.some.inj z).symm, fun b o q => (fr.new b o q).imp id fun z => s0.free z, fun b q => s0.free (fr.there b q)⟩
  unfold RunAt apM at h
  cases q : f (.obj c []) ds with
  | ok d o' =>
    simp only [q] at h
    intro H' F' fr fp ow v hv
    obtain ⟨er', mv⟩ := er.fr (conv H' F' fr)
    cases d with
    | non =>
      rw [rp_non] at hv
      exact ⟨hv, h H' F' er' mv x (hH x hx) fp (Ow.ne_of_free er hx) ow⟩
    | _ => exact h.elim
  | exc x' o' =>
    simp only [q] at h
    intro H' F' cl dd fr fp ow xr
    obtain ⟨er', mv⟩ := er.fr (conv H' F' fr)
    exact h H' F' cl dd er' mv xr
  | bad => simp only [q] at h
theorem jo_make (G : Mkr X k c C (spF1 X.K X.mg false np f) ps n ks gV) (hr : Room (k + 1) X.A) (hgu : X.A.guards = some []) (tk : Takes X W) (hg : Gl X c) (ha : JL X T W (a :: es) ms) (hkw : JK X T W kws mk)
    (hrel : ∀ (ds es : List D) (vs zs : List V) (F : Hp) (x : Addr), RpL X.K X.mg F ds vs → RpL X.K X.mg F es zs → ds.length = n → es.length = ks.length → ∃ ws, gV (.ref x :: vs) zs = .ref x :: ws ∧ RpL X.K X.mg F (gD ds es) ws ∧ (gD ds es).length + 1 = np)
    (hn : (a :: es).length = n := by rfl) (hkl : kws.length = ks.length := by rfl)
    (hall : (backToKw pos (keywordEach kws X.env)).all (·.1.isSome) = true := by rfl) (hks : (backToKw pos (keywordEach kws X.env)).filterMap (·.1) = ks := by rfl) (hdb : (c == ("__debug__" : Str)) = false := by decide)
    (he : starEach (a :: es) X.env = (false, eval a X.env) :: starEach es X.env := by rfl) (hpl : ((backTo pos (starEach (a :: es) X.env)).any (·.1) || (backToKw pos (keywordEach kws X.env)).any (·.1.isNone)) = false := by rfl) :
    JO X T W (.Call (.Name c p) (a :: es) kws pos) (mMk c f gD ms mk) := by
  obtain ⟨fa, fd, g, M0, F0, hb⟩ := G.ex
  refine ⟨fun pins s σ H Q I h => ?_⟩
  obtain ⟨e, F, er, h⟩ := h
  refine wpAny_Call_Name_kw (ld_glob I hg G.cl.mg ?_ hdb)
  refine PySem.W.callWith_KW (h₀ := X.base) I.ok.mod.kin M0.kp hall (thn (ha.ja.run pos pins s σ H (fun vs H1 => TAs X.K X.mg T W mk σ H1 fun zs H2 => vs.length = n ∧ zs.length = ks.length ∧ ∀ x dx, H2 x = none → H2 dx = none → dx ≠ x → spF1 X.K X.mg false np f (gV (.ref x :: vs) zs) (upd (upd H2 dx (.own x)) x (.ins C dx [])) (fun v H3 => v = .non ∧ Q (.ref x) H3) (WE W σ)) I ?_) fun us s1 ⟨vs, H1, I1, r, q⟩ => ?_) hpl he
  · refine ⟨e, F, er, h.bind.eq.mono fun ds e1 H1 F1 er1 mv1 h1 vs hvs => ⟨e1, F1, er1, h1.2.bind.eq.mono fun es e2 H2 F2 er2 mv2 h2 zs hzs => ?_⟩⟩
    have hl1 : ds.length = n := (ha.ln ds e e1 h1.1).trans hn
    have hl2 : es.length = ks.length := (hkw.ln es e1 e2 h2.1).trans hkl
    refine ⟨by rw [← hvs.len]; exact hl1, by rw [← hzs.len]; exact hl2, fun x dx hx hdx hne => ?_⟩
    obtain ⟨ws, e1', e2', e3'⟩ := hrel ds es vs zs F2 x (RpL.mono mv2.sub _ _ hvs) hzs hl1 hl2
    rw [e1']
    exact apM_o h2.2 (fun p hp => mv1.there p (mv2.there p hp)) er2 e2' e3' G.cl.mg hx hdx hne
  · refine thn (hkw.pk.run pos pins s1 σ H1 _ I1 q) fun ws s2 ⟨zs, H2, I2, rz, l1, l2, q2⟩ => ⟨I2.kIn, ?_⟩
    rw [hks]
    exact run_mk M0 F0 hr hgu hb tk I2 r rz l1 l2 q2
end
end Sr
namespace Sr
open PySem hiding start
open PySem.Spec L2
open PyProof.Rows hiding St
section
variable {X : Cx} {T : Option Addr} {W : WX} {pos : Pos} {a : Expr} {ma : M D}
def rRepr (K : PySem.W.Frag) : List V → Hp → VK → Prop := fun xs H Q => ∃ (q : Addr) (p : PyData), xs = [.ref q] ∧ Dp K H (.ref q) p ∧ p.showable = true ∧ p.hasDict = false ∧ p.depth ≤ 64 ∧ p.shown.length ≤ sizeLine ∧ Q (.str p.shown) H
theorem call_reprD (hgu : X.A.guards = some []) (hu : X.A.units + 100 < cLine) : CallR X (.builtin "repr") (rRepr X.K) := by
  intro pins s σ H xs us Q I r h
  obtain ⟨q, p, rfl, hp, h1, h2, h3, h4, hq⟩ := h
  obtain ⟨u, rfl, ru⟩ := vals1 r
  obtain rfl : u = Value.ref q := ru
  obtain ⟨as, rd⟩ := Dp.reads I p _ _ hp rfl
  exact repr_of_reads' rd h1 (PyData.noDict_hsm h2) hgu (by omega) (fun _ _ e => e) (fun h' u tk hk => ⟨.str _, H, I.kept hk, ⟨_, rfl⟩, hq⟩) h4
def gRepr : D → Option D
  | .lst ds => match toP (.lst ds) with
    | some p => if (p.showable && !p.hasDict && decide (p.depth ≤ 64) && decide (p.shown.length ≤ sizeLine)) = true then some (.str p.shown) else none
    | none => none
  | .tup ds => match toP (.tup ds) with
    | some p => if (p.showable && !p.hasDict && decide (p.depth ≤ 64) && decide (p.shown.length ≤ sizeLine)) = true then some (.str p.shown) else none
    | none => none
  | _ => none
theorem c_repr (hgu : X.A.guards = some []) (hu : X.A.units + 100 < cLine) : Cal1 X (.builtin "repr") gRepr := by
  intro H F x d d' s r e
  unfold gRepr at e
  split at e
  · rename_i ds
    split at e
    · rename_i p hp
      split at e
      · rename_i hh
        cases e
        simp only [Bool.and_eq_true, Bool.not_eq_true', decide_eq_true_eq] at hh
        have hdp := Rq.dp s hp r
        obtain ⟨q, xs, rfl, _⟩ := r
        exact ⟨_, call_reprD hgu hu, fun Q qq => ⟨q, p, rfl, hdp, hh.1.1.1, hh.1.1.2, hh.1.2, hh.2, qq H F _ Al.refl (by rw [rp_str])⟩⟩
      · cases e
    · cases e
  · rename_i ds
    split at e
    · rename_i p hp
      split at e
      · rename_i hh
        cases e
        simp only [Bool.and_eq_true, Bool.not_eq_true', decide_eq_true_eq] at hh
        have hdp := Rq.dp s hp r
        rw [rq_tup] at r
        obtain ⟨q, xs, rfl, _⟩ := r
        exact ⟨_, call_reprD hgu hu, fun Q qq => ⟨q, p, rfl, hdp, hh.1.1.1, hh.1.1.2, hh.1.2, hh.2, qq H F _ Al.refl (by rw [rp_str])⟩⟩
      · cases e
    · cases e
  · cases e
def IsiK (K : PySem.W.Frag) (mg : Str → Option Value) (u : Value) (g : D → Option Bool) : Prop := ∀ (H F : Hp) (d : D) (v : V) (b : Bool), Same F H → Rp K mg F d v → g d = some b → ∃ t, TyX K H v t ∧ PySem.W.kitOne K t u = some b
abbrev Isi (X : Cx) (u : Value) (g : D → Option Bool) : Prop := IsiK X.K X.mg u g
def mIsi (g : D → Option Bool) (m : M D) : M D := bnd m fun d => opt ((g d).map D.bl)
theorem runIsi {g : D → Option Bool} {u : Value} {cv : V} {σ : St} {H : Hp} {Q : VK} (hi : Isi X u g) (hc : ClsV cv u) (h : TV X.K X.mg T W (mIsi g ma) σ H Q) : TV X.K X.mg T W ma σ H fun v H1 => rIsi X.K [v, cv] H1 Q := by
  obtain ⟨e, F, er, h⟩ := h
  refine ⟨e, F, er, h.bind.mono fun d e1 H1 F1 er1 mv1 h1 v hv => ?_⟩
  obtain ⟨z, hz, fin⟩ := h1.fin er1
  rw [Option.map_eq_some_iff] at hz
  obtain ⟨b, hb, rfl⟩ := hz
  obtain ⟨t, h2, h3⟩ := hi H1 F1 d v b er1.sub hv hb
  exact ⟨v, cv, t, u, b, rfl, hc, h2, h3, fin H1 F1 Al.refl _ (by rw [rp_bl])⟩
theorem jv_isiB {g : D → Option Bool} {y : Str} {n : String} {p p2 : Pos} (hi : Isi X (.type n) g) (hg : Gl X "isinstance") (hm : X.mg "isinstance" = none) (hy : Gl X y) (hmy : X.mg y = none) (hv : bootBuiltins y = some (.type n)) (ha : JV X T W a ma)
    (hnn : y ≠ "__name__" := by decide) (hdy : (y == ("__debug__" : Str)) = false := by decide)
    (he : starEach [a, .Name y p2] X.env = (false, eval a X.env) :: starEach [.Name y p2] X.env := by rfl) (he2 : starEach [.Name y p2] X.env = (false, eval (.Name y p2) X.env) :: starEach [] X.env := by rfl) :
    JV X T W (.Call (.Name "isinstance" p) [a, .Name y p2] [] pos) (mIsi g ma) :=
  PEimp (pe_callB call_isi hg hm (by decide +kernel) (pa_cons ha (pa_cons (pe_bltn (v := .ty n) hy hmy hv rfl hnn hdy) pa_nil he2) he) (by decide) (by decide) he (by rfl)) fun σ H Q h => runIsi hi (.ty n) h
theorem jv_isiC {g : D → Option Bool} {y : Str} {C : Addr} {p p2 : Pos} (hi : Isi X (.ref C) g) (hg : Gl X "isinstance") (hm : X.mg "isinstance" = none) (hy : Gl X y) (hmy : X.mg y = some (.ref C)) (ha : JV X T W a ma)
    (hdy : (y == ("__debug__" : Str)) = false := by decide)
    (he : starEach [a, .Name y p2] X.env = (false, eval a X.env) :: starEach [.Name y p2] X.env := by rfl) (he2 : starEach [.Name y p2] X.env = (false, eval (.Name y p2) X.env) :: starEach [] X.env := by rfl) :
    JV X T W (.Call (.Name "isinstance" p) [a, .Name y p2] [] pos) (mIsi g ma) :=
  PEimp (pe_callB call_isi hg hm (by decide +kernel) (pa_cons ha (pa_cons (pe_glob (v := .ref C) hy hmy rfl hdy) pa_nil he2) he) (by decide) (by decide) he (by rfl)) fun σ H Q h => runIsi hi (.own C) h
inductive Kd where
  | non | bool | int | str | bytes | list | tuple | dict
  deriving DecidableEq
def Kd.nm : Kd → String
  | .non => "NoneType"
  | .bool => "bool"
  | .int => "int"
  | .str => "str"
  | .bytes => "bytes"
  | .list => "list"
  | .tuple => "tuple"
  | .dict => "dict"
def dKind : D → Option (Kd ⊕ Str)
  | .non => some (.inl .non)
  | .bl _ => some (.inl .bool)
  | .int _ => some (.inl .int)
  | .str _ => some (.inl .str)
  | .byt _ => some (.inl .bytes)
  | .lst _ => some (.inl .list)
  | .tup _ => some (.inl .tuple)
  | .dk _ => some (.inl .dict)
  | .dt _ => some (.inl .dict)
  | .obj c _ => some (.inr c)
  | .scr _ => none
structure ClI (K : PySem.W.Frag) (mg : Str → Option Value) (c : Str) (C : Addr) : Prop where
  cl : ClK K mg c C
  ha : PySem.W.findIn K (.ref C) "__class__" = some (some (.builtin "object.__class__"))
  hn : PySem.W.specialIn K (.builtin "object.__class__") "__get__" = some (some (.builtin "getset_descriptor.__get__"))
  ht : PySem.W.takesIn K (.builtin "object.__class__") = some true
  hm : PySem.W.mroIn K C (.type "object") = some true
section
variable {K : PySem.W.Frag} {mg : Str → Option Value}
theorem tyx_ok {H F : Hp} {d : D} {v : V} {n : Kd} (s : Same F H) (r : Rp K mg F d v) (h : dKind d = some (.inl n)) : TyX K H v (.type n.nm) := by
  cases d <;> simp only [dKind, Option.some.injEq, Sum.inl.injEq, reduceCtorEq] at h
  · subst h; rw [rp_non] at r; subst r; exact .base .non
  · subst h; rw [rp_bl] at r; subst r; exact .base (.bl _)
  · subst h; rw [rp_int] at r; subst r; exact .base (.int _)
  · subst h; rw [rp_str] at r; subst r; exact .base (.str _)
  · subst h; rw [rp_byt] at r; subst r; exact .byt _
  · subst h; rw [rp_lst] at r; obtain ⟨a, xs, rfl, q, _⟩ := r; exact .base (.lst (s _ _ q))
  · subst h; rw [rp_tup] at r
    obtain ⟨a, xs, rfl, q, _⟩ := r
    rcases q with (q | ⟨o, q⟩) | ⟨o, its, m, q, c, _⟩
    · exact .base (.tup (s _ _ q))
    · exact .fTuple (s _ _ q)
    · exact .kTuple q c
  · subst h; rw [rp_dk] at r; obtain ⟨a, xs, rfl, q, _⟩ := r; exact .base (.dK (s _ _ q))
  · subst h; unfold Rp at r; obtain ⟨a, xs, rfl, q, _⟩ := r; exact .base (.dT (s _ _ q))
theorem tyx_obj {H F : Hp} {c : Str} {C : Addr} {fs : List (Str × D)} {v : V} (s : Same F H) (r : Rp K mg F (.obj c fs) v) (h : ClI K mg c C) : TyX K H v (.ref C) := by
  rw [rp_obj] at r
  obtain ⟨a, C', dx, gs, rfl, h1, h2, _⟩ := r
  rw [h.cl.mg] at h1; cases h1
  exact .base (.ins (s _ _ h2) h.cl.cl h.ha h.hn h.ht h.hm)
def gIsi (tb : Kd → Option Bool) (to : Str → Option Bool) (d : D) : Option Bool := match dKind d with
  | some (.inl n) => tb n
  | some (.inr c) => to c
  | none => none
theorem isi_of {u : Value} {tb : Kd → Option Bool} {to : Str → Option Bool} (h1 : ∀ n b, tb n = some b → PySem.W.kitOne K (.type n.nm) u = some b) (h2 : ∀ c b, to c = some b → ∃ C, ClI K mg c C ∧ PySem.W.kitOne K (.ref C) u = some b) : IsiK K mg u (gIsi tb to) := by
  intro H F d v b s r e
  unfold gIsi at e
  split at e
  · rename_i n hk
    exact ⟨_, tyx_ok s r hk, h1 n b e⟩
  · rename_i c hk
    obtain ⟨C, hC, hb⟩ := h2 c b e
    cases d <;> simp only [dKind, Option.some.injEq, Sum.inr.injEq, reduceCtorEq] at hk
    subst hk
    exact ⟨_, tyx_obj s r hC, hb⟩
  · cases e
def tInt : Kd → Option Bool
  | .bool => some true
  | .int => some true
  | _ => some false
def tOnly (k : Kd) : Kd → Option Bool := fun n => some (decide (n = k))
theorem tInt_ok : ∀ n b, tInt n = some b → PySem.W.kitOne K (.type n.nm) (.type "int") = some b := by
  intro n b h
  cases n <;> cases h <;> exact kit_ty (by decide +kernel)
theorem tBool_ok : ∀ n b, tOnly .bool n = some b → PySem.W.kitOne K (.type n.nm) (.type "bool") = some b := by
  intro n b h
  cases n <;> cases h <;> exact kit_ty (by decide +kernel)
theorem tStr_ok : ∀ n b, tOnly .str n = some b → PySem.W.kitOne K (.type n.nm) (.type "str") = some b := by
  intro n b h
  cases n <;> cases h <;> exact kit_ty (by decide +kernel)
theorem tTuple_ok : ∀ n b, tOnly .tuple n = some b → PySem.W.kitOne K (.type n.nm) (.type "tuple") = some b := by
  intro n b h
  cases n <;> cases h <;> exact kit_ty (by decide +kernel)
theorem tList_ok : ∀ n b, tOnly .list n = some b → PySem.W.kitOne K (.type n.nm) (.type "list") = some b := by
  intro n b h
  cases n <;> cases h <;> exact kit_ty (by decide +kernel)
theorem tBytes_ok : ∀ n b, tOnly .bytes n = some b → PySem.W.kitOne K (.type n.nm) (.type "bytes") = some b := by
  intro n b h
  cases n <;> cases h <;> exact kit_ty (by decide +kernel)
end
end
theorem law_g {P : Program} {w : World} {K : PySem.W.Frag} {mg mb : Str → Option Value} {k : Nat} {fa a : Addr} {fd : FuncData} {x : Str} {sp : Sp} {s : Shared} {vs : List Value} {ns : List Int}
    (KX : K.In s.heap) (hns : s.heap.Ns mainGlobals mg) (hb : s.heap.Ns builtinsNs mb) (hbb : ∀ x : Str, x ≠ "__name__" → mb x = bootBuiltins x) (hlim : s.heap.NoLimit) (hg : s.gens = #[])
    (ha : s.heap.get? a = some { cls := .type "list", data := .seq vs.toArray }) (hi : IntsAre vs ns) (hl : ns.length ≤ sizeLine) (hr : Room k callerA)
    (F : ∀ base : Heap, K.In base → base.Ns mainGlobals mg → FnG P w K mg base k fa fd [x] sp) (hbind : ∀ (s : Shared) (u : Value), BindsTo s fd ⟨[u], []⟩ [(x, u)])
    (hsp : ∀ H : Hp, SqL K H a (ns.map V.int) → sp [.ref a] H (fun v _ => v = .bl true) fun _ _ _ => False) :
    codeAny (model P w) callerA (.call (.ref fa) ⟨[.ref a], []⟩) (fun r s' => r = .ok (.ret (.bool true)) ∧ OldK s.heap s'.heap ∧ s'.os = s.os ∧ AllBare s'.gens) s := by
  have rv := vals_ints hi
  have lenV := hi.length
  have core : ∀ H : Hp, Only H → SqL K H a (ns.map V.int) → HOk P w H s.heap → (∀ b, H b ≠ none → b = a) → (H a ≠ none → K.lookup a = none) →
      codeAny (model P w) callerA (.call (.ref fa) ⟨[.ref a], []⟩) (fun r s' => r = .ok (.ret (.bool true)) ∧ OldK s.heap s'.heap ∧ s'.os = s.os ∧ AllBare s'.gens) s := by
    intro H hO hS hok hA hK
    have onlyA : ∀ {b : Addr} {u : HO}, H b = some u → b = a := fun {b u} q => hA b (by rw [q]; simp)
    have noD : ∀ {b : Addr} {o : Obj} {es : Array DictEntry} {ep : Nat}, s.heap.get? b = some o → o.data = .dict es ep → H b = none := fun {b o es ep} e d => by
      cases q : H b with
      | none => rfl
      | some u => rw [onlyA q, ha] at e; cases e; cases d
    have nsK : ∀ {b : Addr} {m : Str → Option Value}, s.heap.Ns b m → (hidT s.heap H).Ns b m := fun {b m} ⟨o, es, ep, e, d, r⟩ => ⟨o, es, ep, hidT_get e (noD e d), d, r⟩
    have hKb : K.In (hidT s.heap H) := fun b o e => by
      refine hidT_get (KX b o e) ?_
      cases q : H b with
      | none => rfl
      | some u =>
        have e' := onlyA q
        subst e'
        rw [hK (by rw [q]; simp)] at e; cases e
    have hM : Mod K mg (hidT s.heap H) := by
      obtain ⟨mc, h1, h2⟩ := hlim
      exact ⟨hKb, nsK hns, ⟨mb, nsK hb, hbb⟩, ⟨mc, nsK h1, h2⟩⟩
    have e0 : Env0 P w K mg (hidT s.heap H) callerA [] s H := ⟨rfl, hM, fun b o e => of_hidT e, Nat.le_of_eq (hidT_size _ _), trivial, fun b z => (by cases z), hok, .of_eq hg⟩
    refine codeAny_mono ((F _ hKb (nsK hns)).run callerA [] s H _ [.ref a] [.ref a] _ _ hr rfl e0 (hbind s (.ref a)) (.cons rfl .nil) (hsp H hS)) ?_
    intro r s' h
    match r, h with
    | .error e, h => obtain ⟨_, _, _, _, _, _, _, _, _, _, _, _, z⟩ := h; exact z.elim
    | .ok .next, h => exact h.elim
    | .ok .brk, h => exact h.elim
    | .ok .cont, h => exact h.elim
    | .ok (.ret u), ⟨v, H', os, bare, un, hok', r', q⟩ =>
      have q' : v = .bl true := q
      subst q'
      obtain rfl : u = Value.bool true := r'
      refine ⟨rfl, OldK.of_keep fun b o e => ?_, os, bare⟩
      cases q : H b with
      | none => exact un.keep b o e q (fun z => by cases z) (by simp)
      | some u =>
        rcases hO b with z | ⟨ob, xs, z⟩
        · rw [q] at z; cases z
        · obtain ⟨e1, _⟩ := hok b _ z
          obtain ⟨e2, _⟩ := hok' b _ (un.frzs b ob _ z)
          rw [e] at e1; cases e1
          exact e2
  cases hk : K.lookup a with
  | some o =>
    have e := KX a o hk
    rw [ha] at e
    cases e
    refine core (fun _ => none) (fun _ => .inl rfl) (.inr ⟨_, vs.toArray, _, hk, rfl, rfl, rfl, by rw [List.size_toArray, lenV]; exact hl, by simpa using rv⟩) (fun b u z => by cases z) (fun b z => absurd rfl z) fun z => absurd rfl z
  | none =>
    refine core (fun b => if b = a then some (.frz { cls := .type "list", data := .seq vs.toArray } (.lst (ns.map V.int))) else none) (fun b => ?_) (.inl (.inr ⟨_, if_pos rfl⟩)) (fun b u z => ?_) (fun b z => ?_) fun _ => hk
    · by_cases hb : b = a
      · exact .inr ⟨_, _, if_pos hb⟩
      · exact .inl (if_neg hb)
    · by_cases hb : b = a
      · subst hb
        dsimp only at z
        rw [if_pos rfl] at z; cases z
        exact ⟨ha, by rw [List.length_map]; exact hl, vs, _, rv, ha⟩
      · dsimp only at z
        rw [if_neg hb] at z; cases z
    · by_cases hb : b = a
      · exact hb
      · exact absurd (if_neg hb) z
theorem walk_g {l : PySem.W.OpenLaw} {n k : Nat} {q : Program} {loose : List Str} {XP : (Str → Option Value) → Heap → Prop} {YP : World → Heap → Prop} {d : DefRec} {x : Str}
    (hn : l.most = some n) (hn2 : n ≤ sizeLine) (hdf : d.params.defaults = []) (hr : Room k callerA)
    (F : ∀ (w : World) (mg : Str → Option Value) (fa : Addr) (h : Heap), YP w h → h.Ns mainGlobals mg → mg d.name = some (.ref fa) →
      ∃ (K : PySem.W.Frag) (fd : FuncData) (sp : Sp), K.In h ∧ (∀ (s : Shared) (u : Value), BindsTo s fd ⟨[u], []⟩ [(x, u)]) ∧
        (∀ (H : Hp) (a : Addr) (ns : List Int), ns.length ≤ n → SqL K H a (ns.map V.int) → sp [.ref a] H (fun v _ => v = .bl true) fun _ _ _ => False) ∧
        ∀ base : Heap, K.In base → base.Ns mainGlobals mg → FnG l.prog w K mg base k fa fd [x] sp) :
    PySem.W.WalkO q loose XP YP l.row.toRowW d [] (fun f vs => PySem.call f vs) := by
  refine Att.attach_call hn hdf fun w s₀ s₁ mg mb fa o pm cd doc a vs ns G Y ho hd hcd hmg hobj hints hlen hg => ?_
  obtain ⟨K, fd, sp, KX, hb, hsp, hF⟩ := F w mg fa _ Y G.T.g hmg
  exact law_g KX G.T.g G.T.b G.T.builtins G.T.nolimit hg hobj hints (Nat.le_trans hlen hn2) hr hF hb (fun H hS => hsp H a ns hlen hS)
end Sr
namespace Sr
open PySem hiding start
open PySem.Spec L2
open PyProof.Rows hiding St
def gLt (a b : D) : Option D := (gI0 (fun i j => .bl (decide (i < j))) a b).or (gLtT a b)
def gLe : D → D → Option D := gI0 fun i j => .bl (decide (i ≤ j))
def gGt : D → D → Option D := gI0 fun i j => .bl (decide (j < i))
def gGe : D → D → Option D := gI0 fun i j => .bl (decide (j ≤ i))
structure Pl (X : Cx) (k : Nat) : Prop where
  room : Room k X.A
  gu : X.A.guards = some []
section
variable {X : Cx} {k : Nat}
theorem Pl.u64 (h : Pl X k) : X.A.units + 64 < cLine := h.room.units
theorem Pl.u100 (h : Pl X k) : X.A.units + 100 < cLine := by have := h.room.un; omega
theorem Pl.u0 (h : Pl X k) : X.A.units < cLine := h.room.units0
theorem Pl.u1 (h : Pl X k) : X.A.units + 1 < cLine := by have := h.room.un; omega
theorem p_lt (h : Pl X k) : Op2 X (compareOp .Lt) gLt := o_lt.or (o_ltT h.u0)
theorem p_le : Op2 X (compareOp .LtE) gLe := o_le
theorem p_gt : Op2 X (compareOp .Gt) gGt := o_gt
theorem p_ge : Op2 X (compareOp .GtE) gGe := o_ge
end
section
variable {X : Cx} {T : Option Addr} {W : WX} {pos p : Pos} {a : Expr} {es : List Expr} {ma : M D} {ms : M (List D)} {f : Fnc} {k j n : Nat} {x c g : Str} {ps : List Str} {dvs : List V} {dds : List D} {C : Addr}
theorem jv_gI {i : Int} (hg : Gl X x) (h : ∃ t, X.mg x = some (.int i t)) (hx : (x == ("__debug__" : Str)) = false := by decide) : JV X T W (.Name x pos) (ret (.int i)) := by
  obtain ⟨t, h⟩ := h
  exact jv_glob (v := .int i) hg h ⟨t, rfl⟩ (fun F => by rw [rp_int]) hx
theorem jv_gS {z : Str} (hg : Gl X x) (h : ∃ t, X.mg x = some (.str z t)) (hx : (x == ("__debug__" : Str)) = false := by decide) : JV X T W (.Name x pos) (ret (.str z)) := by
  obtain ⟨t, h⟩ := h
  exact jv_glob (v := .str z) hg h ⟨t, rfl⟩ (fun F => by rw [rp_str]) hx
theorem runCalV {fv : Value} {g1 : D → Option D} {σ : St} {H : Hp} {Q : VK} (hc : Cal1 X fv g1) (h : TV X.K X.mg T W (m1 g1 ma) σ H Q) : TV X.K X.mg T W ma σ H fun v H1 => rAnyC X fv [v] H1 Q := by
  obtain ⟨e, F, er, h⟩ := h
  refine ⟨e, F, er, h.bind.mono fun d e1 H1 F1 er1 mv1 h1 v hv => ?_⟩
  obtain ⟨z, hz, fin⟩ := h1.fin er1
  obtain ⟨r, hr, q⟩ := hc H1 F1 v d z er1.sub (Rp.rq er1.sub hv) hz
  exact ⟨r, hr, q Q fun H' F' z al hz => fin H' F' al z hz⟩
theorem jv_callV1 {id : String} {g1 : D → Option D} (hc : Cal1 X (.builtin id) g1) (hg : Gl X x) (hm : X.mg x = none) (hv : bootBuiltins x = some (.builtin id)) (ha : JV X T W a ma) (hn : x ≠ "__name__" := by decide) (hdb : (x == ("__debug__" : Str)) = false := by decide)
    (he : starEach [a] X.env = (false, eval a X.env) :: starEach [] X.env := by rfl) : JV X T W (.Call (.Name x p) [a] [] pos) (m1 g1 ma) :=
  PEimp (pe_callB callAny hg hm hv (pa_cons ha pa_nil he) hn hdb he rfl) fun σ H Q h => runCalV hc h
theorem jv_callT1 {id : String} {g1 : D → Option D} (hc : Cal1 X (.type id) g1) (hg : Gl X x) (hm : X.mg x = none) (hv : bootBuiltins x = some (.type id)) (ha : JV X T W a ma) (hn : x ≠ "__name__" := by decide) (hdb : (x == ("__debug__" : Str)) = false := by decide)
    (he : starEach [a] X.env = (false, eval a X.env) :: starEach [] X.env := by rfl) : JV X T W (.Call (.Name x p) [a] [] pos) (m1 g1 ma) :=
  PEimp (pe_callTy callAny hg hm hv (pa_cons ha pa_nil he) hn hdb he rfl) fun σ H Q h => runCalV hc h
theorem jv_fldV (hc : Cl X c C) (hn : NoAttr X.K C g) (ha : JV X T W a ma) (hb : attributeBase a g X.env (eval a X.env) = eval a X.env := by rfl) : JV X T W (.Attribute a g pos) (m1 (gFld c g) ma) := by
  refine PEimp (pe_fld ha hb) fun σ H Q ⟨e, F, er, h⟩ => ⟨e, F, er, h.bind.mono fun d e1 H1 F1 er1 mv1 h1 v hv => ?_⟩
  obtain ⟨z, hz, fin⟩ := h1.fin er1
  obtain ⟨a, dx, fs, w, rfl, h4, h5, h6⟩ := fld_ok er1.sub (Rp.rq er1.sub hv) hc hz
  exact ⟨a, C, dx, fs, w, rfl, h4, hc.cl, hn, h5, fin H1 F1 Al.refl w h6⟩
structure Prp (X : Cx) (k : Nat) (c : Str) (C : Addr) (y g : Str) : Prop where
  cl : Cl X c C
  ex : ∃ pp ga fd, PropOf X.K C y pp ga ∧ FnOk X.prog X.w X.K X.mg X.base CX0 k ga fd ["self"] (getSp C g) ∧ Binds X.K fd ["self"] []
theorem jv_propV {y : Str} (G : Prp X k c C y g) (hp : Pl X j) (ha : JV X T W a ma) (hj : k + 1 ≤ j := by decide) (hab : attributeBase a y X.env (eval a X.env) = eval a X.env := by rfl) : JV X T W (.Attribute a y pos) (m1 (gFld c g) ma) := by
  obtain ⟨pp, ga, fd, h1, h2, h3⟩ := G.ex
  refine PEimp (pe_prop (E := E0) (dvs := []) ha G.cl.cl h1 h2 (hp.room.mono hj) h3 .nil pass0 hab) fun σ H Q ⟨e, F, er, h⟩ => ⟨e, F, er, h.bind.mono fun d e1 H1 F1 er1 mv1 h1 v hv => ?_⟩
  obtain ⟨z, hz, fin⟩ := h1.fin er1
  obtain ⟨a, dx, fs, w, rfl, h4, h5, h6⟩ := fld_ok er1.sub (Rp.rq er1.sub hv) G.cl hz
  exact ⟨a, dx, fs, rfl, h4, a, dx, fs, w, rfl, h4, h5, fin H1 F1 Al.refl w h6⟩
theorem jv_c0 (G : Fn X k x (spF0 X.K X.mg false n f) ps dvs) (hp : Pl X j) (tk : Takes X W) (hdd : ∀ F, RpL X.K X.mg F dds dvs) (hg : Gl X x) (ha : JL X T W (a :: es) ms) (hk : k ≤ j := by decide) (hn : (a :: es).length + dds.length = n := by rfl)
    (hdb : (x == ("__debug__" : Str)) = false := by decide) (he : starEach (a :: es) X.env = (false, eval a X.env) :: starEach es X.env := by rfl) (hpl : (backTo pos (starEach es X.env)).any (·.1) = false := by rfl) :
    JV X T W (.Call (.Name x p) (a :: es) [] pos) (mC0 f dds ms) := jv_call0 G (hp.room.mono hk) hp.gu tk hdd hg ha hn hdb he hpl
theorem jo_c0 (G : Fn X k x (spF0 X.K X.mg true n f) ps dvs) (hp : Pl X j) (tk : Takes X W) (hdd : ∀ F, RpL X.K X.mg F dds dvs) (hg : Gl X x) (ha : JL X T W (a :: es) ms) (hk : k ≤ j := by decide) (hn : (a :: es).length + dds.length = n := by rfl)
    (hdb : (x == ("__debug__" : Str)) = false := by decide) (he : starEach (a :: es) X.env = (false, eval a X.env) :: starEach es X.env := by rfl) (hpl : (backTo pos (starEach es X.env)).any (·.1) = false := by rfl) :
    JO X T W (.Call (.Name x p) (a :: es) [] pos) (mC0 f dds ms) := jo_call0 G (hp.room.mono hk) hp.gu tk hdd hg ha hn hdb he hpl
theorem jv_c1 (i : Nat) {y : Str} {py : Pos} (G : Fn X k x (spF1 X.K X.mg false n f) ps dvs) (hp : Pl X j) (tk : Takes X W) (hdd : ∀ F, RpL X.K X.mg F dds dvs) (hg : Gl X x) (hN : X.N[i]? = some y) (hv : Vis X.env.scope y) (ha : JL X T W es ms) (hk : k ≤ j := by decide) (hn : es.length + dds.length + 1 = n := by rfl)
    (hdb : (x == ("__debug__" : Str)) = false := by decide) (he : starEach (.Name y py :: es) X.env = (false, eval (.Name y py) X.env) :: starEach es X.env := by rfl) (hpl : (backTo pos (starEach es X.env)).any (·.1) = false := by rfl)
    (hd2 : (y == ("__debug__" : Str)) = false := by decide) (hcd : (y == ("__classdict__" : Str)) = false := by decide) :
    JV X T W (.Call (.Name x p) (.Name y py :: es) [] pos) (mC1 f i dds ms) := jv_call1 G (hp.room.mono hk) hp.gu tk hdd hg hN hv ha hn hdb he hpl hd2 hcd
theorem jo_c1 (i : Nat) {y : Str} {py : Pos} (G : Fn X k x (spF1 X.K X.mg true n f) ps dvs) (hp : Pl X j) (tk : Takes X W) (hdd : ∀ F, RpL X.K X.mg F dds dvs) (hg : Gl X x) (hN : X.N[i]? = some y) (hv : Vis X.env.scope y) (ha : JL X T W es ms) (hk : k ≤ j := by decide) (hn : es.length + dds.length + 1 = n := by rfl)
    (hdb : (x == ("__debug__" : Str)) = false := by decide) (he : starEach (.Name y py :: es) X.env = (false, eval (.Name y py) X.env) :: starEach es X.env := by rfl) (hpl : (backTo pos (starEach es X.env)).any (·.1) = false := by rfl)
    (hd2 : (y == ("__debug__" : Str)) = false := by decide) (hcd : (y == ("__classdict__" : Str)) = false := by decide) :
    JO X T W (.Call (.Name x p) (.Name y py :: es) [] pos) (mC1 f i dds ms) := jo_call1 G (hp.room.mono hk) hp.gu tk hdd hg hN hv ha hn hdb he hpl hd2 hcd
theorem nodd : ∀ F, RpL X.K X.mg F [] [] := fun F => by rw [rl_nil]
end
abbrev FnC (P : Program) (w : World) (K : PySem.W.Frag) (mg : Str → Option Value) (base : Heap) (k : Nat) (x : Str) (sp : Sp) (ps : List Str) (dvs : List V) : Prop :=
  ∃ f fd ds, FnG P w K mg base k f fd ps sp ∧ mg x = some (.ref f) ∧ PySem.W.keepIn K (.ref f) = true ∧ Binds K fd ps ds ∧ Vals dvs ds
end Sr
namespace Sr
open PySem hiding start
open PySem.Spec L2
open PyProof.Rows hiding St
structure DefZ where
  ad : PySem.W.Frag → Addr
  name : Str
  qual : Str
  st : Stmt
  kwd : List (Str × V) := []
def fnZ (K : PySem.W.Frag) (a : Addr) : He.FnW := match K.lookup a with
  | some ⟨_, _, .func fd, _⟩ => some (fd.name, fd.qualname, fd.params, fd.body, fd.scope, fd.globals, fd.closure, fd.builtins)
  | _ => none
def DefZ.val (d : DefZ) : He.FnW := some (d.name, d.qual, defArgs d.st, .stmts (defBody d.st), defScope d.st, mainGlobals, [], builtinsNs)
def DefZ.ok (K : PySem.W.Frag) (d : DefZ) : Bool := PySem.W.keepIn K (.ref (d.ad K)) && (match K.lookup (d.ad K) with
  | some ⟨_, _, .func fd, _⟩ => PySem.W.codeIn K fd.code d.qual && (He.dflB K fd.defaults [] && He.kwdB K fd.kwdefaults d.kwd)
  | _ => false)
theorem DefZ.funD {K : PySem.W.Frag} {d : DefZ} (e : fnZ K (d.ad K) = d.val) (c : d.ok K = true) : ∃ fd, FunD K d.name d.qual (defArgs d.st) (defBody d.st) (defScope d.st) [] d.kwd (d.ad K) fd := by
  obtain ⟨kp, c2⟩ := He.ba c
  unfold fnZ at e
  cases q : K.lookup (d.ad K) with
  | none => rw [q] at c2; cases c2
  | some o =>
    obtain ⟨oc, od, dt, osl⟩ := o
    rw [q] at c2 e
    cases dt with
    | func fd =>
      obtain ⟨n1, n2, n3, n4, n5, n6, n7, n8, n9, n10, n11, n12, n13, n14, n15⟩ := fd
      have e2 : (some (n1, n2, n3, n4, n5, n6, n7, n15) : He.FnW) = some (d.name, d.qual, defArgs d.st, .stmts (defBody d.st), defScope d.st, mainGlobals, [], builtinsNs) := e
      simp only [Option.some.injEq, Prod.mk.injEq] at e2
      obtain ⟨h1, h2, h3, h4, h5, h6, h7, h8⟩ := e2
      subst h1 h2 h3 h4 h5 h6 h7 h8
      have c3 : (PySem.W.codeIn K n13 d.qual && (He.dflB K n8 [] && He.kwdB K n9 d.kwd)) = true := c2
      obtain ⟨k1, k2⟩ := He.ba c3
      obtain ⟨k3, k4⟩ := He.ba k2
      exact ⟨_, ⟨oc, od, n8, n9, n10, n11, n12, n13, n14, osl, rfl, q, k1, He.dflB_ok k3, He.kwdB_ok k4⟩, kp⟩
    | _ => cases c2
abbrev AlZ : Type := Bool × List He.FnW
def obsK (fa : List He.Fa) (fn : List DefZ) (ex : PySem.W.Frag → Bool) (K : PySem.W.Frag) : AlZ := ((fa.all fun f => f.ok K) && ((fn.all fun d => d.ok K) && ex K), fn.map fun d => fnZ K (d.ad K))
def valZ (fn : List DefZ) : AlZ := (true, fn.map DefZ.val)
def SaysZ (fa : List He.Fa) (fn : List DefZ) (ex : PySem.W.Frag → Bool) (K : PySem.W.Frag) : Prop := obsK fa fn ex K = valZ fn
def obsZ (n : Nat) (fa : List He.Fa) (fn : List DefZ) (ex : PySem.W.Frag → Bool) (g : Addr → Option Obj) : AlZ := obsK fa fn ex (He.frG g (He.asD g n))
def hookZ (n : Nat) (fa : List He.Fa) (fn : List DefZ) (ex : PySem.W.Frag → Bool) : PySem.W.Hook where
  α := AlZ
  obs := fun s => obsZ n fa fn ex s.heap.get?
  val := fun _ => valZ fn
  says := fun _ h => ∃ K : PySem.W.Frag, K.In h ∧ SaysZ fa fn ex K
  of := fun _ _ e => ⟨_, He.frG_in, e⟩
  keeps := fun _ _ _ ⟨K, hK, c⟩ k => ⟨K, PySem.W.Frag.In.keeps hK k, c⟩
theorem obsZ_eq {n : Nat} {fa : List He.Fa} {fn : List DefZ} {ex : PySem.W.Frag → Bool} {g : Addr → Option Obj} {s : Shared} (h : ∀ a, g a = s.heap.get? a) : obsZ n fa fn ex g = (hookZ n fa fn ex).obs s := by
  have e : g = s.heap.get? := funext h
  rw [e] <;> rfl
section
variable {fa : List He.Fa} {fn : List DefZ} {ex : PySem.W.Frag → Bool} {K : PySem.W.Frag}
theorem SaysZ.all (c : SaysZ fa fn ex K) : (fa.all fun f => f.ok K) = true ∧ (fn.all fun d => d.ok K) = true ∧ ex K = true := by
  obtain ⟨h1, h2⟩ := He.ba (show ((fa.all fun f => f.ok K) && ((fn.all fun d => d.ok K) && ex K)) = true from congrArg (fun z : AlZ => z.1) c)
  exact ⟨h1, He.ba h2⟩
theorem SaysZ.fact (c : SaysZ fa fn ex K) (i : Nat) {f : He.Fa} (h : fa[i]? = some f := by rfl) : f.ok K = true := List.all_eq_true.mp c.all.1 f (List.mem_of_getElem? h)
theorem SaysZ.def_ (c : SaysZ fa fn ex K) (i : Nat) {d : DefZ} (h : fn[i]? = some d := by rfl) : ∃ fd, FunD K d.name d.qual (defArgs d.st) (defBody d.st) (defScope d.st) [] d.kwd (d.ad K) fd := by
  have e : fn.map (fun d => fnZ K (d.ad K)) = fn.map DefZ.val := congrArg (fun z : AlZ => z.2) c
  have e2 : (fn.map fun d => fnZ K (d.ad K))[i]? = (fn.map DefZ.val)[i]? := by rw [e]
  rw [List.getElem?_map, List.getElem?_map, h] at e2
  exact DefZ.funD (Option.some.inj e2) (List.all_eq_true.mp c.all.2.1 d (List.mem_of_getElem? h))
end
def prG (K : PySem.W.Frag) (c f : Str) : Addr × Addr := match PySem.W.findIn K (.ref (He.ga K c)) f with
  | some (some (.ref p)) => (p, match PySem.W.recIn K p "property" with
    | some (.ref g :: _) => g
    | _ => 0)
  | _ => (0, 0)
def propB (K : PySem.W.Frag) (c f : Str) : Bool :=
  decide (PySem.W.findIn K (.ref (He.ga K c)) f = some (some (.ref (prG K c f).1))) && (decide (PySem.W.specialIn K (.ref (prG K c f).1) "__get__" = some (some (.builtin "property.__get__"))) && (decide (PySem.W.takesIn K (.ref (prG K c f).1) = some true) &&
    match PySem.W.recIn K (prG K c f).1 "property" with
    | some (.ref g :: _) => decide (g = (prG K c f).2)
    | _ => false))
theorem propB_ok {K : PySem.W.Frag} {c f : Str} (h : propB K c f = true) : PropOf K (He.ga K c) f (prG K c f).1 (prG K c f).2 := by
  unfold propB at h
  simp only [Bool.and_eq_true, decide_eq_true_eq] at h
  obtain ⟨h1, h2, h3, h4⟩ := h
  refine ⟨h1, h2, h3, ?_⟩
  split at h4
  · rename_i g r e
    rw [decide_eq_true_eq] at h4
    rw [← h4]; exact ⟨r, e⟩
  · cases h4
def cliB (K : PySem.W.Frag) (c : Str) : Bool :=
  decide (PySem.W.findIn K (.ref (He.ga K c)) "__class__" = some (some (.builtin "object.__class__"))) && (decide (PySem.W.specialIn K (.builtin "object.__class__") "__get__" = some (some (.builtin "getset_descriptor.__get__"))) &&
    (decide (PySem.W.takesIn K (.builtin "object.__class__") = some true) && decide (PySem.W.mroIn K (He.ga K c) (.type "object") = some true)))
theorem cliB_ok {K : PySem.W.Frag} {mg : Str → Option Value} {c : Str} (hc : ClK K mg c (He.ga K c)) (h : cliB K c = true) : ClI K mg c (He.ga K c) := by
  unfold cliB at h
  simp only [Bool.and_eq_true, decide_eq_true_eq] at h
  exact ⟨hc, h.1, h.2.1, h.2.2.1, h.2.2.2⟩
def allKd : List Kd := [.non, .bool, .int, .str, .bytes, .list, .tuple, .dict]
def noKd (K : PySem.W.Frag) (c : Str) : Bool := allKd.all fun k => decide (PySem.W.kitOne K (.type k.nm) (.ref (He.ga K c)) = some false)
theorem noKd_ok {K : PySem.W.Frag} {c : Str} (h : noKd K c = true) : ∀ n b, (fun _ : Kd => some false) n = some b → PySem.W.kitOne K (.type n.nm) (.ref (He.ga K c)) = some b := by
  intro n b e
  cases e
  have hm : n ∈ allKd := by cases n <;> decide
  exact of_decide_eq_true (List.all_eq_true.mp h n hm)
def ownB (K : PySem.W.Frag) (u : Value) (l : List (Str × Bool)) : Bool := l.all fun q => decide (PySem.W.kitOne K (.ref (He.ga K q.1)) u = some q.2)
theorem ownB_ok {K : PySem.W.Frag} {mg : Str → Option Value} {u : Value} {l : List (Str × Bool)} (h : ownB K u l = true) (hC : ∀ q ∈ l, ClI K mg q.1 (He.ga K q.1)) : ∀ c b, l.lookup c = some b → ∃ C, ClI K mg c C ∧ PySem.W.kitOne K (.ref C) u = some b := by
  intro c b e
  have hm : (c, b) ∈ l := PySem.mem_of_lookup e
  exact ⟨_, hC (c, b) hm, of_decide_eq_true (List.all_eq_true.mp h (c, b) hm)⟩
def gMul : D → D → Option D := gMulI
theorem o_mul {X : Cx} : Op2 X (binaryOp .Mult) gMul := o_mulI
end Sr
namespace Sr
open PySem hiding start
open PySem.Spec L2
open PyProof.Rows hiding St
theorem bt_len : bootBuiltins "len" = some (.builtin "len") := by decide +kernel
theorem bt_max : bootBuiltins "max" = some (.builtin "max") := by decide +kernel
theorem bt_min : bootBuiltins "min" = some (.builtin "min") := by decide +kernel
theorem bt_abs : bootBuiltins "abs" = some (.builtin "abs") := by decide +kernel
theorem bt_repr : bootBuiltins "repr" = some (.builtin "repr") := by decide +kernel
theorem bt_sum : bootBuiltins "sum" = some (.builtin "sum") := by decide +kernel
theorem bt_all : bootBuiltins "all" = some (.builtin "all") := by decide +kernel
theorem bt_any : bootBuiltins "any" = some (.builtin "any") := by decide +kernel
theorem bt_isinstance : bootBuiltins "isinstance" = some (.builtin "isinstance") := by decide +kernel
theorem bt_sorted : bootBuiltins "sorted" = some (.builtin "sorted") := by decide +kernel
theorem bt_int : bootBuiltins "int" = some (.type "int") := by decide +kernel
theorem bt_bool : bootBuiltins "bool" = some (.type "bool") := by decide +kernel
theorem bt_str : bootBuiltins "str" = some (.type "str") := by decide +kernel
theorem bt_tuple : bootBuiltins "tuple" = some (.type "tuple") := by decide +kernel
theorem bt_list : bootBuiltins "list" = some (.type "list") := by decide +kernel
theorem bt_bytes : bootBuiltins "bytes" = some (.type "bytes") := by decide +kernel
theorem bt_set : bootBuiltins "set" = some (.type "set") := by decide +kernel
theorem bt_range : bootBuiltins "range" = some (.type "range") := by decide +kernel
theorem bt_enumerate : bootBuiltins "enumerate" = some (.type "enumerate") := by decide +kernel
theorem bt_zip : bootBuiltins "zip" = some (.type "zip") := by decide +kernel
theorem bt_reversed : bootBuiltins "reversed" = some (.type "reversed") := by decide +kernel
theorem bt_dict : bootBuiltins "dict" = some (.type "dict") := by decide +kernel
theorem law_true {K : PySem.W.Frag} {mg : Str → Option Value} {f : Fnc} {ns : List Int} {H : Hp} {a : Addr} (h : f .non [.scr ns] = .ok (.bl true) .non) (hS : SqL K H a (ns.map V.int)) : spF0 K mg false 1 f [.ref a] H (fun v _ => v = .bl true) fun _ _ _ => False := by
  refine ⟨[.scr ns], H, Same.refl _, ?_, rfl, ?_⟩
  · rw [rl_cons]
    exact ⟨_, [], rfl, by rw [rp_scr]; exact ⟨a, rfl, hS⟩, by rw [rl_nil]⟩
  · rw [h]
    intro H' F' _ v hv
    rw [rp_bl] at hv
    exact hv
theorem fn_get {P : Program} {w : World} {K : PySem.W.Frag} {mg : Str → Option Value} {base : Heap} {x qual f : Str} {st : Stmt} {kws : List (Str × V)} {fa C : Addr} {fd : FuncData} {p1 p2 p3 : Pos} (G : FunD K x qual (defArgs st) (defBody st) (defScope st) [] kws fa fd) (cl : Cls K C) (hn : NoAttr K C f)
    (S : FnScope ["self"] ["self"] (defScope st)) (hb : defBody st = [.Return (some (.Attribute (.Name "self" p1) f p2)) p3]) : FnOk P w K mg base CX0 1 fa fd ["self"] (getSp C f) := by
  refine G.ok S (fun vs H Q E h => ?_) (fun cdv A outer s H vs Q E hr h => ?_)
  · obtain ⟨a, dx, fs, v, rfl, _⟩ := h
    rfl
  · obtain ⟨a, dx, fs, v, rfl, h1, h2, h3⟩ := h
    have hv : Vis (defScope st) "self" := by
      rcases S.par "self" (by simp) with q | q
      · exact .inl q
      · exact .inr (.inl q)
    rw [hb]
    refine ⟨_, pss_one (ps_ret (pe_fld (pe_var (i := 0) rfl hv) rfl)), ?_⟩
    exact ⟨_, rfl, a, C, dx, fs, v, rfl, h1, cl, hn, h2, h3⟩
theorem kbn0 {K : PySem.W.Frag} {fd : FuncData} {ps : List Str} (h : Binds K fd ps []) : KBn K fd ps ps.length [] (fun us _ => us) (fun vs _ => vs) := by
  refine ⟨fun s us ws X l1 l2 => ?_, fun r _ => r⟩
  have e : ws = [] := List.length_eq_zero_iff.mp l2
  subst e
  have b := h s us X (by rw [List.append_nil]; exact l1)
  rw [List.append_nil] at b
  exact b
end Sr
namespace Sr
open PySem hiding start
open L2
section
variable {A B : Type}
theorem bnd_ok {m : M A} {f : A → M B} {e e' : En} {a : A} (h : m e = .ok a e') : bnd m f e = f a e' := by unfold bnd; rw [h]
theorem bnd_exc {m : M A} {f : A → M B} {e e' : En} {x : Ex} (h : m e = .exc x e') : bnd m f e = .exc x e' := by unfold bnd; rw [h]
@[simp] theorem bnd_ret {a : A} {f : A → M B} {e : En} : bnd (ret a) f e = f a e := rfl
@[simp] theorem bnd_opt {a : A} {f : A → M B} {e : En} : bnd (opt (some a)) f e = f a e := rfl
theorem sq_nx {s u : M Fl} {e e' : En} (h : s e = .ok .nx e') : sq s u e = u e' := by unfold sq; rw [h]
theorem sq_rt {s u : M Fl} {e e' : En} {d : D} (h : s e = .ok (.rt d) e') : sq s u e = .ok (.rt d) e' := by unfold sq; rw [h]
theorem lp_nx {b k : M Fl} {e e' : En} (h : b e = .ok .nx e') : lp b k e = k e' := by unfold lp; rw [h]
theorem lp_rt {b k : M Fl} {e e' : En} {d : D} (h : b e = .ok (.rt d) e') : lp b k e = .ok (.rt d) e' := by unfold lp; rw [h]
end
def turn (w : D → M Unit) (b : M Fl) (d : D) : M Fl := bnd (w d) fun _ => b
theorem forL_cons_nx {w : D → M Unit} {b : M Fl} {d : D} {ds : List D} {e e' : En} (h : turn w b d e = .ok .nx e') : forL w b (d :: ds) e = forL w b ds e' := by
  unfold turn bnd at h
  show bnd (w d) (fun _ => lp b (forL w b ds)) e = _
  unfold bnd
  cases q : w d e with
  | ok u e1 => rw [q] at h; exact lp_nx h
  | exc x e1 => rw [q] at h; cases h
  | bad => rw [q] at h; cases h
theorem forL_cons_rt {w : D → M Unit} {b : M Fl} {d : D} {ds : List D} {e e' : En} {z : D} (h : turn w b d e = .ok (.rt z) e') : forL w b (d :: ds) e = .ok (.rt z) e' := by
  unfold turn bnd at h
  show bnd (w d) (fun _ => lp b (forL w b ds)) e = _
  unfold bnd
  cases q : w d e with
  | ok u e1 => rw [q] at h; exact lp_rt h
  | exc x e1 => rw [q] at h; cases h
  | bad => rw [q] at h; cases h
theorem forL_inv {w : D → M Unit} {b : M Fl} (I : En → Prop) : ∀ {ds : List D} {e : En}, (∀ d ∈ ds, ∀ e, I e → ∃ e', turn w b d e = .ok .nx e' ∧ I e') → I e → ∃ e', forL w b ds e = .ok .nx e' ∧ I e'
  | [], e, _, h => ⟨e, rfl, h⟩
  | d :: ds, e, hs, h => by
    obtain ⟨e1, h1, h2⟩ := hs d (by simp) e h
    obtain ⟨e2, h3, h4⟩ := forL_inv I (ds := ds) (fun d hd => hs d (List.mem_cons_of_mem _ hd)) h2
    exact ⟨e2, by rw [forL_cons_nx h1]; exact h3, h4⟩
theorem forL_fold {A : Type} {w : D → M Unit} {b : M Fl} (R : A → En → Prop) (step : A → D → A) : ∀ {ds : List D} {a : A} {e : En}, (∀ d ∈ ds, ∀ a e, R a e → ∃ e', turn w b d e = .ok .nx e' ∧ R (step a d) e') → R a e → ∃ e', forL w b ds e = .ok .nx e' ∧ R (ds.foldl step a) e'
  | [], a, e, _, h => ⟨e, rfl, h⟩
  | d :: ds, a, e, hs, h => by
    obtain ⟨e1, h1, h2⟩ := hs d (by simp) a e h
    obtain ⟨e2, h3, h4⟩ := forL_fold R step (ds := ds) (fun d hd => hs d (List.mem_cons_of_mem _ hd)) h2
    exact ⟨e2, by rw [forL_cons_nx h1]; exact h3, h4⟩
end Sr
namespace Sr
open PySem hiding start
open L2
theorem forL_foldP {A : Type} {w : D → M Unit} {b : M Fl} (R : A → En → Prop) (step : A → D → A) (a : A) (ds : List D) : ∀ (pre post : List D) (e : En), ds = pre ++ post →
    (∀ pre d post, ds = pre ++ d :: post → ∀ e, R (pre.foldl step a) e → ∃ e', turn w b d e = .ok .nx e' ∧ R (step (pre.foldl step a) d) e') → R (pre.foldl step a) e → ∃ e', forL w b post e = .ok .nx e' ∧ R (ds.foldl step a) e'
  | pre, [], e, h, _, hR => by rw [List.append_nil] at h; subst h; exact ⟨e, rfl, hR⟩
  | pre, d :: post, e, h, hs, hR => by
    obtain ⟨e1, h1, h2⟩ := hs pre d post h e hR
    obtain ⟨e2, h3, h4⟩ := forL_foldP R step a ds (pre ++ [d]) post e1 (by rw [h]; simp) hs (by rw [List.foldl_append]; exact h2)
    exact ⟨e2, by rw [forL_cons_nx h1]; exact h3, h4⟩
def irng (lo hi : Int) : List Int := (List.range (hi - lo).toNat).map fun (i : Nat) => lo + i
theorem rngL_eq (lo hi : Int) : rngL lo hi = (irng lo hi).map D.int := by
  unfold rngL irng
  rw [List.map_map]; rfl
theorem irng_mem {lo hi i : Int} (h : i ∈ irng lo hi) : lo ≤ i ∧ i < hi := by
  unfold irng at h
  rw [List.mem_map] at h
  obtain ⟨n, h1, rfl⟩ := h
  rw [List.mem_range] at h1
  omega
theorem forL_map {A B : Type} {w : D → M Unit} {b : M Fl} (f : B → D) (R : A → En → Prop) (step : A → B → A) (a : A) (xs : List B) (e : En)
    (hs : ∀ pre x post, xs = pre ++ x :: post → ∀ e, R (pre.foldl step a) e → ∃ e', turn w b (f x) e = .ok .nx e' ∧ R (step (pre.foldl step a) x) e') (h0 : R a e) : ∃ e', forL w b (xs.map f) e = .ok .nx e' ∧ R (xs.foldl step a) e' := by
  suffices H : ∀ (pre post : List B) (e : En), xs = pre ++ post → R (pre.foldl step a) e → ∃ e', forL w b (post.map f) e = .ok .nx e' ∧ R (xs.foldl step a) e' from H [] xs e rfl h0
  intro pre post
  induction post generalizing pre with
  | nil => intro e h hR; rw [List.append_nil] at h; subst h; exact ⟨e, rfl, hR⟩
  | cons x post ih =>
    intro e h hR
    obtain ⟨e1, h1, h2⟩ := hs pre x post h e hR
    obtain ⟨e2, h3, h4⟩ := ih (pre ++ [x]) e1 (by rw [h]; simp) (by rw [List.foldl_append]; exact h2)
    exact ⟨e2, by rw [List.map_cons, forL_cons_nx h1]; exact h3, h4⟩
theorem foldl_len {A B : Type} {step : List A → B → List A} {k : Nat} (h : ∀ a b, (step a b).length ≤ a.length + k) : ∀ (xs : List B) (a : List A), (xs.foldl step a).length ≤ a.length + k * xs.length
  | [], a => by simp
  | x :: xs, a => by
    have h1 := h a x
    have h2 := foldl_len h xs (step a x)
    rw [List.foldl_cons, List.length_cons, Nat.mul_succ]
    omega
theorem cmul_l {i j : Int} (h1 : -18446744073709551616 < i) (h2 : i < 18446744073709551616) : cMul i j = true := by
  unfold cMul; simp; left; exact ⟨h1, h2⟩
def PenOk (o : D) : Prop := ∃ a b c : Int, o = .lst [.int a, .int b, .int c] ∧ 0 ≤ a ∧ 0 ≤ b ∧ b ≤ 2147483647
end Sr
namespace Sr
open PySem hiding start
open L2
structure Sh (d : D) (k n : Nat) (p : PyData) : Prop where
  eq : toP d = some p
  sh : p.showable = true
  nd : p.hasDict = false
  dp : p.depth ≤ k
  ln : p.shown.length ≤ n
structure ShL (ds : List D) (k n : Nat) (ps : List PyData) : Prop where
  eq : toPL ds = some ps
  sh : PyData.showableAll ps = true
  nd : PyData.hasDictAll ps = false
  dp : PyData.depthAll ps ≤ k
  ln : piled (PyData.shownAll ps) ≤ n
theorem listText_le (ts : List Str) : (listText ts).length ≤ piled ts + 2 := by
  cases ts with
  | nil => decide +kernel
  | cons t r =>
    show (textFrom 1 ((("[" : Str) ++ ((if 0 > 0 then ", " else "" : String) : Str)) ++ t) r ++ ("]" : Str)).length ≤ _
    rw [strLen_append, textFrom_length_pos _ _ _ (by omega), piled_cons, strLen_append, strLen_append]
    have h1 : (("[" : Str)).length = 1 := by decide +kernel
    have h2 : (("]" : Str)).length = 1 := by decide +kernel
    have h3 : (((if 0 > 0 then ", " else "" : String) : Str)).length = 0 := by decide +kernel
    omega
theorem tupleText_le (ts : List Str) : (tupleText ts).length ≤ piled ts + 3 := by
  unfold tupleText
  rw [strLen_append, strLen_append]
  have h1 : (("(" : Str)).length = 1 := by decide +kernel
  have h2 : (((if ts.length == 1 then ",)" else ")" : String) : Str)).length ≤ 2 := by split <;> decide +kernel
  cases ts with
  | nil =>
    have h3 : (Str.join ", " ([] : List Str)).length = 0 := by decide +kernel
    rw [h3]; omega
  | cons t r =>
    have h3 := join_length_add (t :: r) (by simp)
    omega
theorem sh_non : Sh .non 0 4 .none := ⟨rfl, rfl, rfl, Nat.le_refl _, by decide +kernel⟩
theorem sh_bl (b : Bool) : Sh (.bl b) 0 5 (.bool b) := ⟨rfl, rfl, rfl, Nat.le_refl _, by cases b <;> decide +kernel⟩
theorem short99 (i : Int) (h : 0 ≤ i ∧ i < 100) : (PyData.shown (.int i)).length ≤ 2 ∧ i.natAbs.log2 < 1920 := by
  have H : ∀ n : Fin 100, (PyData.shown (.int (n.val : Int))).length ≤ 2 ∧ (n.val : Int).natAbs.log2 < 1920 := by decide +kernel
  have := H ⟨i.toNat, by omega⟩
  have e : ((i.toNat : Nat) : Int) = i := by omega
  rw [e] at this
  exact this
theorem sh_int {i : Int} (h0 : 0 ≤ i) (h1 : i < 100) : Sh (.int i) 0 2 (.int i) := by
  obtain ⟨h2, h3⟩ := short99 i ⟨h0, h1⟩
  exact ⟨rfl, by simp only [PyData.showable, decide_eq_true_eq]; exact h3, rfl, Nat.le_refl _, h2⟩
theorem shl_nil : ShL [] 0 0 [] := ⟨rfl, rfl, rfl, Nat.le_refl _, Nat.le_refl _⟩
theorem shl_cons {d : D} {ds : List D} {k k' n n' : Nat} {p : PyData} {ps : List PyData} (h : Sh d k n p) (hs : ShL ds k' n' ps) : ShL (d :: ds) (max k k') (n + 2 + n') (p :: ps) := by
  refine ⟨by simp only [toPL, h.eq, hs.eq, Option.bind_some, Option.map_some], by simp only [PyData.showableAll, h.sh, hs.sh, Bool.and_self], by simp only [PyData.hasDictAll, h.nd, hs.nd, Bool.or_self], ?_, ?_⟩
  · have := h.dp; have := hs.dp; simp only [PyData.depthAll]; omega
  · have := h.ln; have := hs.ln; simp only [PyData.shownAll, piled_cons]; omega
theorem sh_lst {ds : List D} {k n : Nat} {ps : List PyData} (h : ShL ds k n ps) : Sh (.lst ds) (k + 1) (n + 2) (.list ps) := by
  refine ⟨by simp only [toP, h.eq, Option.map_some], by simp only [PyData.showable]; exact h.sh, by simp only [PyData.hasDict]; exact h.nd, ?_, ?_⟩
  · have := h.dp; simp only [PyData.depth]; omega
  · have := listText_le (PyData.shownAll ps); have := h.ln; simp only [PyData.shown]; omega
theorem sh_tup {ds : List D} {k n : Nat} {ps : List PyData} (h : ShL ds k n ps) : Sh (.tup ds) (k + 1) (n + 3) (.tuple ps) := by
  refine ⟨by simp only [toP, h.eq, Option.map_some], by simp only [PyData.showable]; exact h.sh, by simp only [PyData.hasDict]; exact h.nd, ?_, ?_⟩
  · have := h.dp; simp only [PyData.depth]; omega
  · have := tupleText_le (PyData.shownAll ps); have := h.ln; simp only [PyData.shown]; omega
theorem repr_lst {ds : List D} {k n : Nat} {p : PyData} (h : Sh (.lst ds) k n p) (hk : k ≤ 64) (hn : n ≤ 16777216) : gRepr (.lst ds) = some (.str p.shown) := by
  have h1 := h.dp; have h2 := h.ln
  have hs : sizeLine = 16777216 := by decide
  simp only [gRepr, h.eq, h.sh, h.nd, Bool.not_false, Bool.and_true, Bool.true_and, Bool.and_eq_true, decide_eq_true_eq]
  rw [if_pos ⟨by omega, by rw [hs]; omega⟩]
theorem repr_tup {ds : List D} {k n : Nat} {p : PyData} (h : Sh (.tup ds) k n p) (hk : k ≤ 64) (hn : n ≤ 16777216) : gRepr (.tup ds) = some (.str p.shown) := by
  have h1 := h.dp; have h2 := h.ln
  have hs : sizeLine = 16777216 := by decide
  simp only [gRepr, h.eq, h.sh, h.nd, Bool.not_false, Bool.and_true, Bool.true_and, Bool.and_eq_true, decide_eq_true_eq]
  rw [if_pos ⟨by omega, by rw [hs]; omega⟩]
end Sr
namespace Sr
open PySem hiding start
open PySem.Spec L2
open PyProof.Rows hiding St
def W0 : WX := fun _ _ _ _ => False
theorem takes0 {X : Cx} : Takes X W0 := fun u s' ⟨a, B, sI, pins, σ, H, cls, d, e, I, nb, up, sky, na, os, ag, w⟩ => w.elim
def wipE : List Nat → En → En
  | [], e => e
  | v :: vs, e => (wipE vs e).set v .no
def rst : List Nat → En → En → En
  | [], _, e2 => e2
  | v :: vs, e1, e2 => (rst vs e1 e2).set v (match e1[v]? with
    | some (.val d) => .val d
    | _ => .no)
theorem wipE_len : ∀ (vs : List Nat) (e : En), (wipE vs e).length = e.length
  | [], _ => rfl
  | v :: vs, e => by unfold wipE; rw [List.length_set, wipE_len vs e]
theorem rst_len : ∀ (vs : List Nat) (e1 e : En), (rst vs e1 e).length = e.length
  | [], _, _ => rfl
  | v :: vs, e1, e => by unfold rst; rw [List.length_set, rst_len vs e1 e]
theorem wipE_get : ∀ {vs : List Nat} {e : En} {j : Nat} {x : Sl}, (wipE vs e)[j]? = some x → x ≠ .no → j ∉ vs ∧ e[j]? = some x
  | [], e, j, x, h, _ => ⟨by simp, h⟩
  | v :: vs, e, j, x, h, n => by
    unfold wipE at h
    by_cases hj : v = j
    · subst hj
      by_cases hl : v < (wipE vs e).length
      · rw [List.getElem?_set_self hl] at h; cases h; exact (n rfl).elim
      · rw [List.getElem?_eq_none (by rw [List.length_set]; omega)] at h; cases h
    · rw [List.getElem?_set_ne hj] at h
      obtain ⟨h1, h2⟩ := wipE_get h n
      exact ⟨by simp only [List.mem_cons, not_or]; exact ⟨fun q => hj q.symm, h1⟩, h2⟩
theorem rst_get : ∀ {vs : List Nat} {e1 e : En} {j : Nat} {x : Sl}, (rst vs e1 e)[j]? = some x → x ≠ .no → (j ∉ vs ∧ e[j]? = some x) ∨ ((∃ d, x = .val d) ∧ e1[j]? = some x)
  | [], e1, e, j, x, h, _ => .inl ⟨by simp, h⟩
  | v :: vs, e1, e, j, x, h, n => by
    unfold rst at h
    by_cases hj : v = j
    · subst hj
      by_cases hl : v < (rst vs e1 e).length
      · rw [List.getElem?_set_self hl] at h
        cases q : e1[v]? with
        | none => rw [q] at h; cases h; exact (n rfl).elim
        | some s =>
          rw [q] at h
          cases s with
          | no => cases h; exact (n rfl).elim
          | own d => cases h; exact (n rfl).elim
          | val d => cases h; exact .inr ⟨⟨d, rfl⟩, rfl⟩
      · rw [List.getElem?_eq_none (by rw [List.length_set]; omega)] at h; cases h
    · rw [List.getElem?_set_ne hj] at h
      rcases rst_get h n with ⟨h1, h2⟩ | h1
      · exact .inl ⟨by simp only [List.mem_cons, not_or]; exact ⟨fun q => hj q.symm, h1⟩, h2⟩
      · exact .inr h1
theorem wipe_get {σ : St} {j : Nat} : ∀ {vs : List Nat}, (wipe σ vs)[j]? = if j ∈ vs ∧ j < σ.length then some none else σ[j]?
  | [] => by simp [wipe]
  | v :: vs => by
    unfold wipe
    by_cases hj : v = j
    · subst hj
      by_cases hl : v < σ.length
      · rw [List.getElem?_set_self (by rw [wipe_length]; exact hl), if_pos ⟨by simp, hl⟩]
      · rw [List.getElem?_eq_none (by rw [List.length_set, wipe_length]; omega), if_neg (fun z => hl z.2), List.getElem?_eq_none (by omega)]
    · rw [List.getElem?_set_ne hj, wipe_get (vs := vs)]
      have : j ∈ v :: vs ↔ j ∈ vs := by simp only [List.mem_cons]; exact ⟨fun z => z.elim (fun q => (hj q.symm).elim) id, .inr⟩
      simp only [this]
theorem wipe_set {σ : St} {i : Nat} {x : Option V} {vs : List Nat} (h : i ∈ vs) : wipe (σ.set i x) vs = wipe σ vs := by
  refine List.ext_getElem? fun j => ?_
  rw [wipe_get, wipe_get, List.length_set]
  by_cases hj : j ∈ vs ∧ j < σ.length
  · rw [if_pos hj, if_pos hj]
  · rw [if_neg hj, if_neg hj]
    by_cases hij : i = j
    · subst hij
      have : ¬ i < σ.length := fun z => hj ⟨h, z⟩
      rw [List.getElem?_eq_none (by rw [List.length_set]; omega), List.getElem?_eq_none (by omega)]
    · rw [List.getElem?_set_ne hij]
section
variable {K : PySem.W.Frag} {mg : Str → Option Value} {T : Option Addr} {W : WX} {e e0 e1 e2 : En} {σ σ0 : St} {H F H0 F0 H1 F1 F2 : Hp} {p : Addr} {o : HO} {vs : List Nat}
theorem Mv.updNew (m : Mv e0 σ0 H0 F0 e σ H F) (n : H0 p = none) : Mv e0 σ0 H0 F0 e σ (upd H p o) F := by
  refine ⟨m.sub, fun a u h w => ?_, m.new, fun a h => ?_⟩
  · obtain ⟨h1, h2⟩ := m.keep a u h w
    exact ⟨by rw [upd_ne (ne_of_none h n)]; exact h1, h2⟩
  · by_cases ha : a = p
    · subst ha; exact n
    · rw [upd_ne ha] at h; exact m.there a h
theorem ER.updFree (er : ER K mg T e σ H F) (n : F p = none) (w : ¬ Ow e σ p) : ER K mg T e σ (upd H p o) F := by
  refine ⟨fun b u q => ?_, er.val, fun i d h => ?_, er.inj, er.len, er.pin⟩
  · rw [upd_ne (ne_of_none q n)]; exact er.sub b u q
  · obtain ⟨q, h1, h2, h3⟩ := er.own i d h
    refine ⟨q, h1, h2, h3.keep (Same.refl _) fun u hu => ?_⟩
    rw [upd_ne]; exact hu
    rintro rfl
    exact w ⟨i, d, h, h1⟩
theorem ER.wip (er : ER K mg T e σ H F) (hT : T = none ∨ 0 ∉ vs) : ER K mg T (wipE vs e) (wipe σ vs) H F ∧ Mv e σ H F (wipE vs e) (wipe σ vs) H F := by
  have ow : ∀ a, Ow (wipE vs e) (wipe σ vs) a → Ow e σ a := fun a ⟨j, d, h1, h2⟩ => by
    obtain ⟨h3, h4⟩ := wipE_get h1 (fun z => nomatch z)
    rw [wipe_out h3] at h2
    exact ⟨j, d, h4, h2⟩
  refine ⟨⟨er.sub, fun i d h => ?_, fun i d h => ?_, fun i j q d d' h1 h2 h3 h4 => ?_, by rw [wipE_len, wipe_length]; exact er.len, fun q hq => ?_⟩, Same.refl _, fun a u h n => ⟨h, fun z => n (ow a z)⟩, fun a u h => .inl h, fun a h => h⟩
  · obtain ⟨h1, h2⟩ := wipE_get h (fun z => nomatch z)
    obtain ⟨v, h3, h4⟩ := er.val i d h2
    exact ⟨v, by rw [wipe_out h1]; exact h3, h4⟩
  · obtain ⟨h1, h2⟩ := wipE_get h (fun z => nomatch z)
    obtain ⟨v, h3, h4⟩ := er.own i d h2
    exact ⟨v, by rw [wipe_out h1]; exact h3, h4⟩
  · obtain ⟨g1, g2⟩ := wipE_get h1 (fun z => nomatch z)
    obtain ⟨g3, g4⟩ := wipE_get h2 (fun z => nomatch z)
    rw [wipe_out g1] at h3; rw [wipe_out g3] at h4
    exact er.inj i j q d d' g2 g4 h3 h4
  · rcases hT with hT | hT
    · rw [hT] at hq; cases hq
    · rw [wipe_out hT]; exact er.pin q hq
theorem ER.rst (er : ER K mg T e2 (wipe σ vs) H F2) (er1 : ER K mg T e1 σ H1 F1) (mv : Mv e1 σ H1 F1 e2 (wipe σ vs) H F2) (hl : e2.length = e1.length) : ER K mg T (Sr.rst vs e1 e2) σ H F2 ∧ Mv e1 σ H1 F1 (Sr.rst vs e1 e2) σ H F2 := by
  have ow : ∀ j d, (Sr.rst vs e1 e2)[j]? = some (.own d) → j ∉ vs ∧ e2[j]? = some (.own d) := fun j d h => by
    rcases rst_get h (fun z => nomatch z) with h1 | ⟨⟨d', h1⟩, _⟩
    · exact h1
    · cases h1
  refine ⟨⟨er.sub, fun i d h => ?_, fun i d h => ?_, fun i j q d d' h1 h2 h3 h4 => ?_, by rw [rst_len, hl]; exact er1.len, er1.pin⟩, mv.sub, fun a u h n => ?_, mv.new, mv.there⟩
  · rcases rst_get h (fun z => nomatch z) with ⟨h1, h2⟩ | ⟨_, h2⟩
    · obtain ⟨v, h3, h4⟩ := er.val i d h2
      exact ⟨v, by rw [wipe_out h1] at h3; exact h3, h4⟩
    · obtain ⟨v, h3, h4⟩ := er1.val i d h2
      exact ⟨v, h3, Rp.mono mv.sub _ _ h4⟩
  · obtain ⟨h1, h2⟩ := ow i d h
    obtain ⟨v, h3, h4⟩ := er.own i d h2
    exact ⟨v, by rw [wipe_out h1] at h3; exact h3, h4⟩
  · obtain ⟨g1, g2⟩ := ow i d h1
    obtain ⟨g3, g4⟩ := ow j d' h2
    exact er.inj i j q d d' g2 g4 (by rw [wipe_out g1]; exact h3) (by rw [wipe_out g3]; exact h4)
  · obtain ⟨h1, h2⟩ := mv.keep a u h n
    refine ⟨h1, fun ⟨j, d, q1, q2⟩ => h2 ?_⟩
    obtain ⟨g1, g2⟩ := ow j d q1
    exact ⟨j, d, g2, by rw [wipe_out g1]; exact q2⟩
end
def TH (K : PySem.W.Frag) (mg : Str → Option Value) (T : Option Addr) (vs : List Nat) (w : D → M Unit) : TG := fun v σ H Q => ∃ e F d, ER K mg T e σ H F ∧ Rp K mg F d v ∧
  match w d e with
  | .ok _ e' => ∀ σ' H' F', ER K mg T e' σ' H' F' → Mv e σ H F e' σ' H' F' → wipe σ' vs = wipe σ vs → Q σ' H'
  | _ => False
def THs (K : PySem.W.Frag) (mg : Str → Option Value) (T : Option Addr) (vs : List Nat) (w : List D → M Unit) : TGs := fun us σ H Q => ∃ e F ds, ER K mg T e σ H F ∧ RpL K mg F ds us ∧
  match w ds e with
  | .ok _ e' => ∀ σ' H' F', ER K mg T e' σ' H' F' → Mv e σ H F e' σ' H' F' → wipe σ' vs = wipe σ vs → Q σ' H'
  | _ => False
abbrev JH (X : Cx) (T : Option Addr) (vs : List Nat) (tg : Expr) (w : D → M Unit) : Prop := PG X tg (TH X.K X.mg T vs w)
abbrev JHs (X : Cx) (T : Option Addr) (vs : List Nat) (tg : List Expr) (w : List D → M Unit) : Prop := PGs X tg (THs X.K X.mg T vs w)
def lcL (w : D → M Unit) (t : M Bool) (el : M D) (vs : List Nat) : List D → List D → M (List D)
  | [], acc => ret acc
  | d :: ds, acc => bnd (w d) fun _ => bnd t fun b => if b = true then bnd el fun y => (if acc.length < sizeLine then fun e => lcL w t el vs ds (acc ++ [y]) (wipE vs e) else fun _ => .bad) else fun e => lcL w t el vs ds acc (wipE vs e)
def mLc (vs : List Nat) (m : M (List D)) (w : D → M Unit) (t : M Bool) (el : M D) : M D := bnd m fun ds e1 => match lcL w t el vs ds [] (wipE vs e1) with
  | .ok acc e2 => .ok (.lst acc) (rst vs e1 e2)
  | _ => .bad
def mYes : M Bool := ret true
theorem bnd_inv {A B : Type} {m : M A} {f : A → M B} {e e2 : En} {b : B} (h : bnd m f e = .ok b e2) : ∃ a e1, m e = .ok a e1 ∧ f a e1 = .ok b e2 := by
  unfold bnd at h
  cases q : m e with
  | ok a e1 => rw [q] at h; exact ⟨a, e1, rfl, h⟩
  | exc x e1 => rw [q] at h; cases h
  | bad => rw [q] at h; cases h
theorem RunAt.of {K : PySem.W.Frag} {mg : Str → Option Value} {T : Option Addr} {W : WX} {A : Type} {m : M A} {e e1 : En} {σ : St} {H F : Hp} {x : A} {P : A → En → Hp → Hp → Prop} (q : m e = .ok x e1) (h : ∀ H' F', ER K mg T e1 σ H' F' → Mv e σ H F e1 σ H' F' → P x e1 H' F') : RunAt K mg T W e F m σ H P := by
  unfold RunAt
  rw [q]
  exact h
section
variable {X : Cx} {T : Option Addr} {W : WX} {pos : Pos}
theorem jh_name {i : Nat} {x : Str} {vs : List Nat} (hT : T = none ∨ i ≠ 0) (hN : X.N.Nodup) (hi : X.N[i]? = some x) (hx : Loc X.env.scope x) (hm : i ∈ vs) (hf : X.fn x = true ∨ X.env.scope.names.lookup x = some .local := by first | exact .inl rfl | exact .inr rfl | assumption) : JH X T vs (.Name x pos) (gN i) := by
  refine ⟨fun pins s σ H v u Q I r h => (pg_name hN hi hx hf).run pins s σ H v u Q I r ?_⟩
  obtain ⟨e, F, d, er, rd, h⟩ := h
  obtain ⟨er2, mv2⟩ := er.setV hT rd
  exact h _ H F er2 mv2 (wipe_set hm)
theorem jhs_nil {vs : List Nat} : JHs X T vs [] gsN := by
  refine ⟨fun pins s σ H us u Q I r h => pgs_nil.run pins s σ H us u Q I r ?_⟩
  obtain ⟨e, F, ds, er, rd, h⟩ := h
  cases ds with
  | nil => rw [rl_nil] at rd; exact ⟨rd, h σ H F er Mv.refl rfl⟩
  | cons d ds => exact h.elim
theorem jhs_cons {e : Expr} {es : List Expr} {vs : List Nat} {w : D → M Unit} {ws : List D → M Unit} (h1 : JH X T vs e w) (h2 : JHs X T vs es ws)
    (hs : (assignEach (e :: es) X.env).map (·.2) = assign e X.env :: (assignEach es X.env).map (·.2) := by rfl) : JHs X T vs (e :: es) (gsC w ws) := by
  refine ⟨fun pins s σ H us u Q I r h => (pgs_cons h1 h2 hs).run pins s σ H us u Q I r ?_⟩
  obtain ⟨e, F, ds, er, rd, h⟩ := h
  cases ds with
  | nil => exact h.elim
  | cons d ds =>
    rw [rl_cons] at rd
    obtain ⟨v, us, rfl, rd, rl⟩ := rd
    refine ⟨v, us, rfl, e, F, d, er, rd, ?_⟩
    simp only [gsC, bnd] at h
    cases q : w d e with
    | ok u e1 =>
      rw [q] at h
      dsimp only at h ⊢
      intro σ1 H1 F1 er1 mv1 w1
      refine ⟨e1, F1, ds, er1, RpL.mono mv1.sub _ _ rl, ?_⟩
      cases q2 : ws ds e1 with
      | ok u e2 => rw [q2] at h; exact fun σ' H' F' er' mv' w2 => h σ' H' F' er' (mv1.trans mv') (w2.trans w1)
      | exc x e2 => rw [q2] at h; exact h
      | bad => rw [q2] at h; exact h
    | exc x e1 => rw [q] at h; exact h
    | bad => rw [q] at h; exact h
theorem jh_tup {es : List Expr} {k : Nat} {vs : List Nat} {ws : List D → M Unit} {n : Nat} (hc : X.calm = true) (h : JHs X T vs es ws)
    (hn : (assignEach es X.env).length = n := by rfl) (hst : (assignEach es X.env).findIdx? (·.1) = none := by rfl) : JH X T vs (.Tuple es k pos) (gT n ws) := by
  refine ⟨fun pins s σ H v u Q I r q => (pg_tup hc h hn hst).run pins s σ H v u Q I r ?_⟩
  obtain ⟨e, F, d, er, rd, q⟩ := q
  unfold gT at q
  split at q
  · rename_i u e' hh
    split at hh
    · rename_i ds
      rw [rp_tup] at rd
      obtain ⟨a, xs, rfl, rd, rl⟩ := rd
      split at hh
      · rename_i hl
        refine ⟨a, xs, rfl, seqT_mono er.sub rd, by rw [← rl.len]; exact hl, e, F, ds, er, rl, ?_⟩
        rw [hh]; exact q
      · cases hh
    · cases hh
  · exact q.elim
abbrev JTs (X : Cx) (T : Option Addr) (W : WX) (ifs : List Expr) (m : M Bool) : Prop := PTs X ifs (TT' X.K X.mg T W m)
theorem jts_nil : JTs X T W [] mYes := ⟨fun pins s σ H Q I ⟨e, F, er, h⟩ => pts_nil.run pins s σ H Q I (h H F er Mv.refl)⟩
theorem jts_one {c : Expr} {t : M Bool} (h : JT X T W c t) : JTs X T W [c] t := pts_one h
theorem lcL_len {w : D → M Unit} {t : M Bool} {el : M D} {vs : List Nat} (hl : ∀ d e a e', w d e = .ok a e' → e'.length = e.length) (ht : ∀ e b e', t e = .ok b e' → e'.length = e.length) (he : ∀ e y e', el e = .ok y e' → e'.length = e.length) : ∀ (ds acc : List D) (e : En) (r : List D) (e' : En), lcL w t el vs ds acc e = .ok r e' → e'.length = e.length
  | [], acc, e, r, e', h => by cases h; rfl
  | d :: ds, acc, e, r, e', h => by
    unfold lcL at h
    obtain ⟨_, e1, h1, h⟩ := bnd_inv h
    obtain ⟨b, e2, h2, h⟩ := bnd_inv h
    split at h
    · obtain ⟨y, e3, h3, h⟩ := bnd_inv h
      split at h
      · rw [lcL_len hl ht he ds _ _ r e' h, wipE_len, he _ _ _ h3, ht _ _ _ h2, hl _ _ _ _ h1]
      · cases h
    · rw [lcL_len hl ht he ds _ _ r e' h, wipE_len, ht _ _ _ h2, hl _ _ _ _ h1]
theorem lc_imp {vs : List Nat} {m : M (List D)} {w : D → M Unit} {t : M Bool} {el : M D} {σ : St} {H : Hp} {Q : VK} (hT : T = none ∨ 0 ∉ vs) (h : TO X.K X.mg T W (mLc vs m w t el) σ H Q) : tLc (TIt X.K X.mg T W m) (TH X.K X.mg T vs w) (TT' X.K X.mg T W0 t) (TV X.K X.mg T W0 el) vs σ H Q := by
  obtain ⟨e, F, er, h⟩ := h
  refine ⟨e, F, er, h.bind.mono fun ds e1 H1 F1 er1 mv1 h1 J wk D hD => ?_⟩
  obtain ⟨G, Y, wlk, hG, hY⟩ := wk
  unfold RunAt at h1
  cases q : lcL w t el vs ds [] (wipE vs e1) with
  | exc x e2 => simp only [q] at h1
  | bad => simp only [q] at h1
  | ok acc eF =>
    simp only [q] at h1
    obtain ⟨erw, mvw⟩ := er1.wip (vs := vs) hT
    have fD : F1 D = none := er1.sub.free hD
    have nD : ¬ Ow (wipE vs e1) (wipe σ vs) D := Ow.ne_of_free erw hD
    refine lc_it wlk (fun i H' => ∃ e2 F2 ac xs, ER X.K X.mg T e2 (wipe σ vs) H' F2 ∧ Mv e1 σ H1 F1 e2 (wipe σ vs) H' F2 ∧ F2 D = none ∧ ¬ Ow e2 (wipe σ vs) D ∧ H' D = some (.lst xs) ∧ RpL X.K X.mg F2 ac xs ∧ lcL w t el vs (ds.drop i) ac e2 = .ok acc eF)
      ⟨wipE vs e1, F1, [], [], erw.updFree fD nD, mvw.updNew hD, fD, nD, upd_same, by rw [rl_nil], q⟩ (fun i H' _ ⟨e2, F2, ac, xs, er2, mv2, _⟩ => hG H' (mv2.sub.trans er2.sub)) ?_ ?_
    · rintro i x H2 H3 hi ⟨e2, F2, ac, xs, er2, mv2, fD2, nD2, hD2, rl2, q2⟩ y
      obtain ⟨F3, d, al, hd, rd⟩ := hY i H2 F2 x H3 hi mv2.sub er2.sub y
      have er3 := er2.al al
      have mv3 := mv2.trans (Mv.al er2 al)
      have keepD : ∀ {e4 : En} {σ4 : St} {H4 F4 : Hp}, Mv e2 (wipe σ vs) H2 F2 e4 σ4 H4 F4 → H4 D = some (.lst xs) ∧ ¬ Ow e4 σ4 D ∧ F4 D = none := fun {e4 σ4 H4 F4} mv => by
        obtain ⟨k1, k2⟩ := mv.keep D _ hD2 nD2
        refine ⟨k1, k2, ?_⟩
        cases z : F4 D with
        | none => rfl
        | some u =>
          rcases mv.new D u z with z | z | z
          · rw [fD2] at z; cases z
          · rw [hD2] at z; cases z
          · exact (nD2 z).elim
      have hdr : ds.drop i = d :: ds.drop (i + 1) := by
        rw [List.drop_eq_getElem_cons hi]
        have : ds[i] = d := by rw [List.getElem?_eq_getElem hi] at hd; exact Option.some.inj hd
        rw [this]
      rw [hdr] at q2
      unfold lcL at q2
      obtain ⟨_, e4, w4, q2⟩ := bnd_inv q2
      obtain ⟨b, e5, t5, q2⟩ := bnd_inv q2
      refine ⟨e2, F3, d, er3, rd, ?_⟩
      rw [w4]
      intro σ4 H4 F4 er4 mv4 ws
      refine ⟨ws.trans (by refine List.ext_getElem? fun j => ?_; rw [wipe_get, wipe_get, wipe_length]; by_cases hj : j ∈ vs ∧ j < σ.length <;> simp only [hj, if_true, if_false, and_self]), e4, F4, er4, RunAt.of t5 fun H5 F5 er5 mv5 => ?_⟩
      cases b with
      | false =>
        rw [if_neg (by decide)] at q2 ⊢
        have mm := ((Mv.al er2 al).trans mv4).trans mv5
        obtain ⟨k1, k2, k3⟩ := keepD mm
        obtain ⟨er6, mv6⟩ := er5.wip (vs := vs) hT
        have wz : wipe σ4 vs = wipe σ vs := ws.trans (by refine List.ext_getElem? fun j => ?_; rw [wipe_get, wipe_get, wipe_length]; by_cases hj : j ∈ vs ∧ j < σ.length <;> simp only [hj, if_true, if_false, and_self])
        rw [wz] at er6 mv6
        have mm2 := mm.trans mv6
        obtain ⟨_, k2', _⟩ := keepD mm2
        exact ⟨_, F5, ac, xs, er6, mv2.trans mm2, k3, k2', k1, RpL.mono mm.sub _ _ rl2, q2⟩
      | true =>
        rw [if_pos rfl] at q2 ⊢
        obtain ⟨y', e6, el6, q2⟩ := bnd_inv q2
        refine ⟨e5, F5, er5, RunAt.of el6 fun H6 F6 er6 mv6 v hv => ?_⟩
        have mm := (((Mv.al er2 al).trans mv4).trans mv5).trans mv6
        obtain ⟨k1, k2, k3⟩ := keepD mm
        split at q2
        · rename_i hz
          obtain ⟨er7, mv7⟩ := er6.wip (vs := vs) hT
          have wz : wipe σ4 vs = wipe σ vs := ws.trans (by refine List.ext_getElem? fun j => ?_; rw [wipe_get, wipe_get, wipe_length]; by_cases hj : j ∈ vs ∧ j < σ.length <;> simp only [hj, if_true, if_false, and_self])
          rw [wz] at er7 mv7
          have mm2 := mm.trans mv7
          obtain ⟨_, k2', _⟩ := keepD mm2
          have rl6 := RpL.mono mm.sub _ _ rl2
          refine ⟨xs, k1, by rw [← rl2.len]; exact hz, _, F6, ac ++ [y'], xs ++ [v], er7.updFree k3 k2', (mv2.trans mm2).updNew hD, k3, k2', upd_same, rl6.append (by rw [rl_cons]; exact ⟨v, [], rfl, hv, by rw [rl_nil]⟩), q2⟩
        · cases q2
    · rintro H2 ⟨e2, F2, ac, xs, er2, mv2, fD2, nD2, hD2, rl2, q2⟩
      rw [List.drop_length] at q2
      have hl : e2.length = e1.length := by rw [er2.len, wipe_length, er1.len]
      cases q2
      obtain ⟨er3, mv3⟩ := er2.rst er1 mv2 hl
      refine h1 H2 F2 er3 mv3 D (mv1.there D hD) fD2 (fun z => nD2 (by
        obtain ⟨j, d, q1, q2⟩ := z
        rcases rst_get q1 (fun z => nomatch z) with ⟨g1, g2⟩ | ⟨⟨d', g1⟩, _⟩
        · exact ⟨j, d, g2, by rw [wipe_out g1]; exact q2⟩
        · cases g1)) ⟨xs, hD2, rl2⟩
theorem to_tv {K : PySem.W.Frag} {mg : Str → Option Value} {m : M D} {σ : St} {H : Hp} {Q : VK} (h : TV K mg T W m σ H Q) : TO K mg T W m σ H Q := by
  obtain ⟨e, F, er, q⟩ := h
  refine ⟨e, F, er, ?_⟩
  unfold RunAt at q ⊢
  cases z : m e with
  | ok d e1 =>
    rw [z] at q
    intro H' F' er' mv' p hp fp np ow
    obtain ⟨o, ho⟩ := ow.there
    refine q H' (upd F' p o) (er'.freeze fp np ho) ⟨mv'.sub.trans (same_upd fp), mv'.keep, fun a u ha => ?_, mv'.there⟩ _ (ow.rp fp ho)
    by_cases hb : a = p
    · subst hb; exact .inr (.inl hp)
    · rw [upd_ne hb] at ha; exact mv'.new a u ha
  | exc x e1 => rw [z] at q; exact q
  | bad => rw [z] at q; exact q
theorem Pl.blk {k : Nat} {s : Shared} {H : Hp} {scope : Scope} {en : Env} {fp : List Addr} (h : Pl X k) : Pl (X.blk s H scope en fp) k := ⟨h.room, h.gu⟩
section
variable {elt tg iter : Expr} {ifs : List Expr} {scope : Scope} {m : M (List D)} {w : D → M Unit} {t : M Bool} {el : M D} {k : Nat}
theorem jo_lc (own : List (Str × Nat)) (hp : Pl X k) (hc : X.calm = true) (hN : X.N.Nodup) (hT : T = none ∨ 0 ∉ own.map (·.2)) (ok : BlkOk X.N X.env.scope scope own) (hi : JI X T W tg iter m)
    (hg : ∀ (s : Shared) (H : Hp) (C : Addr) (cl : List (Str × Addr)) (fp : List Addr), Pl (X.blk s H scope (compEnvC scope cl C X.env) fp) k → JH (X.blk s H scope (compEnvC scope cl C X.env) fp) T (own.map (·.2)) tg w)
    (ht : ∀ (s : Shared) (H : Hp) (C : Addr) (cl : List (Str × Addr)) (fp : List Addr), Pl (X.blk s H scope (compEnvC scope cl C X.env) fp) k → JTs (X.blk s H scope (compEnvC scope cl C X.env) fp) T W0 ifs t)
    (he : ∀ (s : Shared) (H : Hp) (C : Addr) (cl : List (Str × Addr)) (fp : List Addr), Pl (X.blk s H scope (compEnvC scope cl C X.env) fp) k → JV (X.blk s H scope (compEnvC scope cl C X.env) fp) T W0 elt el) (hs : ∀ x, foldedSetIterable iter X.env x = pure x := by intro _; rfl) :
    JO X T W (.ListComp elt [⟨tg, iter, ifs, 0⟩] scope pos) (mLc (own.map (·.2)) m w t el) :=
  PEimp (pe_lc (g := TH X.K X.mg T (List.map (fun q : Str × Nat => q.2) own) w) (tt := TT' X.K X.mg T W0 t) (te := TV X.K X.mg T W0 el) hc hN hi ok (fun s H C cl fp => hg s H C cl fp hp.blk) (fun s H C cl fp => ht s H C cl fp hp.blk) (fun s H C cl fp => he s H C cl fp hp.blk) hs) fun σ H Q h => lc_imp hT h
theorem js_setLcO {i : Nat} {y : Str} {py spos : Pos} (own : List (Str × Nat)) (hp : Pl X k) (hc : X.calm = true) (hN : X.N.Nodup) (hT : T = none ∨ 0 ∉ own.map (·.2)) (ok : BlkOk X.N X.env.scope scope own) (hTi : T = none ∨ i ≠ 0) (hy : X.N[i]? = some y) (hyl : X.env.scope.names.lookup y = some .local)
    (hsw : swapsWith (.ListComp elt [⟨tg, iter, ifs, 0⟩] scope pos) (some (.Name y py)) spos.line X.env = pure true) (hi : JI X T W tg iter m)
    (hg : ∀ (s : Shared) (H : Hp) (C : Addr) (cl : List (Str × Addr)) (fp : List Addr), Pl (X.blk s H scope (compEnvC scope cl C X.env) fp) k → JH (X.blk s H scope (compEnvC scope cl C X.env) fp) T (own.map (·.2)) tg w)
    (ht : ∀ (s : Shared) (H : Hp) (C : Addr) (cl : List (Str × Addr)) (fp : List Addr), Pl (X.blk s H scope (compEnvC scope cl C X.env) fp) k → JTs (X.blk s H scope (compEnvC scope cl C X.env) fp) T W0 ifs t)
    (he : ∀ (s : Shared) (H : Hp) (C : Addr) (cl : List (Str × Addr)) (fp : List Addr), Pl (X.blk s H scope (compEnvC scope cl C X.env) fp) k → JV (X.blk s H scope (compEnvC scope cl C X.env) fp) T W0 elt el) (hs : ∀ x, foldedSetIterable iter X.env x = pure x := by intro _; rfl) :
    JS X T W (.Assign [.Name y py] (.ListComp elt [⟨tg, iter, ifs, 0⟩] scope pos) spos) (sSetO i (mLc (own.map (·.2)) m w t el)) :=
  PSimp (ps_setLc (g := TH X.K X.mg T (List.map (fun q : Str × Nat => q.2) own) w) (tt := TT' X.K X.mg T W0 t) (te := TV X.K X.mg T W0 el) hc hN hy hyl hsw hi ok (fun s H C cl fp => hg s H C cl fp hp.blk) (fun s H C cl fp => ht s H C cl fp hp.blk) (fun s H C cl fp => he s H C cl fp hp.blk) hs) fun Dn σ H h => lc_imp hT (run_setO hTi h)
theorem js_setLc {i : Nat} {y : Str} {py spos : Pos} (own : List (Str × Nat)) (hp : Pl X k) (hc : X.calm = true) (hN : X.N.Nodup) (hT : T = none ∨ 0 ∉ own.map (·.2)) (ok : BlkOk X.N X.env.scope scope own) (hTi : T = none ∨ i ≠ 0) (hy : X.N[i]? = some y) (hyl : X.env.scope.names.lookup y = some .local)
    (hsw : swapsWith (.ListComp elt [⟨tg, iter, ifs, 0⟩] scope pos) (some (.Name y py)) spos.line X.env = pure true) (hi : JI X T W tg iter m)
    (hg : ∀ (s : Shared) (H : Hp) (C : Addr) (cl : List (Str × Addr)) (fp : List Addr), Pl (X.blk s H scope (compEnvC scope cl C X.env) fp) k → JH (X.blk s H scope (compEnvC scope cl C X.env) fp) T (own.map (·.2)) tg w)
    (ht : ∀ (s : Shared) (H : Hp) (C : Addr) (cl : List (Str × Addr)) (fp : List Addr), Pl (X.blk s H scope (compEnvC scope cl C X.env) fp) k → JTs (X.blk s H scope (compEnvC scope cl C X.env) fp) T W0 ifs t)
    (he : ∀ (s : Shared) (H : Hp) (C : Addr) (cl : List (Str × Addr)) (fp : List Addr), Pl (X.blk s H scope (compEnvC scope cl C X.env) fp) k → JV (X.blk s H scope (compEnvC scope cl C X.env) fp) T W0 elt el) (hs : ∀ x, foldedSetIterable iter X.env x = pure x := by intro _; rfl) :
    JS X T W (.Assign [.Name y py] (.ListComp elt [⟨tg, iter, ifs, 0⟩] scope pos) spos) (sSet i (mLc (own.map (·.2)) m w t el)) :=
  PSimp (ps_setLc (g := TH X.K X.mg T (List.map (fun q : Str × Nat => q.2) own) w) (tt := TT' X.K X.mg T W0 t) (te := TV X.K X.mg T W0 el) hc hN hy hyl hsw hi ok (fun s H C cl fp => hg s H C cl fp hp.blk) (fun s H C cl fp => ht s H C cl fp hp.blk) (fun s H C cl fp => he s H C cl fp hp.blk) hs) fun Dn σ H h => lc_imp hT (to_tv (run_set hTi h))
end
end
end Sr
namespace Lw
open PySem hiding start
open PySem.Spec L2 Sr
open PyProof.Rows hiding St
def top (i : Nat) : Stmt := PySem.Challenge.pw_statusrules_k46_nearest_windows.main.body.getD i (.Pass ⟨0, 0, 0, 0⟩)
def isl_int : List (Str × Bool) := [("Limits", false)]
def isB_int : D → Option Bool := gIsi tInt fun c => isl_int.lookup c
def isl_bool : List (Str × Bool) := [("Limits", false)]
def isB_bool : D → Option Bool := gIsi (tOnly .bool) fun c => isl_bool.lookup c
def isl_Limits : List (Str × Bool) := [("Limits", true)]
def isC_Limits : D → Option Bool := gIsi (fun _ => some false) fun c => isl_Limits.lookup c
abbrev st__law_pen : Stmt := top 27
def b__law_pen : M Fl :=
  (sRetO (mLst (mCons (mCal gMax2 (mCons (ret (.int 0)) (mCons (m2 gSub (mN 0) (m2 gPow (ret (.int 10)) (ret (.int 18)))) mNil))) (mCons (m2 gAdd (m2 gMod (mCal gInt1 (mCons (mN 0) mNil)) (ret (.int 2147483629))) (ret (.int 1))) (mCons (ret (.int 0)) mNil)))))
def f__law_pen : Fnc := mkF0 1 true b__law_pen
abbrev st__law_cell_at : Stmt := top 26
def b__law_cell_at : M Fl :=
  (sq (sIf (mT (m2 gLt (mN 1) (m1 gLen (mN 0)))) (sRet (m2 gIx (mN 0) (mN 1))) skp)
    (sRet (ret (.int 0))))
def f__law_cell_at : Fnc := mkF0 2 false b__law_cell_at
abbrev st__law_draw : Stmt := top 28
def b__law_draw : M Fl :=
  (sq (sIf (mT (m2 gGt (m2b gIx (mNB 0) (ret (.int 0))) (ret (.int 0)))) (sq (sSet 2 (m2 gMod (mCal gInt1 (mCons (m2b gIx (mNB 0) (ret (.int 0))) mNil)) (mN 1)))
    (sq (sPutI 0 (ret (.int 0)) (m2 gDiv (m2b gIx (mNB 0) (ret (.int 0))) (mN 1)))
    (sRet (mN 2)))) skp)
    (sq (sPutI 0 (ret (.int 2)) (m2 gAdd (m2b gIx (mNB 0) (ret (.int 2))) (ret (.int 1))))
    (sq (sPutI 0 (ret (.int 1)) (m2 gMod (mCal gInt1 (mCons (m2 gAdd (m2 gAdd (m2 gMul (m2b gIx (mNB 0) (ret (.int 1))) (ret (.int 48271))) (m2 gMul (ret (.int 1009)) (m2b gIx (mNB 0) (ret (.int 2))))) (ret (.int 7))) mNil)) (ret (.int 2147483647))))
    (sq (sSet 3 (m2 gMod (mCal gInt1 (mCons (m2 gAdd (m2 gAdd (m2 gMul (m2b gIx (mNB 0) (ret (.int 1))) (m2b gIx (mNB 0) (ret (.int 1)))) (m2 gMul (ret (.int 69621)) (m2b gIx (mNB 0) (ret (.int 1))))) (ret (.int 11))) mNil)) (ret (.int 2147483629))))
    (sq (sSet 3 (m2 gMod (mCal gInt1 (mCons (m2 gAdd (m2 gMul (mN 3) (mN 3)) (m2 gMul (ret (.int 40014)) (mN 3))) mNil)) (ret (.int 2147483587))))
    (sRet (m2 gMod (mCal gInt1 (mCons (m2 gDiv (mN 3) (ret (.int 16))) mNil)) (mN 1))))))))
def f__law_draw : Fnc := mkF1 4 false b__law_draw
abbrev st__law_pick : Stmt := top 32
def b__law_pick : M Fl :=
  (sRet (m2 gIx (mN 1) (mC1 f__law_draw 0 [] (mCons (m1 gLen (mN 1)) mNil))))
def f__law_pick : Fnc := mkF1 2 false b__law_pick
abbrev st__law_numbers : Stmt := top 29
def b__law_numbers : M Fl :=
  (sq (sSet 2 (m2 gAdd (ret (.int 1)) (mC1 f__law_draw 0 [] (mCons (mN 1) mNil))))
    (sq (sSet 3 (mCal gMin2 (mCons (ret (.int 6)) (mCons (m2 gAdd (mN 2) (ret (.int 2))) mNil))))
    (sRet (mTup (mCons (mC1 f__law_draw 0 [] (mCons (mN 3) mNil)) (mCons (mC1 f__law_draw 0 [] (mCons (mN 3) mNil)) (mCons (mN 2) (mCons (m2 gAdd (ret (.int 1)) (mC1 f__law_draw 0 [] (mCons (ret (.int 4)) mNil))) mNil))))))))
def f__law_numbers : Fnc := mkF1 4 false b__law_numbers
abbrev st_is_integer : Stmt := top 6
def b_is_integer : M Fl :=
  (sRet (mAndV (mIsi isB_int (mN 0)) (mNotV (mIsi isB_bool (mN 0)))))
def f_is_integer : Fnc := mkF0 1 false b_is_integer
abbrev st_is_between : Stmt := top 7
def b_is_between : M Fl :=
  (sRet (mAndV (mC0 f_is_integer [] (mCons (mN 0) mNil)) (mChain gLe gLe (mN 1) (mN 0) (mN 2))))
def f_is_between : Fnc := mkF0 3 false b_is_between
abbrev st_LimitsU_initU : Stmt := inClass (top 15) 0
def l_LimitsU_initU_1 : M Fl :=
  (sIf (mNot (mT (mC0 f_is_between [] (mCons (mN 6) (mCons (mN 7) (mCons (mN 8) mNil)))))) sNever skp)
def b_LimitsU_initU : M Fl :=
  (sq (sSet 5 (mTup (mCons (mTup (mCons (mN 1) (mCons (ret (.int 0)) (mCons (ret (.int 5)) mNil)))) (mCons (mTup (mCons (mN 2) (mCons (ret (.int 0)) (mCons (ret (.int 5)) mNil)))) (mCons (mTup (mCons (mN 3) (mCons (ret (.int 1)) (mCons (ret (.int 5)) mNil)))) mNil)))))
    (sq (sFor (mItems (m2 gAdd (mN 5) (mTup (mCons (mTup (mCons (mN 4) (mCons (ret (.int 1)) (mCons (ret (.int 4)) mNil)))) mNil)))) (gT 3 (gsC (gN 6) (gsC (gN 7) (gsC (gN 8) gsN)))) l_LimitsU_initU_1)
    (sq (sAsg (mTup (mCons (mN 1) (mCons (mN 2) mNil))) (gT 2 (gsC (gA 0 "Limits" "most_passes") (gsC (gA 0 "Limits" "most_fails") gsN))))
    (sAsg (mTup (mCons (mN 3) (mCons (mN 4) mNil))) (gT 2 (gsC (gA 0 "Limits" "most_checks") (gsC (gA 0 "Limits" "least_stay") gsN)))))))
def f_LimitsU_initU : Fnc := mkF1 9 false b_LimitsU_initU
abbrev st__law_limits : Stmt := top 30
def b__law_limits : M Fl :=
  (sRet (mMk "Limits" f_LimitsU_initU (fun ds es => ds ++ es) (mCons (m2 gIx (mN 0) (ret (.int 0))) (mCons (m2 gIx (mN 0) (ret (.int 1))) (mCons (m2 gIx (mN 0) (ret (.int 2))) mNil))) (mCons (m2 gIx (mN 0) (ret (.int 3))) mNil)))
def f__law_limits : Fnc := mkF0 1 false b__law_limits
abbrev st__law_errors : Stmt := top 33
def t__law_errors_1 : M Bool :=
  (mT (m2 gLt (m2 gMod (mCal gInt1 (mCons (mN 3) mNil)) (mN 1)) (mN 0)))
def e__law_errors_1 : M D :=
  (ret (.int 1))
def b__law_errors : M Fl :=
  (sRet (m1 gLen (mLc [3] (mRng (mCons (mN 2) mNil)) (gN 3) t__law_errors_1 e__law_errors_1)))
def f__law_errors : Fnc := mkF0 4 false b__law_errors
abbrev st__law_bound : Stmt := top 34
def l__law_bound_1 : M Fl :=
  (sIf (mT (m2 gLt (m2 gAdd (m2 gSub (mN 2) (mN 4)) (mC0 f__law_errors [] (mCons (mN 0) (mCons (mN 1) (mCons (mN 4) mNil))))) (mN 3))) (sRet (mN 4)) skp)
def b__law_bound : M Fl :=
  (sq (sFor (mRng (mCons (m2 gAdd (mN 2) (ret (.int 1))) mNil)) (gN 4) l__law_bound_1)
    (sRet (ret .non)))
def f__law_bound : Fnc := mkF0 5 false b__law_bound
abbrev st__law_is_wished : Stmt := top 35
def b__law_is_wished : M Fl :=
  (sq (sSet 5 (mC0 f__law_bound [] (mCons (mN 0) (mCons (mN 1) (mCons (mN 2) (mCons (mN 3) mNil))))))
    (sRet (mAndV (mNotN (mN 5)) (m2 gLe (mN 5) (mN 4)))))
def f__law_is_wished : Fnc := mkF0 6 false b__law_is_wished
abbrev st__law_due : Stmt := top 36
def l__law_due_1 : M Fl :=
  (sIf (mT (mC0 f__law_is_wished [] (mCons (m2 gIx (mN 0) (ret (.int 1))) (mCons (m2 gIx (mN 0) (ret (.int 2))) (mCons (mN 6) (mCons (m2 gAdd (m2 gSub (mN 6) (mN 7)) (ret (.int 1))) (mCons (mN 3) mNil))))))) (sIf (mT (mC0 f__law_is_wished [] (mCons (m2 gIx (mN 0) (ret (.int 0))) (mCons (m2 gIx (mN 0) (ret (.int 2))) (mCons (mN 6) (mCons (mN 7) (mCons (mN 4) mNil))))))) (sq (sSet 8 (m2 gAdd (mCal gAbs (mCons (m2 gSub (mN 6) (mN 1)) mNil)) (mCal gAbs (mCons (m2 gSub (mN 7) (mN 2)) mNil))))
    (sIf (mOr (mT (mIsN (mN 5))) (mT (m2 gLt (mN 8) (m2 gIx (mN 5) (ret (.int 0)))))) (sSet 5 (mTup (mCons (mN 8) (mCons (mN 6) (mCons (mN 7) mNil))))) skp)) skp) skp)
def l__law_due_2 : M Fl :=
  (sFor (mRng2 (mCons (ret (.int 1)) (mCons (m2 gAdd (mN 6) (ret (.int 1))) mNil))) (gN 7) l__law_due_1)
def b__law_due : M Fl :=
  (sq (sSet 5 (ret .non))
    (sq (sFor (mRng2 (mCons (ret (.int 1)) (mCons (ret (.int 7)) mNil))) (gN 6) l__law_due_2)
    (sRet (mN 5))))
def f__law_due : Fnc := mkF0 9 false b__law_due
abbrev st_check_limits : Stmt := top 16
def b_check_limits : M Fl :=
  (sIf (mNot (mT (mIsi isC_Limits (mN 0)))) sNever skp)
def f_check_limits : Fnc := mkF0 1 false b_check_limits
abbrev st_check_number : Stmt := top 10
def b_check_number : M Fl :=
  (sIf (mNot (mT (mC0 f_is_between [] (mCons (mN 0) (mCons (mN 1) (mCons (mN 2) mNil)))))) sNever skp)
def f_check_number : Fnc := mkF0 3 false b_check_number
abbrev st_check_wish : Stmt := top 19
def b_check_wish : M Fl :=
  (sq (sDrop (mC0 f_check_number [] (mCons (mN 0) (mCons (ret (.int 0)) (mCons (ret (.int 99)) mNil)))))
    (sDrop (mC0 f_check_number [] (mCons (mN 1) (mCons (ret (.int 0)) (mCons (ret (.int 99)) mNil))))))
def f_check_wish : Fnc := mkF0 2 false b_check_wish
abbrev st_most_errors : Stmt := top 21
def b_most_errors : M Fl :=
  (sRet (m2 gAdd (m2 gMul (mN 0) (m2 gDiv (mN 2) (mN 1))) (mCal gMin2 (mCons (mCal gInt1 (mCons (mN 0) mNil)) (mCons (m2 gMod (mCal gInt1 (mCons (mN 2) mNil)) (mN 1)) mNil)))))
def f_most_errors : Fnc := mkF0 3 false b_most_errors
abbrev st_window_bound : Stmt := top 22
def t_window_bound_1 : M Bool :=
  (mT (m2 gGe (m2 gAdd (m2 gSub (mN 2) (mN 5)) (mC0 f_most_errors [] (mCons (mN 0) (mCons (mN 1) (mCons (mN 5) mNil))))) (mN 3)))
def e_window_bound_1 : M D :=
  (mN 5)
def b_window_bound : M Fl :=
  (sq (sIf (mT (m2 gGe (mC0 f_most_errors [] (mCons (mN 0) (mCons (mN 1) (mCons (mN 2) mNil)))) (mN 3))) (sRet (ret .non)) skp)
    (sq (sSet 4 (mLc [5] (mRng (mCons (mN 2) mNil)) (gN 5) t_window_bound_1 e_window_bound_1))
    (sRet (m2 gAdd (m2 gIx (mN 4) (m1 gNeg (ret (.int 1)))) (ret (.int 1))))))
def f_window_bound : Fnc := mkF0 6 false b_window_bound
abbrev st_is_within : Stmt := top 20
def b_is_within : M Fl :=
  (sRet (mAndV (mNotN (mN 0)) (m2 gLe (mN 0) (mN 1))))
def f_is_within : Fnc := mkF0 2 false b_is_within
abbrev st_nearest : Stmt := top 23
def l_nearest_1 : M Fl :=
  (sq (sSet 5 (mTup (mCons (m2 gAdd (mCal gAbs (mCons (m2 gSub (mN 3) (m2 gIx (mN 0) (ret (.int 0)))) mNil)) (mCal gAbs (mCons (m2 gSub (mN 4) (m2 gIx (mN 0) (ret (.int 1)))) mNil))) (mCons (mN 3) (mCons (mN 4) mNil)))))
    (sIf (mOr (mT (mIsN (mN 2))) (mT (m2 gLt (mN 5) (mN 2)))) (sSet 2 (mN 5)) skp))
def b_nearest : M Fl :=
  (sq (sSet 2 (ret .non))
    (sq (sFor (mItems (mN 1)) (gT 2 (gsC (gN 3) (gsC (gN 4) gsN))) l_nearest_1)
    (sRet (mN 2))))
def f_nearest : Fnc := mkF0 6 false b_nearest
abbrev st_nearest_window : Stmt := top 24
def l_nearest_window_1 : M Fl :=
  (sq (sSet 8 (mC0 f_window_bound [] (mCons (m1 (gFld "Limits" "most_fails") (mN 0)) (mCons (m1 (gFld "Limits" "most_checks") (mN 0)) (mCons (mN 6) (mCons (m2 gAdd (m2 gSub (mN 6) (mN 7)) (ret (.int 1))) mNil))))))
    (sq (sSet 9 (mC0 f_window_bound [] (mCons (m1 (gFld "Limits" "most_passes") (mN 0)) (mCons (m1 (gFld "Limits" "most_checks") (mN 0)) (mCons (mN 6) (mCons (mN 7) mNil))))))
    (sIf (mAnd (mT (mC0 f_is_within [] (mCons (mN 8) (mCons (mN 3) mNil)))) (mT (mC0 f_is_within [] (mCons (mN 9) (mCons (mN 4) mNil))))) (sApp 5 (mTup (mCons (mN 6) (mCons (mN 7) mNil)))) skp)))
def l_nearest_window_2 : M Fl :=
  (sFor (mRng2 (mCons (ret (.int 1)) (mCons (m2 gAdd (mN 6) (ret (.int 1))) mNil))) (gN 7) l_nearest_window_1)
def b_nearest_window : M Fl :=
  (sq (sDrop (mC0 f_check_limits [] (mCons (mN 0) mNil)))
    (sq (sDrop (mC0 f_check_number [] (mCons (mN 1) (mCons (ret (.int 1)) (mCons (ret (.int 6)) mNil)))))
    (sq (sDrop (mC0 f_check_number [] (mCons (mN 2) (mCons (ret (.int 1)) (mCons (mN 1) mNil)))))
    (sq (sDrop (mC0 f_check_wish [] (mCons (mN 3) (mCons (mN 4) mNil))))
    (sq (sSetO 5 (mLst mNil))
    (sq (sFor (mRng2 (mCons (ret (.int 1)) (mCons (m2 gAdd (ret (.int 6)) (ret (.int 1))) mNil))) (gN 6) l_nearest_window_2)
    (sRet (mC0 f_nearest [] (mCons (mTup (mCons (mN 1) (mCons (mN 2) mNil))) (mCons (mN 5) mNil))))))))))
def f_nearest_window : Fnc := mkF0 10 false b_nearest_window
abbrev st__law_same : Stmt := top 31
def b__law_same : M Fl :=
  (sRet (m2 gEq (m1 gRepr (mN 0)) (m1 gRepr (mN 1))))
def f__law_same : Fnc := mkF0 2 false b__law_same
abbrev st_law : Stmt := top 37
def l_law_1 : M Fl :=
  (sq (sSet 4 (mLst (mCons (mTup (mCons (mC1 f__law_draw 2 [] (mCons (ret (.int 2)) mNil)) (mCons (mC1 f__law_draw 2 [] (mCons (ret (.int 2)) mNil)) (mCons (m2 gAdd (ret (.int 2)) (mC1 f__law_draw 2 [] (mCons (ret (.int 4)) mNil))) (mCons (ret (.int 1)) mNil))))) (mCons (mTup (mCons (ret (.int 1)) (mCons (ret (.int 1)) (mCons (ret (.int 3)) (mCons (ret (.int 2)) mNil))))) (mCons (mTup (mCons (ret (.int 2)) (mCons (ret (.int 0)) (mCons (ret (.int 3)) (mCons (ret (.int 1)) mNil))))) mNil)))))
    (sq (sSet 5 (mC1 f__law_pick 2 [] (mCons (m2 gAdd (mLst (mCons (mC1 f__law_numbers 2 [] (mCons (ret (.int 5)) mNil)) mNil)) (mN 4)) mNil)))
    (sq (sPar (mCons (mC0 f__law_limits [] (mCons (mN 5) mNil)) (mCons (m2 gAdd (ret (.int 1)) (mC1 f__law_draw 2 [] (mCons (ret (.int 6)) mNil))) mNil)) (gsC (gN 6) (gsC (gN 7) gsN)))
    (sq (sPar (mCons (m2 gAdd (ret (.int 1)) (mC1 f__law_draw 2 [] (mCons (mN 7) mNil))) (mCons (mC1 f__law_pick 2 [] (mCons (mLst (mCons (ret (.int 99)) (mCons (mC1 f__law_draw 2 [] (mCons (ret (.int 8)) mNil)) mNil))) mNil)) (mCons (mC1 f__law_draw 2 [] (mCons (ret (.int 9)) mNil)) mNil))) (gsC (gN 8) (gsC (gN 9) (gsC (gN 10) gsN))))
    (sq (sSet 11 (mC0 f__law_due [] (mCons (mN 5) (mCons (mN 7) (mCons (mN 8) (mCons (mN 9) (mCons (mN 10) mNil)))))))
    (sq (sSet 12 (mLst (mCons (mC0 f_nearest_window [] (mCons (mN 6) (mCons (mN 7) (mCons (mN 8) (mCons (mN 9) (mCons (mN 10) mNil)))))) (mCons (mC0 f_nearest_window [] (mCons (mN 6) (mCons (mN 7) (mCons (mN 8) (mCons (mN 9) (mCons (mN 10) mNil)))))) mNil))))
    (sIf (mNot (mT (mC0 f__law_same [] (mCons (mN 12) (mCons (mLst (mCons (mN 11) (mCons (mN 11) mNil))) mNil))))) (sRet (ret (.bl false))) skp)))))))
def l_law_2 : M Fl :=
  (sq (sSetO 2 (mC0 f__law_pen [] (mCons (mC0 f__law_cell_at [] (mCons (mN 0) (mCons (mN 1) mNil))) mNil)))
    (sFor (mRng (mCons (ret (.int 6)) mNil)) (gN 3) l_law_1))
def b_law : M Fl :=
  (sq (sFor (mRng (mCons (mCal gMax2 (mCons (ret (.int 1)) (mCons (mCal gMin2 (mCons (m1 gLen (mN 0)) (mCons (ret (.int 3)) mNil))) mNil))) mNil)) (gN 1) l_law_2)
    (sRet (ret (.bl true))))
def f_law : Fnc := mkF0 13 false b_law
abbrev st_Limits_false_fails : Stmt := inClass (top 15) 2
abbrev st_Limits_span : Stmt := inClass (top 15) 3
abbrev st_Limits_false_passes : Stmt := inClass (top 15) 1
end Lw
namespace Lw
open PySem hiding start
open L2 Sr
theorem s_pen (c : Int) : ∃ o, f__law_pen .non [.int c] = .ok o .non ∧ PenOk o := by
  refine ⟨.lst [.int (if c - 10 ^ 18 > 0 then c - 10 ^ 18 else 0), .int (c % 2147483629 + 1), .int 0], ?_, _, _, _, rfl, ?_, ?_, ?_⟩
  · have h : cPow 10 18 = true := by decide
    simp [f__law_pen, b__law_pen, h, sizeLine, mkF0, mkF1, fin0, fin1, st0, st1, bnd, Sr.ret, opt, mN, mNB, mB, der, m1, m2, m2b, m2r, mT, asB, mChain, mAnd, mOr, mNot, mAndV, mOrV, mNotV, mIf, mNil, mCons, mTup, mLst, mIsN, mNotN, isNon, mCal, mCal1, mIsi, mFldB, gFld, mC0, mC1, ap0, ap1, chkO, chkL, putL, mMk, apM, skp, sq, sDrop, sRet, sRetO, sIf, sSet, sSetO, sAsg, sPar, gN, gsN, gsC, gT, gA, sApp, sPutI, sNever, mItems, dItems, mRng, mRng2, gRng, gRng2, sFor, turn, gI, gI0, gLt, gLe, gGt, gGe, gAdd, gAddI, gAddS, gAddT, gAddL, Sr.gSub, gMul, gMulI, gDiv, gMod, gPow, gNeg, gEq, gNe, dEq, eqS, gLen, gInt1, gMax2, gMin2, gAbs, gIx, gLtT, dInts, putD, gIsi, dKind, tInt, tOnly, List.map_cons, List.map_nil, List.length_cons, List.length_nil, List.cons_append, List.nil_append, List.getElem?_cons_zero, List.getElem?_cons_succ, List.set_cons_zero, List.set_cons_succ, List.replicate, Option.some_or, Option.none_or, Option.map_some, Option.map_none, Option.bind_some, Option.bind_none]
  · split <;> omega
  · omega
  · omega
theorem s_draw (o : D) (many : Int) (hv : PenOk o) (h0 : 0 < many) (h1 : many < 1073741824) : ∃ r o', f__law_draw o [.int many] = .ok (.int r) o' ∧ 0 ≤ r ∧ r < many ∧ PenOk o' := by
  obtain ⟨a, b, c, rfl, ha, hb, hb2⟩ := hv
  have hd : ∀ x, cDiv x many = true := fun x => by unfold cDiv; simp; omega
  by_cases h : 0 < a
  · refine ⟨a % many, .lst [.int (a / many), .int b, .int c], ?_, Int.emod_nonneg _ (by omega), Int.emod_lt_of_pos _ h0, _, _, _, rfl, Int.ediv_nonneg ha (by omega), hb, hb2⟩
    simp [f__law_draw, b__law_draw, h, h0, hd, atI, ixN, mkF0, mkF1, fin0, fin1, st0, st1, bnd, Sr.ret, opt, mN, mNB, mB, der, m1, m2, m2b, m2r, mT, asB, mChain, mAnd, mOr, mNot, mAndV, mOrV, mNotV, mIf, mNil, mCons, mTup, mLst, mIsN, mNotN, isNon, mCal, mCal1, mIsi, mFldB, gFld, mC0, mC1, ap0, ap1, chkO, chkL, putL, mMk, apM, skp, sq, sDrop, sRet, sRetO, sIf, sSet, sSetO, sAsg, sPar, gN, gsN, gsC, gT, gA, sApp, sPutI, sNever, mItems, dItems, mRng, mRng2, gRng, gRng2, sFor, turn, gI, gI0, gLt, gLe, gGt, gGe, gAdd, gAddI, gAddS, gAddT, gAddL, Sr.gSub, gMul, gMulI, gDiv, gMod, gPow, gNeg, gEq, gNe, dEq, eqS, gLen, gInt1, gMax2, gMin2, gAbs, gIx, gLtT, dInts, putD, gIsi, dKind, tInt, tOnly, List.map_cons, List.map_nil, List.length_cons, List.length_nil, List.cons_append, List.nil_append, List.getElem?_cons_zero, List.getElem?_cons_succ, List.set_cons_zero, List.set_cons_succ, List.replicate, Option.some_or, Option.none_or, Option.map_some, Option.map_none, Option.bind_some, Option.bind_none]
  · generalize hb' : (b * 48271 + 1009 * (c + 1) + 7) % 2147483647 = b'
    have e1 : 0 ≤ b' ∧ b' < 2147483647 := by omega
    generalize hm : (b' * b' + 69621 * b' + 11) % 2147483629 = m
    have e2 : 0 ≤ m ∧ m < 2147483629 := by omega
    have c1 : cMul b 48271 = true := cmul_l (by omega) (by omega)
    have c2 : cMul 1009 (c + 1) = true := cmul_l (by omega) (by omega)
    have c3 : cMul b' b' = true := cmul_l (by omega) (by omega)
    have c4 : cMul 69621 b' = true := cmul_l (by omega) (by omega)
    have c5 : cMul m m = true := cmul_l (by omega) (by omega)
    have c6 : cMul 40014 m = true := cmul_l (by omega) (by omega)
    have c7 : ∀ x, cDiv x 16 = true := fun x => by unfold cDiv; simp
    refine ⟨((m * m + 40014 * m) % 2147483587 / 16) % many, .lst [.int a, .int b', .int (c + 1)], ?_, Int.emod_nonneg _ (by omega), Int.emod_lt_of_pos _ h0, _, _, _, rfl, ha, by omega, by omega⟩
    simp [f__law_draw, b__law_draw, h, h0, hd, hb', hm, c1, c2, c3, c4, c5, c6, c7, atI, ixN, mkF0, mkF1, fin0, fin1, st0, st1, bnd, Sr.ret, opt, mN, mNB, mB, der, m1, m2, m2b, m2r, mT, asB, mChain, mAnd, mOr, mNot, mAndV, mOrV, mNotV, mIf, mNil, mCons, mTup, mLst, mIsN, mNotN, isNon, mCal, mCal1, mIsi, mFldB, gFld, mC0, mC1, ap0, ap1, chkO, chkL, putL, mMk, apM, skp, sq, sDrop, sRet, sRetO, sIf, sSet, sSetO, sAsg, sPar, gN, gsN, gsC, gT, gA, sApp, sPutI, sNever, mItems, dItems, mRng, mRng2, gRng, gRng2, sFor, turn, gI, gI0, gLt, gLe, gGt, gGe, gAdd, gAddI, gAddS, gAddT, gAddL, Sr.gSub, gMul, gMulI, gDiv, gMod, gPow, gNeg, gEq, gNe, dEq, eqS, gLen, gInt1, gMax2, gMin2, gAbs, gIx, gLtT, dInts, putD, gIsi, dKind, tInt, tOnly, List.map_cons, List.map_nil, List.length_cons, List.length_nil, List.cons_append, List.nil_append, List.getElem?_cons_zero, List.getElem?_cons_succ, List.set_cons_zero, List.set_cons_succ, List.replicate, Option.some_or, Option.none_or, Option.map_some, Option.map_none, Option.bind_some, Option.bind_none]
theorem s_cell (ns : List Int) (k : Int) (hk : 0 ≤ k) : ∃ c, f__law_cell_at .non [.scr ns, .int k] = .ok (.int c) .non := by
  by_cases h : k < ns.length
  · have hi : k.toNat < ns.length := by omega
    refine ⟨ns[k.toNat], ?_⟩
    simp [f__law_cell_at, b__law_cell_at, h, hk, hi, atI, ixN, mkF0, mkF1, fin0, fin1, st0, st1, bnd, Sr.ret, opt, mN, mNB, mB, der, m1, m2, m2b, m2r, mT, asB, mChain, mAnd, mOr, mNot, mAndV, mOrV, mNotV, mIf, mNil, mCons, mTup, mLst, mIsN, mNotN, isNon, mCal, mCal1, mIsi, mFldB, gFld, mC0, mC1, ap0, ap1, chkO, chkL, putL, mMk, apM, skp, sq, sDrop, sRet, sRetO, sIf, sSet, sSetO, sAsg, sPar, gN, gsN, gsC, gT, gA, sApp, sPutI, sNever, mItems, dItems, mRng, mRng2, gRng, gRng2, sFor, turn, gI, gI0, gLt, gLe, gGt, gGe, gAdd, gAddI, gAddS, gAddT, gAddL, Sr.gSub, gMul, gMulI, gDiv, gMod, gPow, gNeg, gEq, gNe, dEq, eqS, gLen, gInt1, gMax2, gMin2, gAbs, gIx, gLtT, dInts, putD, gIsi, dKind, tInt, tOnly, List.map_cons, List.map_nil, List.length_cons, List.length_nil, List.cons_append, List.nil_append, List.getElem?_cons_zero, List.getElem?_cons_succ, List.set_cons_zero, List.set_cons_succ, List.replicate, Option.some_or, Option.none_or, Option.map_some, Option.map_none, Option.bind_some, Option.bind_none]
  · refine ⟨0, ?_⟩
    simp [f__law_cell_at, b__law_cell_at, h, mkF0, mkF1, fin0, fin1, st0, st1, bnd, Sr.ret, opt, mN, mNB, mB, der, m1, m2, m2b, m2r, mT, asB, mChain, mAnd, mOr, mNot, mAndV, mOrV, mNotV, mIf, mNil, mCons, mTup, mLst, mIsN, mNotN, isNon, mCal, mCal1, mIsi, mFldB, gFld, mC0, mC1, ap0, ap1, chkO, chkL, putL, mMk, apM, skp, sq, sDrop, sRet, sRetO, sIf, sSet, sSetO, sAsg, sPar, gN, gsN, gsC, gT, gA, sApp, sPutI, sNever, mItems, dItems, mRng, mRng2, gRng, gRng2, sFor, turn, gI, gI0, gLt, gLe, gGt, gGe, gAdd, gAddI, gAddS, gAddT, gAddL, Sr.gSub, gMul, gMulI, gDiv, gMod, gPow, gNeg, gEq, gNe, dEq, eqS, gLen, gInt1, gMax2, gMin2, gAbs, gIx, gLtT, dInts, putD, gIsi, dKind, tInt, tOnly, List.map_cons, List.map_nil, List.length_cons, List.length_nil, List.cons_append, List.nil_append, List.getElem?_cons_zero, List.getElem?_cons_succ, List.set_cons_zero, List.set_cons_succ, List.replicate, Option.some_or, Option.none_or, Option.map_some, Option.map_none, Option.bind_some, Option.bind_none]
theorem s_numbers (o : D) (hv : PenOk o) : ∃ a b c d o', f__law_numbers o [.int 5] = .ok (.tup [.int a, .int b, .int c, .int d]) o' ∧ (0 ≤ a ∧ a ≤ 5) ∧ (0 ≤ b ∧ b ≤ 5) ∧ (1 ≤ c ∧ c ≤ 5) ∧ (1 ≤ d ∧ d ≤ 4) ∧ PenOk o' := by
  obtain ⟨r1, o1, e1, h1, h1', v1⟩ := s_draw o 5 hv (by omega) (by omega)
  obtain ⟨r2, o2, e2, h2, h2', v2⟩ := s_draw o1 (if 1 + r1 + 2 < 6 then 1 + r1 + 2 else 6) v1 (by split <;> omega) (by split <;> omega)
  obtain ⟨r3, o3, e3, h3, h3', v3⟩ := s_draw o2 (if 1 + r1 + 2 < 6 then 1 + r1 + 2 else 6) v2 (by split <;> omega) (by split <;> omega)
  obtain ⟨r4, o4, e4, h4, h4', v4⟩ := s_draw o3 4 v3 (by omega) (by omega)
  refine ⟨r2, r3, 1 + r1, 1 + r4, o4, ?_, by split at h2' <;> omega, by split at h3' <;> omega, by omega, by omega, v4⟩
  simp [f__law_numbers, b__law_numbers, e1, e2, e3, e4, sizeLine, mkF0, mkF1, fin0, fin1, st0, st1, bnd, Sr.ret, opt, mN, mNB, mB, der, m1, m2, m2b, m2r, mT, asB, mChain, mAnd, mOr, mNot, mAndV, mOrV, mNotV, mIf, mNil, mCons, mTup, mLst, mIsN, mNotN, isNon, mCal, mCal1, mIsi, mFldB, gFld, mC0, mC1, ap0, ap1, chkO, chkL, putL, mMk, apM, skp, sq, sDrop, sRet, sRetO, sIf, sSet, sSetO, sAsg, sPar, gN, gsN, gsC, gT, gA, sApp, sPutI, sNever, mItems, dItems, mRng, mRng2, gRng, gRng2, sFor, turn, gI, gI0, gLt, gLe, gGt, gGe, gAdd, gAddI, gAddS, gAddT, gAddL, Sr.gSub, gMul, gMulI, gDiv, gMod, gPow, gNeg, gEq, gNe, dEq, eqS, gLen, gInt1, gMax2, gMin2, gAbs, gIx, gLtT, dInts, putD, gIsi, dKind, tInt, tOnly, List.map_cons, List.map_nil, List.length_cons, List.length_nil, List.cons_append, List.nil_append, List.getElem?_cons_zero, List.getElem?_cons_succ, List.set_cons_zero, List.set_cons_succ, List.replicate, Option.some_or, Option.none_or, Option.map_some, Option.map_none, Option.bind_some, Option.bind_none]
theorem s_pick (o : D) (ds : List D) (hv : PenOk o) (h0 : 0 < ds.length) (h1 : ds.length < 100) : ∃ d o', f__law_pick o [.lst ds] = .ok d o' ∧ d ∈ ds ∧ PenOk o' := by
  obtain ⟨r, o1, e1, h2, h2', v1⟩ := s_draw o (ds.length : Int) hv (by omega) (by omega)
  have hi : r.toNat < ds.length := by omega
  refine ⟨ds[r.toNat], o1, ?_, List.getElem_mem hi, v1⟩
  simp [f__law_pick, b__law_pick, e1, atI, ixN, h2, h2', hi, mkF0, mkF1, fin0, fin1, st0, st1, bnd, Sr.ret, opt, mN, mNB, mB, der, m1, m2, m2b, m2r, mT, asB, mChain, mAnd, mOr, mNot, mAndV, mOrV, mNotV, mIf, mNil, mCons, mTup, mLst, mIsN, mNotN, isNon, mCal, mCal1, mIsi, mFldB, gFld, mC0, mC1, ap0, ap1, chkO, chkL, putL, mMk, apM, skp, sq, sDrop, sRet, sRetO, sIf, sSet, sSetO, sAsg, sPar, gN, gsN, gsC, gT, gA, sApp, sPutI, sNever, mItems, dItems, mRng, mRng2, gRng, gRng2, sFor, turn, gI, gI0, gLt, gLe, gGt, gGe, gAdd, gAddI, gAddS, gAddT, gAddL, Sr.gSub, gMul, gMulI, gDiv, gMod, gPow, gNeg, gEq, gNe, dEq, eqS, gLen, gInt1, gMax2, gMin2, gAbs, gIx, gLtT, dInts, putD, gIsi, dKind, tInt, tOnly, List.map_cons, List.map_nil, List.length_cons, List.length_nil, List.cons_append, List.nil_append, List.getElem?_cons_zero, List.getElem?_cons_succ, List.set_cons_zero, List.set_cons_succ, List.replicate, Option.some_or, Option.none_or, Option.map_some, Option.map_none, Option.bind_some, Option.bind_none]
theorem s_is_integer_int (a : Int) : f_is_integer .non [.int a] = .ok (.bl true) .non := rfl
theorem s_is_between (a lo hi : Int) : f_is_between .non [.int a, .int lo, .int hi] = .ok (.bl (decide (lo ≤ a) && decide (a ≤ hi))) .non := by
  by_cases h : lo ≤ a <;> simp [f_is_between, b_is_between, s_is_integer_int, h, mkF0, mkF1, fin0, fin1, st0, st1, bnd, Sr.ret, opt, mN, mNB, mB, der, m1, m2, m2b, m2r, mT, asB, mChain, mAnd, mOr, mNot, mAndV, mOrV, mNotV, mIf, mNil, mCons, mTup, mLst, mIsN, mNotN, isNon, mCal, mCal1, mIsi, mFldB, gFld, mC0, mC1, ap0, ap1, chkO, chkL, putL, mMk, apM, skp, sq, sDrop, sRet, sRetO, sIf, sSet, sSetO, sAsg, sPar, gN, gsN, gsC, gT, gA, sApp, sPutI, sNever, mItems, dItems, mRng, mRng2, gRng, gRng2, sFor, turn, gI, gI0, gLt, gLe, gGt, gGe, gAdd, gAddI, gAddS, gAddT, gAddL, Sr.gSub, gMul, gMulI, gDiv, gMod, gPow, gNeg, gEq, gNe, dEq, eqS, gLen, gInt1, gMax2, gMin2, gAbs, gIx, gLtT, dInts, putD, gIsi, dKind, tInt, tOnly, List.map_cons, List.map_nil, List.length_cons, List.length_nil, List.cons_append, List.nil_append, List.getElem?_cons_zero, List.getElem?_cons_succ, List.set_cons_zero, List.set_cons_succ, List.replicate, Option.some_or, Option.none_or, Option.map_some, Option.map_none, Option.bind_some, Option.bind_none]
theorem s_between {a lo hi : Int} (h1 : lo ≤ a) (h2 : a ≤ hi) : f_is_between .non [.int a, .int lo, .int hi] = .ok (.bl true) .non := by
  rw [s_is_between, decide_eq_true h1, decide_eq_true h2]; rfl
abbrev lim (a b c d : Int) : D := .obj "Limits" [("most_passes", .int a), ("most_fails", .int b), ("most_checks", .int c), ("least_stay", .int d)]
theorem s_init (a b c d : Int) (h1 : 0 ≤ a ∧ a ≤ 5) (h2 : 0 ≤ b ∧ b ≤ 5) (h3 : 1 ≤ c ∧ c ≤ 5) (h4 : 1 ≤ d ∧ d ≤ 4) : f_LimitsU_initU (.obj "Limits" []) [.int a, .int b, .int c, .int d] = .ok .non (lim a b c d) := by
  have n1 : ¬ (("most_passes" : Str) = "most_fails") := by decide
  have n2 : ¬ (("most_passes" : Str) = "most_checks") := by decide
  have n3 : ¬ (("most_fails" : Str) = "most_checks") := by decide
  have n4 : ¬ (("most_passes" : Str) = "least_stay") := by decide
  have n5 : ¬ (("most_fails" : Str) = "least_stay") := by decide
  have n6 : ¬ (("most_checks" : Str) = "least_stay") := by decide
  simp [f_LimitsU_initU, b_LimitsU_initU, l_LimitsU_initU_1, s_between h1.1 h1.2, s_between h2.1 h2.2, s_between h3.1 h3.2, s_between h4.1 h4.2, forL, lp, n1, n2, n3, n4, n5, n6, sizeLine, mkF0, mkF1, fin0, fin1, st0, st1, bnd, Sr.ret, opt, mN, mNB, mB, der, m1, m2, m2b, m2r, mT, asB, mChain, mAnd, mOr, mNot, mAndV, mOrV, mNotV, mIf, mNil, mCons, mTup, mLst, mIsN, mNotN, isNon, mCal, mCal1, mIsi, mFldB, gFld, mC0, mC1, ap0, ap1, chkO, chkL, putL, mMk, apM, skp, sq, sDrop, sRet, sRetO, sIf, sSet, sSetO, sAsg, sPar, gN, gsN, gsC, gT, gA, sApp, sPutI, sNever, mItems, dItems, mRng, mRng2, gRng, gRng2, sFor, turn, gI, gI0, gLt, gLe, gGt, gGe, gAdd, gAddI, gAddS, gAddT, gAddL, Sr.gSub, gMul, gMulI, gDiv, gMod, gPow, gNeg, gEq, gNe, dEq, eqS, gLen, gInt1, gMax2, gMin2, gAbs, gIx, gLtT, dInts, putD, gIsi, dKind, tInt, tOnly, List.map_cons, List.map_nil, List.length_cons, List.length_nil, List.cons_append, List.nil_append, List.getElem?_cons_zero, List.getElem?_cons_succ, List.set_cons_zero, List.set_cons_succ, List.replicate, Option.some_or, Option.none_or, Option.map_some, Option.map_none, Option.bind_some, Option.bind_none]
theorem s_limits (a b c d : Int) (h1 : 0 ≤ a ∧ a ≤ 5) (h2 : 0 ≤ b ∧ b ≤ 5) (h3 : 1 ≤ c ∧ c ≤ 5) (h4 : 1 ≤ d ∧ d ≤ 4) : f__law_limits .non [.tup [.int a, .int b, .int c, .int d]] = .ok (lim a b c d) .non := by
  simp [f__law_limits, b__law_limits, s_init a b c d h1 h2 h3 h4, atI, ixN, mkF0, mkF1, fin0, fin1, st0, st1, bnd, Sr.ret, opt, mN, mNB, mB, der, m1, m2, m2b, m2r, mT, asB, mChain, mAnd, mOr, mNot, mAndV, mOrV, mNotV, mIf, mNil, mCons, mTup, mLst, mIsN, mNotN, isNon, mCal, mCal1, mIsi, mFldB, gFld, mC0, mC1, ap0, ap1, chkO, chkL, putL, mMk, apM, skp, sq, sDrop, sRet, sRetO, sIf, sSet, sSetO, sAsg, sPar, gN, gsN, gsC, gT, gA, sApp, sPutI, sNever, mItems, dItems, mRng, mRng2, gRng, gRng2, sFor, turn, gI, gI0, gLt, gLe, gGt, gGe, gAdd, gAddI, gAddS, gAddT, gAddL, Sr.gSub, gMul, gMulI, gDiv, gMod, gPow, gNeg, gEq, gNe, dEq, eqS, gLen, gInt1, gMax2, gMin2, gAbs, gIx, gLtT, dInts, putD, gIsi, dKind, tInt, tOnly, List.map_cons, List.map_nil, List.length_cons, List.length_nil, List.cons_append, List.nil_append, List.getElem?_cons_zero, List.getElem?_cons_succ, List.set_cons_zero, List.set_cons_succ, List.replicate, Option.some_or, Option.none_or, Option.map_some, Option.map_none, Option.bind_some, Option.bind_none]
theorem s_check (v lo hi : Int) (h1 : lo ≤ v) (h2 : v ≤ hi) : f_check_number .non [.int v, .int lo, .int hi] = .ok .non .non := by
  simp [f_check_number, b_check_number, s_between h1 h2, mkF0, mkF1, fin0, fin1, st0, st1, bnd, Sr.ret, opt, mN, mNB, mB, der, m1, m2, m2b, m2r, mT, asB, mChain, mAnd, mOr, mNot, mAndV, mOrV, mNotV, mIf, mNil, mCons, mTup, mLst, mIsN, mNotN, isNon, mCal, mCal1, mIsi, mFldB, gFld, mC0, mC1, ap0, ap1, chkO, chkL, putL, mMk, apM, skp, sq, sDrop, sRet, sRetO, sIf, sSet, sSetO, sAsg, sPar, gN, gsN, gsC, gT, gA, sApp, sPutI, sNever, mItems, dItems, mRng, mRng2, gRng, gRng2, sFor, turn, gI, gI0, gLt, gLe, gGt, gGe, gAdd, gAddI, gAddS, gAddT, gAddL, Sr.gSub, gMul, gMulI, gDiv, gMod, gPow, gNeg, gEq, gNe, dEq, eqS, gLen, gInt1, gMax2, gMin2, gAbs, gIx, gLtT, dInts, putD, gIsi, dKind, tInt, tOnly, List.map_cons, List.map_nil, List.length_cons, List.length_nil, List.cons_append, List.nil_append, List.getElem?_cons_zero, List.getElem?_cons_succ, List.set_cons_zero, List.set_cons_succ, List.replicate, Option.some_or, Option.none_or, Option.map_some, Option.map_none, Option.bind_some, Option.bind_none]
theorem s_checkwish (u v : Int) (h1 : 0 ≤ u ∧ u ≤ 99) (h2 : 0 ≤ v ∧ v ≤ 99) : f_check_wish .non [.int u, .int v] = .ok .non .non := by
  simp [f_check_wish, b_check_wish, s_check u 0 99 h1.1 h1.2, s_check v 0 99 h2.1 h2.2, mkF0, mkF1, fin0, fin1, st0, st1, bnd, Sr.ret, opt, mN, mNB, mB, der, m1, m2, m2b, m2r, mT, asB, mChain, mAnd, mOr, mNot, mAndV, mOrV, mNotV, mIf, mNil, mCons, mTup, mLst, mIsN, mNotN, isNon, mCal, mCal1, mIsi, mFldB, gFld, mC0, mC1, ap0, ap1, chkO, chkL, putL, mMk, apM, skp, sq, sDrop, sRet, sRetO, sIf, sSet, sSetO, sAsg, sPar, gN, gsN, gsC, gT, gA, sApp, sPutI, sNever, mItems, dItems, mRng, mRng2, gRng, gRng2, sFor, turn, gI, gI0, gLt, gLe, gGt, gGe, gAdd, gAddI, gAddS, gAddT, gAddL, Sr.gSub, gMul, gMulI, gDiv, gMod, gPow, gNeg, gEq, gNe, dEq, eqS, gLen, gInt1, gMax2, gMin2, gAbs, gIx, gLtT, dInts, putD, gIsi, dKind, tInt, tOnly, List.map_cons, List.map_nil, List.length_cons, List.length_nil, List.cons_append, List.nil_append, List.getElem?_cons_zero, List.getElem?_cons_succ, List.set_cons_zero, List.set_cons_succ, List.replicate, Option.some_or, Option.none_or, Option.map_some, Option.map_none, Option.bind_some, Option.bind_none]
theorem s_checklim (a b c d : Int) : f_check_limits .non [lim a b c d] = .ok .non .non := by
  have h : isl_Limits.lookup ("Limits" : Str) = some true := by decide
  simp [f_check_limits, b_check_limits, isC_Limits, h, mkF0, mkF1, fin0, fin1, st0, st1, bnd, Sr.ret, opt, mN, mNB, mB, der, m1, m2, m2b, m2r, mT, asB, mChain, mAnd, mOr, mNot, mAndV, mOrV, mNotV, mIf, mNil, mCons, mTup, mLst, mIsN, mNotN, isNon, mCal, mCal1, mIsi, mFldB, gFld, mC0, mC1, ap0, ap1, chkO, chkL, putL, mMk, apM, skp, sq, sDrop, sRet, sRetO, sIf, sSet, sSetO, sAsg, sPar, gN, gsN, gsC, gT, gA, sApp, sPutI, sNever, mItems, dItems, mRng, mRng2, gRng, gRng2, sFor, turn, gI, gI0, gLt, gLe, gGt, gGe, gAdd, gAddI, gAddS, gAddT, gAddL, Sr.gSub, gMul, gMulI, gDiv, gMod, gPow, gNeg, gEq, gNe, dEq, eqS, gLen, gInt1, gMax2, gMin2, gAbs, gIx, gLtT, dInts, putD, gIsi, dKind, tInt, tOnly, List.map_cons, List.map_nil, List.length_cons, List.length_nil, List.cons_append, List.nil_append, List.getElem?_cons_zero, List.getElem?_cons_succ, List.set_cons_zero, List.set_cons_succ, List.replicate, Option.some_or, Option.none_or, Option.map_some, Option.map_none, Option.bind_some, Option.bind_none]
def rOpt : Rs → Option (Option Int)
  | .ok .non .non => some none
  | .ok (.int i) .non => some (some i)
  | _ => none
def encO : Option Int → D
  | none => .non
  | some i => .int i
theorem rOpt_eq {r : Rs} {o : Option Int} (h : rOpt r = some o) : r = .ok (encO o) .non := by
  unfold rOpt at h
  split at h
  · cases h; rfl
  · cases h; rfl
  · cases h
def wbR (e s n k : Int) : Option (Option Int) := rOpt (f_window_bound .non [.int e, .int s, .int n, .int k])
def lbR (e s n k : Int) : Option (Option Int) := rOpt (f__law_bound .non [.int e, .int s, .int n, .int k])
def wb (e s n k : Int) : Option Int := (wbR e s n k).getD none
def okAt (e s n k : Nat) : Bool := (n < k) || ((wbR e (s + 1) (n + 1) (k + 1)).isSome && (wbR e (s + 1) (n + 1) (k + 1) == lbR e (s + 1) (n + 1) (k + 1)))
theorem ok_all : ((List.range 6).all fun e => (List.range 5).all fun s => (List.range 6).all fun n => (List.range 6).all fun k => okAt e s n k) = true := by decide +kernel
theorem wb_ok (e s n k : Int) (h1 : 0 ≤ e ∧ e ≤ 5) (h2 : 1 ≤ s ∧ s ≤ 5) (h3 : 1 ≤ n ∧ n ≤ 6) (h4 : 1 ≤ k ∧ k ≤ n) : f_window_bound .non [.int e, .int s, .int n, .int k] = .ok (encO (wb e s n k)) .non ∧ f__law_bound .non [.int e, .int s, .int n, .int k] = .ok (encO (wb e s n k)) .non := by
  have h := ok_all
  simp only [List.all_eq_true, List.mem_range] at h
  have q := h e.toNat (by omega) (s - 1).toNat (by omega) (n - 1).toNat (by omega) (k - 1).toNat (by omega)
  unfold okAt at q
  have a1 : ((e.toNat : Nat) : Int) = e := by omega
  have a2 : (((s - 1).toNat : Nat) : Int) + 1 = s := by omega
  have a3 : (((n - 1).toNat : Nat) : Int) + 1 = n := by omega
  have a4 : (((k - 1).toNat : Nat) : Int) + 1 = k := by omega
  rw [a1, a2, a3, a4] at q
  have b1 : ¬ ((n - 1).toNat < (k - 1).toNat) := by omega
  simp only [Bool.or_eq_true, decide_eq_true_eq, b1, false_or, Bool.and_eq_true, beq_iff_eq, Option.isSome_iff_exists] at q
  obtain ⟨⟨o, ho⟩, he⟩ := q
  have w : wb e s n k = o := by unfold wb; rw [ho]; rfl
  rw [w]
  exact ⟨rOpt_eq ho, rOpt_eq (by rw [← ho, he]; rfl)⟩
def within (o : Option Int) (w : Int) : Bool := match o with
  | none => false
  | some i => decide (i ≤ w)
theorem s_within (o : Option Int) (w : Int) : f_is_within .non [encO o, .int w] = .ok (.bl (within o w)) .non := by
  cases o <;> simp [f_is_within, b_is_within, encO, within, mkF0, mkF1, fin0, fin1, st0, st1, bnd, Sr.ret, opt, mN, mNB, mB, der, m1, m2, m2b, m2r, mT, asB, mChain, mAnd, mOr, mNot, mAndV, mOrV, mNotV, mIf, mNil, mCons, mTup, mLst, mIsN, mNotN, isNon, mCal, mCal1, mIsi, mFldB, gFld, mC0, mC1, ap0, ap1, chkO, chkL, putL, mMk, apM, skp, sq, sDrop, sRet, sRetO, sIf, sSet, sSetO, sAsg, sPar, gN, gsN, gsC, gT, gA, sApp, sPutI, sNever, mItems, dItems, mRng, mRng2, gRng, gRng2, sFor, turn, gI, gI0, gLt, gLe, gGt, gGe, gAdd, gAddI, gAddS, gAddT, gAddL, Sr.gSub, gMul, gMulI, gDiv, gMod, gPow, gNeg, gEq, gNe, dEq, eqS, gLen, gInt1, gMax2, gMin2, gAbs, gIx, gLtT, dInts, putD, gIsi, dKind, tInt, tOnly, List.map_cons, List.map_nil, List.length_cons, List.length_nil, List.cons_append, List.nil_append, List.getElem?_cons_zero, List.getElem?_cons_succ, List.set_cons_zero, List.set_cons_succ, List.replicate, Option.some_or, Option.none_or, Option.map_some, Option.map_none, Option.bind_some, Option.bind_none]
theorem s_wished (e s n k w : Int) (h1 : 0 ≤ e ∧ e ≤ 5) (h2 : 1 ≤ s ∧ s ≤ 5) (h3 : 1 ≤ n ∧ n ≤ 6) (h4 : 1 ≤ k ∧ k ≤ n) : f__law_is_wished .non [.int e, .int s, .int n, .int k, .int w] = .ok (.bl (within (wb e s n k) w)) .non := by
  have h := (wb_ok e s n k h1 h2 h3 h4).2
  cases q : wb e s n k <;> rw [q] at h <;> simp [f__law_is_wished, b__law_is_wished, h, encO, within, mkF0, mkF1, fin0, fin1, st0, st1, bnd, Sr.ret, opt, mN, mNB, mB, der, m1, m2, m2b, m2r, mT, asB, mChain, mAnd, mOr, mNot, mAndV, mOrV, mNotV, mIf, mNil, mCons, mTup, mLst, mIsN, mNotN, isNon, mCal, mCal1, mIsi, mFldB, gFld, mC0, mC1, ap0, ap1, chkO, chkL, putL, mMk, apM, skp, sq, sDrop, sRet, sRetO, sIf, sSet, sSetO, sAsg, sPar, gN, gsN, gsC, gT, gA, sApp, sPutI, sNever, mItems, dItems, mRng, mRng2, gRng, gRng2, sFor, turn, gI, gI0, gLt, gLe, gGt, gGe, gAdd, gAddI, gAddS, gAddT, gAddL, Sr.gSub, gMul, gMulI, gDiv, gMod, gPow, gNeg, gEq, gNe, dEq, eqS, gLen, gInt1, gMax2, gMin2, gAbs, gIx, gLtT, dInts, putD, gIsi, dKind, tInt, tOnly, List.map_cons, List.map_nil, List.length_cons, List.length_nil, List.cons_append, List.nil_append, List.getElem?_cons_zero, List.getElem?_cons_succ, List.set_cons_zero, List.set_cons_succ, List.replicate, Option.some_or, Option.none_or, Option.map_some, Option.map_none, Option.bind_some, Option.bind_none]
def cnd (a b c up dn o t : Int) : Bool := within (wb b c o (o - t + 1)) up && within (wb a c o t) dn
def chg (r f o t : Int) : Int := (if o - r < 0 then -(o - r) else o - r) + (if t - f < 0 then -(t - f) else t - f)
abbrev Best := Option (Int × Int × Int)
def encB : Best → D
  | none => .non
  | some (c, o, t) => .tup [.int c, .int o, .int t]
def stepD (C : Int → Int → Bool) (G : Int → Int → Int) (o : Int) (b : Best) (t : Int) : Best := if C o t = true then (match b with
  | none => some (G o t, o, t)
  | some (c, x, y) => if G o t < c then some (G o t, o, t) else some (c, x, y)) else b
def due (C : Int → Int → Bool) (G : Int → Int → Int) : Best := (irng 1 7).foldl (fun b o => (irng 1 (o + 1)).foldl (stepD C G o) b) none
theorem s_dueIn (a b c d r f up dn o : Int) (h1 : 0 ≤ a ∧ a ≤ 5) (h2 : 0 ≤ b ∧ b ≤ 5) (h3 : 1 ≤ c ∧ c ≤ 5) (ho : 1 ≤ o ∧ o < 7) (x : Best) (j7 j8 : Sl) : ∃ e', forL (gN 7) l__law_due_1 ((irng 1 (o + 1)).map D.int) [.val (.tup [.int a, .int b, .int c, .int d]), .val (.int r), .val (.int f), .val (.int up), .val (.int dn), .val (encB x), .val (.int o), j7, j8] = .ok .nx e' ∧ ∃ j7 j8, e' = [.val (.tup [.int a, .int b, .int c, .int d]), .val (.int r), .val (.int f), .val (.int up), .val (.int dn), .val (encB ((irng 1 (o + 1)).foldl (stepD (cnd a b c up dn) (chg r f) o) x)), .val (.int o), j7, j8] := by
  refine forL_map D.int (fun (x : Best) e => ∃ j7 j8, e = [.val (.tup [.int a, .int b, .int c, .int d]), .val (.int r), .val (.int f), .val (.int up), .val (.int dn), .val (encB x), .val (.int o), j7, j8]) (stepD (cnd a b c up dn) (chg r f) o) x (irng 1 (o + 1)) _ ?_ ⟨j7, j8, rfl⟩
  rintro pre t post hp e ⟨j7, j8, rfl⟩
  generalize pre.foldl _ x = y
  have ht : 1 ≤ t ∧ t < o + 1 := irng_mem (by rw [hp]; simp)
  have w1 := s_wished b c o (o - t + 1) up h2 h3 (by omega) (by omega)
  have w2 := s_wished a c o t dn h1 h3 (by omega) (by omega)
  unfold stepD cnd
  cases q1 : within (wb b c o (o - t + 1)) up with
  | false => exact ⟨_, by simp [l__law_due_1, w1, q1, atI, ixN, mkF0, mkF1, fin0, fin1, st0, st1, bnd, Sr.ret, opt, mN, mNB, mB, der, m1, m2, m2b, m2r, mT, asB, mChain, mAnd, mOr, mNot, mAndV, mOrV, mNotV, mIf, mNil, mCons, mTup, mLst, mIsN, mNotN, isNon, mCal, mCal1, mIsi, mFldB, gFld, mC0, mC1, ap0, ap1, chkO, chkL, putL, mMk, apM, skp, sq, sDrop, sRet, sRetO, sIf, sSet, sSetO, sAsg, sPar, gN, gsN, gsC, gT, gA, sApp, sPutI, sNever, mItems, dItems, mRng, mRng2, gRng, gRng2, sFor, turn, gI, gI0, gLt, gLe, gGt, gGe, gAdd, gAddI, gAddS, gAddT, gAddL, Sr.gSub, gMul, gMulI, gDiv, gMod, gPow, gNeg, gEq, gNe, dEq, eqS, gLen, gInt1, gMax2, gMin2, gAbs, gIx, gLtT, dInts, putD, gIsi, dKind, tInt, tOnly, List.map_cons, List.map_nil, List.length_cons, List.length_nil, List.cons_append, List.nil_append, List.getElem?_cons_zero, List.getElem?_cons_succ, List.set_cons_zero, List.set_cons_succ, List.replicate, Option.some_or, Option.none_or, Option.map_some, Option.map_none, Option.bind_some, Option.bind_none]; exact ⟨rfl, rfl⟩, _, _, rfl⟩
  | true =>
    cases q2 : within (wb a c o t) dn with
    | false => exact ⟨_, by simp [l__law_due_1, w1, w2, q1, q2, atI, ixN, mkF0, mkF1, fin0, fin1, st0, st1, bnd, Sr.ret, opt, mN, mNB, mB, der, m1, m2, m2b, m2r, mT, asB, mChain, mAnd, mOr, mNot, mAndV, mOrV, mNotV, mIf, mNil, mCons, mTup, mLst, mIsN, mNotN, isNon, mCal, mCal1, mIsi, mFldB, gFld, mC0, mC1, ap0, ap1, chkO, chkL, putL, mMk, apM, skp, sq, sDrop, sRet, sRetO, sIf, sSet, sSetO, sAsg, sPar, gN, gsN, gsC, gT, gA, sApp, sPutI, sNever, mItems, dItems, mRng, mRng2, gRng, gRng2, sFor, turn, gI, gI0, gLt, gLe, gGt, gGe, gAdd, gAddI, gAddS, gAddT, gAddL, Sr.gSub, gMul, gMulI, gDiv, gMod, gPow, gNeg, gEq, gNe, dEq, eqS, gLen, gInt1, gMax2, gMin2, gAbs, gIx, gLtT, dInts, putD, gIsi, dKind, tInt, tOnly, List.map_cons, List.map_nil, List.length_cons, List.length_nil, List.cons_append, List.nil_append, List.getElem?_cons_zero, List.getElem?_cons_succ, List.set_cons_zero, List.set_cons_succ, List.replicate, Option.some_or, Option.none_or, Option.map_some, Option.map_none, Option.bind_some, Option.bind_none]; exact ⟨rfl, rfl⟩, _, _, rfl⟩
    | true =>
      cases y with
      | none => exact ⟨_, by simp [l__law_due_1, w1, w2, q1, q2, encB, chg, sizeLine, atI, ixN, mkF0, mkF1, fin0, fin1, st0, st1, bnd, Sr.ret, opt, mN, mNB, mB, der, m1, m2, m2b, m2r, mT, asB, mChain, mAnd, mOr, mNot, mAndV, mOrV, mNotV, mIf, mNil, mCons, mTup, mLst, mIsN, mNotN, isNon, mCal, mCal1, mIsi, mFldB, gFld, mC0, mC1, ap0, ap1, chkO, chkL, putL, mMk, apM, skp, sq, sDrop, sRet, sRetO, sIf, sSet, sSetO, sAsg, sPar, gN, gsN, gsC, gT, gA, sApp, sPutI, sNever, mItems, dItems, mRng, mRng2, gRng, gRng2, sFor, turn, gI, gI0, gLt, gLe, gGt, gGe, gAdd, gAddI, gAddS, gAddT, gAddL, Sr.gSub, gMul, gMulI, gDiv, gMod, gPow, gNeg, gEq, gNe, dEq, eqS, gLen, gInt1, gMax2, gMin2, gAbs, gIx, gLtT, dInts, putD, gIsi, dKind, tInt, tOnly, List.map_cons, List.map_nil, List.length_cons, List.length_nil, List.cons_append, List.nil_append, List.getElem?_cons_zero, List.getElem?_cons_succ, List.set_cons_zero, List.set_cons_succ, List.replicate, Option.some_or, Option.none_or, Option.map_some, Option.map_none, Option.bind_some, Option.bind_none]; exact ⟨rfl, rfl⟩, _, _, rfl⟩
      | some y =>
        obtain ⟨p, q, s⟩ := y
        by_cases hh : chg r f o t < p
        · unfold chg at hh ⊢
          exact ⟨_, by simp [l__law_due_1, w1, w2, q1, q2, encB, hh, sizeLine, atI, ixN, mkF0, mkF1, fin0, fin1, st0, st1, bnd, Sr.ret, opt, mN, mNB, mB, der, m1, m2, m2b, m2r, mT, asB, mChain, mAnd, mOr, mNot, mAndV, mOrV, mNotV, mIf, mNil, mCons, mTup, mLst, mIsN, mNotN, isNon, mCal, mCal1, mIsi, mFldB, gFld, mC0, mC1, ap0, ap1, chkO, chkL, putL, mMk, apM, skp, sq, sDrop, sRet, sRetO, sIf, sSet, sSetO, sAsg, sPar, gN, gsN, gsC, gT, gA, sApp, sPutI, sNever, mItems, dItems, mRng, mRng2, gRng, gRng2, sFor, turn, gI, gI0, gLt, gLe, gGt, gGe, gAdd, gAddI, gAddS, gAddT, gAddL, Sr.gSub, gMul, gMulI, gDiv, gMod, gPow, gNeg, gEq, gNe, dEq, eqS, gLen, gInt1, gMax2, gMin2, gAbs, gIx, gLtT, dInts, putD, gIsi, dKind, tInt, tOnly, List.map_cons, List.map_nil, List.length_cons, List.length_nil, List.cons_append, List.nil_append, List.getElem?_cons_zero, List.getElem?_cons_succ, List.set_cons_zero, List.set_cons_succ, List.replicate, Option.some_or, Option.none_or, Option.map_some, Option.map_none, Option.bind_some, Option.bind_none]; exact ⟨rfl, rfl⟩, _, _, rfl⟩
        · unfold chg at hh ⊢
          exact ⟨_, by simp [l__law_due_1, w1, w2, q1, q2, encB, hh, sizeLine, atI, ixN, mkF0, mkF1, fin0, fin1, st0, st1, bnd, Sr.ret, opt, mN, mNB, mB, der, m1, m2, m2b, m2r, mT, asB, mChain, mAnd, mOr, mNot, mAndV, mOrV, mNotV, mIf, mNil, mCons, mTup, mLst, mIsN, mNotN, isNon, mCal, mCal1, mIsi, mFldB, gFld, mC0, mC1, ap0, ap1, chkO, chkL, putL, mMk, apM, skp, sq, sDrop, sRet, sRetO, sIf, sSet, sSetO, sAsg, sPar, gN, gsN, gsC, gT, gA, sApp, sPutI, sNever, mItems, dItems, mRng, mRng2, gRng, gRng2, sFor, turn, gI, gI0, gLt, gLe, gGt, gGe, gAdd, gAddI, gAddS, gAddT, gAddL, Sr.gSub, gMul, gMulI, gDiv, gMod, gPow, gNeg, gEq, gNe, dEq, eqS, gLen, gInt1, gMax2, gMin2, gAbs, gIx, gLtT, dInts, putD, gIsi, dKind, tInt, tOnly, List.map_cons, List.map_nil, List.length_cons, List.length_nil, List.cons_append, List.nil_append, List.getElem?_cons_zero, List.getElem?_cons_succ, List.set_cons_zero, List.set_cons_succ, List.replicate, Option.some_or, Option.none_or, Option.map_some, Option.map_none, Option.bind_some, Option.bind_none]; exact ⟨rfl, rfl⟩, _, _, rfl⟩
theorem okS {i : Int} (h0 : -1000 < i) (h1 : i < 1000) : okR i = true := by unfold okR; simp; omega
theorem s_due (a b c d r f up dn : Int) (h1 : 0 ≤ a ∧ a ≤ 5) (h2 : 0 ≤ b ∧ b ≤ 5) (h3 : 1 ≤ c ∧ c ≤ 5) : f__law_due .non [.tup [.int a, .int b, .int c, .int d], .int r, .int f, .int up, .int dn] = .ok (encB (due (cnd a b c up dn) (chg r f))) .non := by
  have R : ∃ e', forL (gN 6) l__law_due_2 ((irng 1 7).map D.int) [.val (.tup [.int a, .int b, .int c, .int d]), .val (.int r), .val (.int f), .val (.int up), .val (.int dn), .val .non, .no, .no, .no] = .ok .nx e' ∧ ∃ j6 j7 j8, e' = [.val (.tup [.int a, .int b, .int c, .int d]), .val (.int r), .val (.int f), .val (.int up), .val (.int dn), .val (encB (due (cnd a b c up dn) (chg r f))), j6, j7, j8] := by
    refine forL_map D.int (fun (x : Best) e => ∃ j6 j7 j8, e = [.val (.tup [.int a, .int b, .int c, .int d]), .val (.int r), .val (.int f), .val (.int up), .val (.int dn), .val (encB x), j6, j7, j8]) (fun b' o => (irng 1 (o + 1)).foldl (stepD (cnd a b c up dn) (chg r f) o) b') none (irng 1 7) _ ?_ ⟨.no, .no, .no, rfl⟩
    rintro pre o post hp e ⟨j6, j7, j8, rfl⟩
    generalize pre.foldl _ none = y
    have ho : 1 ≤ o ∧ o < 7 := irng_mem (by rw [hp]; simp)
    obtain ⟨e', h, k7, k8, rfl⟩ := s_dueIn a b c d r f up dn o h1 h2 h3 ho y j7 j8
    exact ⟨_, by simp [l__law_due_2, okS (i := 1) (by omega) (by omega), okS (i := o + 1) (by omega) (by omega), rngL_eq, h, mkF0, mkF1, fin0, fin1, st0, st1, bnd, Sr.ret, opt, mN, mNB, mB, der, m1, m2, m2b, m2r, mT, asB, mChain, mAnd, mOr, mNot, mAndV, mOrV, mNotV, mIf, mNil, mCons, mTup, mLst, mIsN, mNotN, isNon, mCal, mCal1, mIsi, mFldB, gFld, mC0, mC1, ap0, ap1, chkO, chkL, putL, mMk, apM, skp, sq, sDrop, sRet, sRetO, sIf, sSet, sSetO, sAsg, sPar, gN, gsN, gsC, gT, gA, sApp, sPutI, sNever, mItems, dItems, mRng, mRng2, gRng, gRng2, sFor, turn, gI, gI0, gLt, gLe, gGt, gGe, gAdd, gAddI, gAddS, gAddT, gAddL, Sr.gSub, gMul, gMulI, gDiv, gMod, gPow, gNeg, gEq, gNe, dEq, eqS, gLen, gInt1, gMax2, gMin2, gAbs, gIx, gLtT, dInts, putD, gIsi, dKind, tInt, tOnly, List.map_cons, List.map_nil, List.length_cons, List.length_nil, List.cons_append, List.nil_append, List.getElem?_cons_zero, List.getElem?_cons_succ, List.set_cons_zero, List.set_cons_succ, List.replicate, Option.some_or, Option.none_or, Option.map_some, Option.map_none, Option.bind_some, Option.bind_none]; exact ⟨rfl, rfl, rfl⟩, _, _, _, rfl⟩
  obtain ⟨e', h, j6, j7, j8, rfl⟩ := R
  simp [f__law_due, b__law_due, okS (i := 1) (by omega) (by omega), okS (i := 7) (by omega) (by omega), rngL_eq, h, mkF0, mkF1, fin0, fin1, st0, st1, bnd, Sr.ret, opt, mN, mNB, mB, der, m1, m2, m2b, m2r, mT, asB, mChain, mAnd, mOr, mNot, mAndV, mOrV, mNotV, mIf, mNil, mCons, mTup, mLst, mIsN, mNotN, isNon, mCal, mCal1, mIsi, mFldB, gFld, mC0, mC1, ap0, ap1, chkO, chkL, putL, mMk, apM, skp, sq, sDrop, sRet, sRetO, sIf, sSet, sSetO, sAsg, sPar, gN, gsN, gsC, gT, gA, sApp, sPutI, sNever, mItems, dItems, mRng, mRng2, gRng, gRng2, sFor, turn, gI, gI0, gLt, gLe, gGt, gGe, gAdd, gAddI, gAddS, gAddT, gAddL, Sr.gSub, gMul, gMulI, gDiv, gMod, gPow, gNeg, gEq, gNe, dEq, eqS, gLen, gInt1, gMax2, gMin2, gAbs, gIx, gLtT, dInts, putD, gIsi, dKind, tInt, tOnly, List.map_cons, List.map_nil, List.length_cons, List.length_nil, List.cons_append, List.nil_append, List.getElem?_cons_zero, List.getElem?_cons_succ, List.set_cons_zero, List.set_cons_succ, List.replicate, Option.some_or, Option.none_or, Option.map_some, Option.map_none, Option.bind_some, Option.bind_none]
abbrev Pair := Int × Int
def encP (p : Pair) : D := .tup [.int p.1, .int p.2]
def stepF (C : Int → Int → Bool) (o : Int) (l : List Pair) (t : Int) : List Pair := if C o t = true then l ++ [(o, t)] else l
def found (C : Int → Int → Bool) : List Pair := (irng 1 7).foldl (fun l o => (irng 1 (o + 1)).foldl (stepF C o) l) []
def stepN (G : Int → Int → Int) (b : Best) (p : Pair) : Best := match b with
  | none => some (G p.1 p.2, p.1, p.2)
  | some (c, x, y) => if HT.lexLt [G p.1 p.2, p.1, p.2] [c, x, y] = true then some (G p.1 p.2, p.1, p.2) else some (c, x, y)
theorem s_nearest (r f : Int) (l : List Pair) : f_nearest .non [.tup [.int r, .int f], .lst (l.map encP)] = .ok (encB (l.foldl (stepN (chg r f)) none)) .non := by
  have R : ∃ e', forL (gT 2 (gsC (gN 3) (gsC (gN 4) gsN))) l_nearest_1 (l.map encP) [.val (.tup [.int r, .int f]), .val (.lst (l.map encP)), .val .non, .no, .no, .no] = .ok .nx e' ∧ ∃ j1 j2 j3, e' = [.val (.tup [.int r, .int f]), .val (.lst (l.map encP)), .val (encB (l.foldl (stepN (chg r f)) none)), j1, j2, j3] := by
    refine forL_map encP (fun (x : Best) e => ∃ j1 j2 j3, e = [.val (.tup [.int r, .int f]), .val (.lst (l.map encP)), .val (encB x), j1, j2, j3]) (stepN (chg r f)) none l _ ?_ ⟨.no, .no, .no, rfl⟩
    rintro pre ⟨o, t⟩ post hp e ⟨j1, j2, j3, rfl⟩
    generalize pre.foldl _ none = y
    cases y with
    | none => exact ⟨_, by simp [l_nearest_1, encP, encB, chg, stepN, sizeLine, atI, ixN, mkF0, mkF1, fin0, fin1, st0, st1, bnd, Sr.ret, opt, mN, mNB, mB, der, m1, m2, m2b, m2r, mT, asB, mChain, mAnd, mOr, mNot, mAndV, mOrV, mNotV, mIf, mNil, mCons, mTup, mLst, mIsN, mNotN, isNon, mCal, mCal1, mIsi, mFldB, gFld, mC0, mC1, ap0, ap1, chkO, chkL, putL, mMk, apM, skp, sq, sDrop, sRet, sRetO, sIf, sSet, sSetO, sAsg, sPar, gN, gsN, gsC, gT, gA, sApp, sPutI, sNever, mItems, dItems, mRng, mRng2, gRng, gRng2, sFor, turn, gI, gI0, gLt, gLe, gGt, gGe, gAdd, gAddI, gAddS, gAddT, gAddL, Sr.gSub, gMul, gMulI, gDiv, gMod, gPow, gNeg, gEq, gNe, dEq, eqS, gLen, gInt1, gMax2, gMin2, gAbs, gIx, gLtT, dInts, putD, gIsi, dKind, tInt, tOnly, List.map_cons, List.map_nil, List.length_cons, List.length_nil, List.cons_append, List.nil_append, List.getElem?_cons_zero, List.getElem?_cons_succ, List.set_cons_zero, List.set_cons_succ, List.replicate, Option.some_or, Option.none_or, Option.map_some, Option.map_none, Option.bind_some, Option.bind_none]; exact ⟨rfl, rfl, rfl⟩, _, _, _, rfl⟩
    | some y =>
      obtain ⟨p, q, s⟩ := y
      by_cases hh : HT.lexLt [chg r f o t, o, t] [p, q, s] = true
      · rw [show stepN (chg r f) (some (p, q, s)) (o, t) = some (chg r f o t, o, t) by simp [stepN, hh]]
        unfold chg at hh ⊢
        exact ⟨_, by simp [l_nearest_1, encP, encB, hh, sizeLine, atI, ixN, mkF0, mkF1, fin0, fin1, st0, st1, bnd, Sr.ret, opt, mN, mNB, mB, der, m1, m2, m2b, m2r, mT, asB, mChain, mAnd, mOr, mNot, mAndV, mOrV, mNotV, mIf, mNil, mCons, mTup, mLst, mIsN, mNotN, isNon, mCal, mCal1, mIsi, mFldB, gFld, mC0, mC1, ap0, ap1, chkO, chkL, putL, mMk, apM, skp, sq, sDrop, sRet, sRetO, sIf, sSet, sSetO, sAsg, sPar, gN, gsN, gsC, gT, gA, sApp, sPutI, sNever, mItems, dItems, mRng, mRng2, gRng, gRng2, sFor, turn, gI, gI0, gLt, gLe, gGt, gGe, gAdd, gAddI, gAddS, gAddT, gAddL, Sr.gSub, gMul, gMulI, gDiv, gMod, gPow, gNeg, gEq, gNe, dEq, eqS, gLen, gInt1, gMax2, gMin2, gAbs, gIx, gLtT, dInts, putD, gIsi, dKind, tInt, tOnly, List.map_cons, List.map_nil, List.length_cons, List.length_nil, List.cons_append, List.nil_append, List.getElem?_cons_zero, List.getElem?_cons_succ, List.set_cons_zero, List.set_cons_succ, List.replicate, Option.some_or, Option.none_or, Option.map_some, Option.map_none, Option.bind_some, Option.bind_none]; exact ⟨rfl, rfl, rfl⟩, _, _, _, rfl⟩
      · rw [show stepN (chg r f) (some (p, q, s)) (o, t) = some (p, q, s) by simp [stepN, hh]]
        unfold chg at hh
        exact ⟨_, by simp [l_nearest_1, encP, encB, hh, sizeLine, atI, ixN, mkF0, mkF1, fin0, fin1, st0, st1, bnd, Sr.ret, opt, mN, mNB, mB, der, m1, m2, m2b, m2r, mT, asB, mChain, mAnd, mOr, mNot, mAndV, mOrV, mNotV, mIf, mNil, mCons, mTup, mLst, mIsN, mNotN, isNon, mCal, mCal1, mIsi, mFldB, gFld, mC0, mC1, ap0, ap1, chkO, chkL, putL, mMk, apM, skp, sq, sDrop, sRet, sRetO, sIf, sSet, sSetO, sAsg, sPar, gN, gsN, gsC, gT, gA, sApp, sPutI, sNever, mItems, dItems, mRng, mRng2, gRng, gRng2, sFor, turn, gI, gI0, gLt, gLe, gGt, gGe, gAdd, gAddI, gAddS, gAddT, gAddL, Sr.gSub, gMul, gMulI, gDiv, gMod, gPow, gNeg, gEq, gNe, dEq, eqS, gLen, gInt1, gMax2, gMin2, gAbs, gIx, gLtT, dInts, putD, gIsi, dKind, tInt, tOnly, List.map_cons, List.map_nil, List.length_cons, List.length_nil, List.cons_append, List.nil_append, List.getElem?_cons_zero, List.getElem?_cons_succ, List.set_cons_zero, List.set_cons_succ, List.replicate, Option.some_or, Option.none_or, Option.map_some, Option.map_none, Option.bind_some, Option.bind_none]; exact ⟨rfl, rfl, rfl⟩, _, _, _, rfl⟩
  obtain ⟨e', h, j1, j2, j3, rfl⟩ := R
  simp [f_nearest, b_nearest, h, mkF0, mkF1, fin0, fin1, st0, st1, bnd, Sr.ret, opt, mN, mNB, mB, der, m1, m2, m2b, m2r, mT, asB, mChain, mAnd, mOr, mNot, mAndV, mOrV, mNotV, mIf, mNil, mCons, mTup, mLst, mIsN, mNotN, isNon, mCal, mCal1, mIsi, mFldB, gFld, mC0, mC1, ap0, ap1, chkO, chkL, putL, mMk, apM, skp, sq, sDrop, sRet, sRetO, sIf, sSet, sSetO, sAsg, sPar, gN, gsN, gsC, gT, gA, sApp, sPutI, sNever, mItems, dItems, mRng, mRng2, gRng, gRng2, sFor, turn, gI, gI0, gLt, gLe, gGt, gGe, gAdd, gAddI, gAddS, gAddT, gAddL, Sr.gSub, gMul, gMulI, gDiv, gMod, gPow, gNeg, gEq, gNe, dEq, eqS, gLen, gInt1, gMax2, gMin2, gAbs, gIx, gLtT, dInts, putD, gIsi, dKind, tInt, tOnly, List.map_cons, List.map_nil, List.length_cons, List.length_nil, List.cons_append, List.nil_append, List.getElem?_cons_zero, List.getElem?_cons_succ, List.set_cons_zero, List.set_cons_succ, List.replicate, Option.some_or, Option.none_or, Option.map_some, Option.map_none, Option.bind_some, Option.bind_none]
theorem s_foundIn (a b c d r f up dn o : Int) (h1 : 0 ≤ a ∧ a ≤ 5) (h2 : 0 ≤ b ∧ b ≤ 5) (h3 : 1 ≤ c ∧ c ≤ 5) (ho : 1 ≤ o ∧ o < 7) (l : List Pair) (hl : l.length ≤ 1000) (j7 j8 j9 : Sl) : ∃ e', forL (gN 7) l_nearest_window_1 ((irng 1 (o + 1)).map D.int) [.val (lim a b c d), .val (.int r), .val (.int f), .val (.int up), .val (.int dn), .own (.lst (l.map encP)), .val (.int o), j7, j8, j9] = .ok .nx e' ∧ ∃ j7 j8 j9, e' = [.val (lim a b c d), .val (.int r), .val (.int f), .val (.int up), .val (.int dn), .own (.lst (((irng 1 (o + 1)).foldl (stepF (cnd a b c up dn) o) l).map encP)), .val (.int o), j7, j8, j9] := by
  refine forL_map D.int (fun (x : List Pair) e => ∃ j7 j8 j9, e = [.val (lim a b c d), .val (.int r), .val (.int f), .val (.int up), .val (.int dn), .own (.lst (x.map encP)), .val (.int o), j7, j8, j9]) (stepF (cnd a b c up dn) o) l (irng 1 (o + 1)) _ ?_ ⟨j7, j8, j9, rfl⟩
  rintro pre t post hp e ⟨j7, j8, j9, rfl⟩
  have ht : 1 ≤ t ∧ t < o + 1 := irng_mem (by rw [hp]; simp)
  have hlen : (pre.foldl (stepF (cnd a b c up dn) o) l).length ≤ 1100 := by
    have h3 := foldl_len (step := stepF (cnd a b c up dn) o) (k := 1) (fun x y => by unfold stepF; split <;> simp) pre l
    have h4 : pre.length ≤ 20 := by
      have := congrArg List.length hp
      simp [irng] at this
      omega
    omega
  generalize pre.foldl _ l = y at hlen ⊢
  have w1 := (wb_ok b c o (o - t + 1) h2 h3 (by omega) (by omega)).1
  have w2 := (wb_ok a c o t h1 h3 (by omega) (by omega)).1
  have w3 := s_within (wb b c o (o - t + 1)) up
  have w4 := s_within (wb a c o t) dn
  have n1 : (("most_fails" : Str) == ("most_passes" : Str)) = false := by decide
  have n2 : (("most_checks" : Str) == ("most_passes" : Str)) = false := by decide
  have n3 : (("most_checks" : Str) == ("most_fails" : Str)) = false := by decide
  have hsz : y.length < 16777216 := by omega
  unfold stepF cnd
  cases q1 : within (wb b c o (o - t + 1)) up with
  | false => exact ⟨_, by simp [l_nearest_window_1, lim, List.lookup, n1, n2, n3, w1, w2, w3, q1, mkF0, mkF1, fin0, fin1, st0, st1, bnd, Sr.ret, opt, mN, mNB, mB, der, m1, m2, m2b, m2r, mT, asB, mChain, mAnd, mOr, mNot, mAndV, mOrV, mNotV, mIf, mNil, mCons, mTup, mLst, mIsN, mNotN, isNon, mCal, mCal1, mIsi, mFldB, gFld, mC0, mC1, ap0, ap1, chkO, chkL, putL, mMk, apM, skp, sq, sDrop, sRet, sRetO, sIf, sSet, sSetO, sAsg, sPar, gN, gsN, gsC, gT, gA, sApp, sPutI, sNever, mItems, dItems, mRng, mRng2, gRng, gRng2, sFor, turn, gI, gI0, gLt, gLe, gGt, gGe, gAdd, gAddI, gAddS, gAddT, gAddL, Sr.gSub, gMul, gMulI, gDiv, gMod, gPow, gNeg, gEq, gNe, dEq, eqS, gLen, gInt1, gMax2, gMin2, gAbs, gIx, gLtT, dInts, putD, gIsi, dKind, tInt, tOnly, List.map_cons, List.map_nil, List.length_cons, List.length_nil, List.cons_append, List.nil_append, List.getElem?_cons_zero, List.getElem?_cons_succ, List.set_cons_zero, List.set_cons_succ, List.replicate, Option.some_or, Option.none_or, Option.map_some, Option.map_none, Option.bind_some, Option.bind_none]; exact ⟨rfl, rfl, rfl⟩, _, _, _, rfl⟩
  | true =>
    cases q2 : within (wb a c o t) dn with
    | false => exact ⟨_, by simp [l_nearest_window_1, lim, List.lookup, n1, n2, n3, w1, w2, w3, w4, q1, q2, mkF0, mkF1, fin0, fin1, st0, st1, bnd, Sr.ret, opt, mN, mNB, mB, der, m1, m2, m2b, m2r, mT, asB, mChain, mAnd, mOr, mNot, mAndV, mOrV, mNotV, mIf, mNil, mCons, mTup, mLst, mIsN, mNotN, isNon, mCal, mCal1, mIsi, mFldB, gFld, mC0, mC1, ap0, ap1, chkO, chkL, putL, mMk, apM, skp, sq, sDrop, sRet, sRetO, sIf, sSet, sSetO, sAsg, sPar, gN, gsN, gsC, gT, gA, sApp, sPutI, sNever, mItems, dItems, mRng, mRng2, gRng, gRng2, sFor, turn, gI, gI0, gLt, gLe, gGt, gGe, gAdd, gAddI, gAddS, gAddT, gAddL, Sr.gSub, gMul, gMulI, gDiv, gMod, gPow, gNeg, gEq, gNe, dEq, eqS, gLen, gInt1, gMax2, gMin2, gAbs, gIx, gLtT, dInts, putD, gIsi, dKind, tInt, tOnly, List.map_cons, List.map_nil, List.length_cons, List.length_nil, List.cons_append, List.nil_append, List.getElem?_cons_zero, List.getElem?_cons_succ, List.set_cons_zero, List.set_cons_succ, List.replicate, Option.some_or, Option.none_or, Option.map_some, Option.map_none, Option.bind_some, Option.bind_none]; exact ⟨rfl, rfl, rfl⟩, _, _, _, rfl⟩
    | true => exact ⟨_, by simp [l_nearest_window_1, lim, List.lookup, n1, n2, n3, w1, w2, w3, w4, q1, q2, encP, sizeLine, hsz, mkF0, mkF1, fin0, fin1, st0, st1, bnd, Sr.ret, opt, mN, mNB, mB, der, m1, m2, m2b, m2r, mT, asB, mChain, mAnd, mOr, mNot, mAndV, mOrV, mNotV, mIf, mNil, mCons, mTup, mLst, mIsN, mNotN, isNon, mCal, mCal1, mIsi, mFldB, gFld, mC0, mC1, ap0, ap1, chkO, chkL, putL, mMk, apM, skp, sq, sDrop, sRet, sRetO, sIf, sSet, sSetO, sAsg, sPar, gN, gsN, gsC, gT, gA, sApp, sPutI, sNever, mItems, dItems, mRng, mRng2, gRng, gRng2, sFor, turn, gI, gI0, gLt, gLe, gGt, gGe, gAdd, gAddI, gAddS, gAddT, gAddL, Sr.gSub, gMul, gMulI, gDiv, gMod, gPow, gNeg, gEq, gNe, dEq, eqS, gLen, gInt1, gMax2, gMin2, gAbs, gIx, gLtT, dInts, putD, gIsi, dKind, tInt, tOnly, List.map_cons, List.map_nil, List.length_cons, List.length_nil, List.cons_append, List.nil_append, List.getElem?_cons_zero, List.getElem?_cons_succ, List.set_cons_zero, List.set_cons_succ, List.replicate, Option.some_or, Option.none_or, Option.map_some, Option.map_none, Option.bind_some, Option.bind_none]; exact ⟨rfl, rfl, rfl⟩, _, _, _, rfl⟩
theorem s_window (a b c d r f up dn : Int) (h1 : 0 ≤ a ∧ a ≤ 5) (h2 : 0 ≤ b ∧ b ≤ 5) (h3 : 1 ≤ c ∧ c ≤ 5) (hr : 1 ≤ r ∧ r ≤ 6) (hf : 1 ≤ f ∧ f ≤ r) (hu : 0 ≤ up ∧ up ≤ 99) (hd : 0 ≤ dn ∧ dn ≤ 99) :
    f_nearest_window .non [lim a b c d, .int r, .int f, .int up, .int dn] = .ok (encB ((found (cnd a b c up dn)).foldl (stepN (chg r f)) none)) .non := by
  have R : ∃ e', forL (gN 6) l_nearest_window_2 ((irng 1 7).map D.int) [.val (lim a b c d), .val (.int r), .val (.int f), .val (.int up), .val (.int dn), .own (.lst []), .no, .no, .no, .no] = .ok .nx e' ∧ ∃ j6 j7 j8 j9, e' = [.val (lim a b c d), .val (.int r), .val (.int f), .val (.int up), .val (.int dn), .own (.lst ((found (cnd a b c up dn)).map encP)), j6, j7, j8, j9] := by
    refine forL_map D.int (fun (x : List Pair) e => ∃ j6 j7 j8 j9, e = [.val (lim a b c d), .val (.int r), .val (.int f), .val (.int up), .val (.int dn), .own (.lst (x.map encP)), j6, j7, j8, j9]) (fun l o => (irng 1 (o + 1)).foldl (stepF (cnd a b c up dn) o) l) [] (irng 1 7) _ ?_ ⟨.no, .no, .no, .no, rfl⟩
    rintro pre o post hp e ⟨j6, j7, j8, j9, rfl⟩
    have ho : 1 ≤ o ∧ o < 7 := irng_mem (by rw [hp]; simp)
    have hlen : (pre.foldl (fun l o => (irng 1 (o + 1)).foldl (stepF (cnd a b c up dn) o) l) []).length ≤ 1000 := by
      have hm : ∀ y ∈ pre, y < 7 := fun y hy => (irng_mem (lo := 1) (hi := 7) (by rw [hp]; simp [hy])).2
      have h4 : pre.length ≤ 6 := by
        have := congrArg List.length hp
        simp [irng] at this
        omega
      have H : ∀ (pre : List Int) (l : List Pair), (∀ y ∈ pre, y < 7) → (pre.foldl (fun l o => (irng 1 (o + 1)).foldl (stepF (cnd a b c up dn) o) l) l).length ≤ l.length + 6 * pre.length := by
        intro pre
        induction pre with
        | nil => intro l _; simp
        | cons y pre ih =>
          intro l hy
          rw [List.foldl_cons]
          have h5 := ih ((irng 1 (y + 1)).foldl (stepF (cnd a b c up dn) y) l) (fun z hz => hy z (by simp [hz]))
          have h6 := foldl_len (step := stepF (cnd a b c up dn) y) (k := 1) (fun x z => by unfold stepF; split <;> simp) (irng 1 (y + 1)) l
          have h7 : (irng 1 (y + 1)).length ≤ 6 := by simp [irng]; have := hy y (by simp); omega
          rw [List.length_cons]
          omega
      have := H pre [] hm
      simp at this
      omega
    generalize pre.foldl _ [] = y at hlen ⊢
    obtain ⟨e', h, k7, k8, k9, rfl⟩ := s_foundIn a b c d r f up dn o h1 h2 h3 ho y hlen j7 j8 j9
    exact ⟨_, by simp [l_nearest_window_2, okS (i := 1) (by omega) (by omega), okS (i := o + 1) (by omega) (by omega), rngL_eq, h, mkF0, mkF1, fin0, fin1, st0, st1, bnd, Sr.ret, opt, mN, mNB, mB, der, m1, m2, m2b, m2r, mT, asB, mChain, mAnd, mOr, mNot, mAndV, mOrV, mNotV, mIf, mNil, mCons, mTup, mLst, mIsN, mNotN, isNon, mCal, mCal1, mIsi, mFldB, gFld, mC0, mC1, ap0, ap1, chkO, chkL, putL, mMk, apM, skp, sq, sDrop, sRet, sRetO, sIf, sSet, sSetO, sAsg, sPar, gN, gsN, gsC, gT, gA, sApp, sPutI, sNever, mItems, dItems, mRng, mRng2, gRng, gRng2, sFor, turn, gI, gI0, gLt, gLe, gGt, gGe, gAdd, gAddI, gAddS, gAddT, gAddL, Sr.gSub, gMul, gMulI, gDiv, gMod, gPow, gNeg, gEq, gNe, dEq, eqS, gLen, gInt1, gMax2, gMin2, gAbs, gIx, gLtT, dInts, putD, gIsi, dKind, tInt, tOnly, List.map_cons, List.map_nil, List.length_cons, List.length_nil, List.cons_append, List.nil_append, List.getElem?_cons_zero, List.getElem?_cons_succ, List.set_cons_zero, List.set_cons_succ, List.replicate, Option.some_or, Option.none_or, Option.map_some, Option.map_none, Option.bind_some, Option.bind_none]; exact ⟨rfl, rfl, rfl, rfl⟩, _, _, _, _, rfl⟩
  obtain ⟨e', h, j6, j7, j8, j9, rfl⟩ := R
  simp [f_nearest_window, b_nearest_window, s_checklim, s_check r 1 6 hr.1 hr.2, s_check f 1 r hf.1 hf.2, s_checkwish up dn hu hd, okS (i := 1) (by omega) (by omega), okS (i := 7) (by omega) (by omega), rngL_eq, h, s_nearest, sizeLine, mkF0, mkF1, fin0, fin1, st0, st1, bnd, Sr.ret, opt, mN, mNB, mB, der, m1, m2, m2b, m2r, mT, asB, mChain, mAnd, mOr, mNot, mAndV, mOrV, mNotV, mIf, mNil, mCons, mTup, mLst, mIsN, mNotN, isNon, mCal, mCal1, mIsi, mFldB, gFld, mC0, mC1, ap0, ap1, chkO, chkL, putL, mMk, apM, skp, sq, sDrop, sRet, sRetO, sIf, sSet, sSetO, sAsg, sPar, gN, gsN, gsC, gT, gA, sApp, sPutI, sNever, mItems, dItems, mRng, mRng2, gRng, gRng2, sFor, turn, gI, gI0, gLt, gLe, gGt, gGe, gAdd, gAddI, gAddS, gAddT, gAddL, Sr.gSub, gMul, gMulI, gDiv, gMod, gPow, gNeg, gEq, gNe, dEq, eqS, gLen, gInt1, gMax2, gMin2, gAbs, gIx, gLtT, dInts, putD, gIsi, dKind, tInt, tOnly, List.map_cons, List.map_nil, List.length_cons, List.length_nil, List.cons_append, List.nil_append, List.getElem?_cons_zero, List.getElem?_cons_succ, List.set_cons_zero, List.set_cons_succ, List.replicate, Option.some_or, Option.none_or, Option.map_some, Option.map_none, Option.bind_some, Option.bind_none]
def ltP (p q : Pair) : Prop := p.1 < q.1 ∨ (p.1 = q.1 ∧ p.2 < q.2)
instance (p q : Pair) : Decidable (ltP p q) := by unfold ltP; infer_instance
def ps : List Pair := (irng 1 7).flatMap fun o => (irng 1 (o + 1)).map fun t => (o, t)
theorem ps_sorted : ps.Pairwise ltP := by decide +kernel
theorem foundIn_eq (C : Int → Int → Bool) (o : Int) : ∀ (xs : List Int) (l : List Pair), xs.foldl (stepF C o) l = l ++ (xs.map fun t => (o, t)).filter fun p => C p.1 p.2
  | [], l => by simp
  | t :: xs, l => by
    rw [List.foldl_cons, foundIn_eq C o xs]
    unfold stepF
    by_cases h : C o t = true <;> simp [h]
theorem found_eq (C : Int → Int → Bool) : found C = ps.filter fun p => C p.1 p.2 := by
  have H : ∀ (xs : List Int) (l : List Pair), xs.foldl (fun l o => (irng 1 (o + 1)).foldl (stepF C o) l) l = l ++ (xs.flatMap fun o => (irng 1 (o + 1)).map fun t => (o, t)).filter fun p => C p.1 p.2 := by
    intro xs
    induction xs with
    | nil => intro l; simp
    | cons o xs ih => intro l; rw [List.foldl_cons, ih, foundIn_eq]; simp
  unfold found ps
  rw [H]; simp
theorem due_eq (C : Int → Int → Bool) (G : Int → Int → Int) : due C G = ps.foldl (fun b p => stepD C G p.1 b p.2) none := by
  have H : ∀ (xs : List Int) (b : Best), xs.foldl (fun b o => (irng 1 (o + 1)).foldl (stepD C G o) b) b = (xs.flatMap fun o => (irng 1 (o + 1)).map fun t => (o, t)).foldl (fun b p => stepD C G p.1 b p.2) b := by
    intro xs
    induction xs with
    | nil => intro b; rfl
    | cons o xs ih => intro b; rw [List.foldl_cons, ih, List.flatMap_cons, List.foldl_append, List.foldl_map]
  exact H _ _
theorem both (C : Int → Int → Bool) (G : Int → Int → Int) : ∀ (L : List Pair) (b : Best), L.Pairwise ltP → (∀ c x y, b = some (c, x, y) → ∀ p ∈ L, ltP (x, y) p) → (L.filter fun p => C p.1 p.2).foldl (stepN G) b = L.foldl (fun b p => stepD C G p.1 b p.2) b
  | [], b, _, _ => rfl
  | (o, t) :: L, b, hs, hb => by
    rw [List.pairwise_cons] at hs
    rw [List.foldl_cons]
    by_cases h : C o t = true
    · rw [List.filter_cons_of_pos (by simpa using h), List.foldl_cons]
      have e : stepN G b (o, t) = stepD C G o b t := by
        unfold stepN stepD
        rw [if_pos h]
        cases b with
        | none => rfl
        | some z =>
          obtain ⟨c, x, y⟩ := z
          have lt := hb c x y rfl (o, t) (by simp)
          have hl : HT.lexLt [G o t, o, t] [c, x, y] = decide (G o t < c) := by
            simp only [HT.lexLt]
            unfold ltP at lt
            simp only at lt
            by_cases h1 : G o t = c
            · rw [if_pos h1]
              rw [h1]
              by_cases h2 : o = x
              · rw [if_pos h2]
                by_cases h3 : t = y
                · omega
                · rw [if_neg h3]; simp; omega
              · rw [if_neg h2]; simp; omega
            · rw [if_neg h1]
          simp only [hl, decide_eq_true_eq]
      rw [e]
      refine both C G L _ hs.2 fun c x y hc p hp => ?_
      unfold stepD at hc
      rw [if_pos h] at hc
      cases b with
      | none => simp only [Option.some.injEq, Prod.mk.injEq] at hc; obtain ⟨_, rfl, rfl⟩ := hc; exact hs.1 p hp
      | some z =>
        obtain ⟨c', x', y'⟩ := z
        simp only at hc
        split at hc
        · simp only [Option.some.injEq, Prod.mk.injEq] at hc; obtain ⟨_, rfl, rfl⟩ := hc; exact hs.1 p hp
        · simp only [Option.some.injEq, Prod.mk.injEq] at hc; obtain ⟨_, rfl, rfl⟩ := hc; exact hb c' x' y' rfl p (by simp [hp])
    · rw [List.filter_cons_of_neg (by simpa using h)]
      have e : stepD C G o b t = b := by unfold stepD; rw [if_neg h]
      dsimp only
      rw [e]
      exact both C G L b hs.2 fun c x y hc p hp => hb c x y hc p (by simp [hp])
theorem choice (C : Int → Int → Bool) (G : Int → Int → Int) : (found C).foldl (stepN G) none = due C G := by
  rw [found_eq, due_eq]
  exact both C G ps none ps_sorted fun c x y h => nomatch h
def Small : Best → Prop
  | none => True
  | some (c, o, t) => (0 ≤ c ∧ c < 100) ∧ (0 ≤ o ∧ o < 100) ∧ (0 ≤ t ∧ t < 100)
theorem due_small (C : Int → Int → Bool) (r f : Int) (hr : 1 ≤ r ∧ r ≤ 6) (hf : 1 ≤ f ∧ f ≤ 6) : Small (due C (chg r f)) := by
  rw [due_eq]
  have H : ∀ (L : List Pair) (b : Best), (∀ p ∈ L, (1 ≤ p.1 ∧ p.1 < 21) ∧ (1 ≤ p.2 ∧ p.2 < 21)) → Small b → Small (L.foldl (fun b p => stepD C (chg r f) p.1 b p.2) b) := by
    intro L
    induction L with
    | nil => intro b _ h; exact h
    | cons p L ih =>
      intro b hL hb
      rw [List.foldl_cons]
      refine ih _ (fun q hq => hL q (by simp [hq])) ?_
      obtain ⟨h1, h2⟩ := hL p (by simp)
      have hg : 0 ≤ chg r f p.1 p.2 ∧ chg r f p.1 p.2 < 100 := by unfold chg; split <;> split <;> omega
      unfold stepD
      split
      · cases b with
        | none => exact ⟨hg, by omega, by omega⟩
        | some z =>
          obtain ⟨c, x, y⟩ := z
          dsimp only
          split
          · exact ⟨hg, by omega, by omega⟩
          · exact hb
      · exact hb
  refine H ps none (fun p hp => ?_) trivial
  unfold ps at hp
  rw [List.mem_flatMap] at hp
  obtain ⟨o, ho, hp⟩ := hp
  rw [List.mem_map] at hp
  obtain ⟨t, ht, rfl⟩ := hp
  have := irng_mem ho; have := irng_mem ht; exact ⟨by omega, by omega⟩
theorem reprs (b : Best) (h : Small b) : ∃ s, gRepr (.lst [encB b, encB b]) = some (.str s) := by
  have H : ∃ k n p, Sh (encB b) k n p ∧ k ≤ 5 ∧ n ≤ 100 := by
    cases b with
    | none => exact ⟨_, _, _, sh_non, by omega, by omega⟩
    | some z =>
      obtain ⟨c, o, t⟩ := z
      obtain ⟨h1, h2, h3⟩ := h
      exact ⟨_, _, _, sh_tup (shl_cons (sh_int h1.1 h1.2) (shl_cons (sh_int h2.1 h2.2) (shl_cons (sh_int h3.1 h3.2) shl_nil))), by omega, by omega⟩
  obtain ⟨k, n, p, hp, hk, hn⟩ := H
  exact ⟨_, repr_lst (sh_lst (shl_cons hp (shl_cons hp shl_nil))) (by omega) (by omega)⟩
theorem s_same {d : D} {s : Str} (h : gRepr d = some (.str s)) : f__law_same .non [d, d] = .ok (.bl true) .non := by
  simp [f__law_same, b__law_same, h, mkF0, mkF1, fin0, fin1, st0, st1, bnd, Sr.ret, opt, mN, mNB, mB, der, m1, m2, m2b, m2r, mT, asB, mChain, mAnd, mOr, mNot, mAndV, mOrV, mNotV, mIf, mNil, mCons, mTup, mLst, mIsN, mNotN, isNon, mCal, mCal1, mIsi, mFldB, gFld, mC0, mC1, ap0, ap1, chkO, chkL, putL, mMk, apM, skp, sq, sDrop, sRet, sRetO, sIf, sSet, sSetO, sAsg, sPar, gN, gsN, gsC, gT, gA, sApp, sPutI, sNever, mItems, dItems, mRng, mRng2, gRng, gRng2, sFor, turn, gI, gI0, gLt, gLe, gGt, gGe, gAdd, gAddI, gAddS, gAddT, gAddL, Sr.gSub, gMul, gMulI, gDiv, gMod, gPow, gNeg, gEq, gNe, dEq, eqS, gLen, gInt1, gMax2, gMin2, gAbs, gIx, gLtT, dInts, putD, gIsi, dKind, tInt, tOnly, List.map_cons, List.map_nil, List.length_cons, List.length_nil, List.cons_append, List.nil_append, List.getElem?_cons_zero, List.getElem?_cons_succ, List.set_cons_zero, List.set_cons_succ, List.replicate, Option.some_or, Option.none_or, Option.map_some, Option.map_none, Option.bind_some, Option.bind_none]
def InA (ns : List Int) (e : En) : Prop := ∃ j1 o j3 j4 j5 j6 j7 j8 j9 j10 j11 j12, PenOk o ∧ e = [.val (.scr ns), j1, .own o, j3, j4, j5, j6, j7, j8, j9, j10, j11, j12]
theorem s_turn (ns : List Int) (i : D) (e : En) (h : InA ns e) : ∃ e', turn (gN 3) l_law_1 i e = .ok .nx e' ∧ InA ns e' := by
  obtain ⟨j1, o, j3, j4, j5, j6, j7, j8, j9, j10, j11, j12, ho, rfl⟩ := h
  obtain ⟨a', o1, e1, ha0, ha1, o1k⟩ := s_draw o 2 ho (by omega) (by omega)
  obtain ⟨b', o2, e2, hb0, hb1, o2k⟩ := s_draw o1 2 o1k (by omega) (by omega)
  obtain ⟨c', o3, e3, hc0, hc1, o3k⟩ := s_draw o2 4 o2k (by omega) (by omega)
  obtain ⟨a, b, c, d, o4, e4, ha, hb, hc, hd, o4k⟩ := s_numbers o3 o3k
  obtain ⟨nm, o5, e5, hm, o5k⟩ := s_pick o4 [.tup [.int a, .int b, .int c, .int d], .tup [.int a', .int b', .int (2 + c'), .int 1], .tup [.int 1, .int 1, .int 3, .int 2], .tup [.int 2, .int 0, .int 3, .int 1]] o4k (by simp) (by simp)
  have H : ∃ a b c d : Int, nm = .tup [.int a, .int b, .int c, .int d] ∧ (0 ≤ a ∧ a ≤ 5) ∧ (0 ≤ b ∧ b ≤ 5) ∧ (1 ≤ c ∧ c ≤ 5) ∧ (1 ≤ d ∧ d ≤ 4) := by
    rw [List.mem_cons, List.mem_cons, List.mem_cons, List.mem_singleton] at hm
    rcases hm with rfl | rfl | rfl | rfl
    · exact ⟨a, b, c, d, rfl, ha, hb, hc, hd⟩
    · exact ⟨a', b', 2 + c', 1, rfl, by omega, by omega, by omega, by omega⟩
    · exact ⟨1, 1, 3, 2, rfl, by omega, by omega, by omega, by omega⟩
    · exact ⟨2, 0, 3, 1, rfl, by omega, by omega, by omega, by omega⟩
  obtain ⟨A, B, C, DD, rfl, hA, hB, hC, hD⟩ := H
  obtain ⟨r, o6, e6, hr0, hr1, o6k⟩ := s_draw o5 6 o5k (by omega) (by omega)
  obtain ⟨f, o7, e7, hf0, hf1, o7k⟩ := s_draw o6 (1 + r) o6k (by omega) (by omega)
  obtain ⟨u1, o8, e8, hu0, hu1, o8k⟩ := s_draw o7 8 o7k (by omega) (by omega)
  obtain ⟨up, o9, e9, hup, o9k⟩ := s_pick o8 [.int 99, .int u1] o8k (by simp) (by simp)
  have H2 : ∃ u : Int, up = .int u ∧ 0 ≤ u ∧ u ≤ 99 := by
    rw [List.mem_cons, List.mem_singleton] at hup
    rcases hup with rfl | rfl
    · exact ⟨99, rfl, by omega, by omega⟩
    · exact ⟨u1, rfl, by omega, by omega⟩
  obtain ⟨u, rfl, hu⟩ := H2
  obtain ⟨dn, o10, e10, hd0, hd1, o10k⟩ := s_draw o9 9 o9k (by omega) (by omega)
  have hl := s_limits A B C DD hA hB hC hD
  have hdue := s_due A B C DD (1 + r) (1 + f) u dn hA hB hC
  have hstr := s_window A B C DD (1 + r) (1 + f) u dn hA hB hC (by omega) (by omega) hu (by omega)
  rw [choice] at hstr
  obtain ⟨s, hs⟩ := reprs _ (due_small (cnd A B C u dn) (1 + r) (1 + f) (by omega) (by omega))
  have hsame := s_same hs
  exact ⟨_, by simp [l_law_1, e1, e2, e3, e4, e5, e6, e7, e8, e9, e10, hl, hdue, hstr, hsame, sizeLine, mkF0, mkF1, fin0, fin1, st0, st1, bnd, Sr.ret, opt, mN, mNB, mB, der, m1, m2, m2b, m2r, mT, asB, mChain, mAnd, mOr, mNot, mAndV, mOrV, mNotV, mIf, mNil, mCons, mTup, mLst, mIsN, mNotN, isNon, mCal, mCal1, mIsi, mFldB, gFld, mC0, mC1, ap0, ap1, chkO, chkL, putL, mMk, apM, skp, sq, sDrop, sRet, sRetO, sIf, sSet, sSetO, sAsg, sPar, gN, gsN, gsC, gT, gA, sApp, sPutI, sNever, mItems, dItems, mRng, mRng2, gRng, gRng2, sFor, turn, gI, gI0, gLt, gLe, gGt, gGe, gAdd, gAddI, gAddS, gAddT, gAddL, Sr.gSub, gMul, gMulI, gDiv, gMod, gPow, gNeg, gEq, gNe, dEq, eqS, gLen, gInt1, gMax2, gMin2, gAbs, gIx, gLtT, dInts, putD, gIsi, dKind, tInt, tOnly, List.map_cons, List.map_nil, List.length_cons, List.length_nil, List.cons_append, List.nil_append, List.getElem?_cons_zero, List.getElem?_cons_succ, List.set_cons_zero, List.set_cons_succ, List.replicate, Option.some_or, Option.none_or, Option.map_some, Option.map_none, Option.bind_some, Option.bind_none]; exact ⟨rfl, rfl, rfl, rfl, rfl, rfl, rfl, rfl, rfl, rfl, rfl⟩, _, _, _, _, _, _, _, _, _, _, _, _, o10k, rfl⟩
def InB (ns : List Int) (e : En) : Prop := ∃ j1 j2 j3 j4 j5 j6 j7 j8 j9 j10 j11 j12, e = [.val (.scr ns), j1, j2, j3, j4, j5, j6, j7, j8, j9, j10, j11, j12]
theorem s_outer (ns : List Int) (k : Int) (hk : 0 ≤ k) (e : En) (h : InB ns e) : ∃ e', turn (gN 1) l_law_2 (.int k) e = .ok .nx e' ∧ InB ns e' := by
  obtain ⟨j1, j2, j3, j4, j5, j6, j7, j8, j9, j10, j11, j12, rfl⟩ := h
  obtain ⟨c, e1⟩ := s_cell ns k hk
  obtain ⟨o, e2, ho⟩ := s_pen c
  obtain ⟨e', h1, k1, o', k3, k4, k5, k6, k7, k8, k9, k10, k11, k12, ho', rfl⟩ := forL_inv (w := gN 3) (b := l_law_1) (InA ns) (ds := rngL 0 6) (e := [.val (.scr ns), .val (.int k), .own o, j3, j4, j5, j6, j7, j8, j9, j10, j11, j12]) (fun d _ e h => s_turn ns d e h) ⟨_, _, _, _, _, _, _, _, _, _, _, _, ho, rfl⟩
  exact ⟨_, by simp [l_law_2, e1, e2, okS (i := 6) (by omega) (by omega), h1, mkF0, mkF1, fin0, fin1, st0, st1, bnd, Sr.ret, opt, mN, mNB, mB, der, m1, m2, m2b, m2r, mT, asB, mChain, mAnd, mOr, mNot, mAndV, mOrV, mNotV, mIf, mNil, mCons, mTup, mLst, mIsN, mNotN, isNon, mCal, mCal1, mIsi, mFldB, gFld, mC0, mC1, ap0, ap1, chkO, chkL, putL, mMk, apM, skp, sq, sDrop, sRet, sRetO, sIf, sSet, sSetO, sAsg, sPar, gN, gsN, gsC, gT, gA, sApp, sPutI, sNever, mItems, dItems, mRng, mRng2, gRng, gRng2, sFor, turn, gI, gI0, gLt, gLe, gGt, gGe, gAdd, gAddI, gAddS, gAddT, gAddL, Sr.gSub, gMul, gMulI, gDiv, gMod, gPow, gNeg, gEq, gNe, dEq, eqS, gLen, gInt1, gMax2, gMin2, gAbs, gIx, gLtT, dInts, putD, gIsi, dKind, tInt, tOnly, List.map_cons, List.map_nil, List.length_cons, List.length_nil, List.cons_append, List.nil_append, List.getElem?_cons_zero, List.getElem?_cons_succ, List.set_cons_zero, List.set_cons_succ, List.replicate, Option.some_or, Option.none_or, Option.map_some, Option.map_none, Option.bind_some, Option.bind_none]; exact ⟨rfl, rfl, rfl, rfl, rfl, rfl, rfl, rfl, rfl, rfl, rfl, rfl⟩, _, _, _, _, _, _, _, _, _, _, _, _, rfl⟩
theorem law_holds (ns : List Int) (hl : ns.length ≤ 63) : f_law .non [.scr ns] = .ok (.bl true) .non := by
  have hm : ∃ m : Int, m = (if (1 : Int) < (if 3 < (ns.length : Int) then 3 else (ns.length : Int)) then (if 3 < (ns.length : Int) then 3 else (ns.length : Int)) else 1) ∧ m ≤ 3 ∧ 0 ≤ m := ⟨_, rfl, by split <;> (try split) <;> omega, by split <;> (try split) <;> omega⟩
  obtain ⟨m, hm, hm1, hm2⟩ := hm
  have h0 : okR m = true := by unfold okR; simp; omega
  obtain ⟨e', h1, k1, k2, k3, k4, k5, k6, k7, k8, k9, k10, k11, k12, rfl⟩ := forL_inv (w := gN 1) (b := l_law_2) (InB ns) (ds := rngL 0 m) (e := [.val (.scr ns), .no, .no, .no, .no, .no, .no, .no, .no, .no, .no, .no, .no]) (fun d hd e h => by
    rw [rngL_eq, List.mem_map] at hd
    obtain ⟨k, hk, rfl⟩ := hd
    exact s_outer ns k (irng_mem hk).1 e h) ⟨_, _, _, _, _, _, _, _, _, _, _, _, rfl⟩
  simp [f_law, b_law, ← hm, h0, h1, mkF0, mkF1, fin0, fin1, st0, st1, bnd, Sr.ret, opt, mN, mNB, mB, der, m1, m2, m2b, m2r, mT, asB, mChain, mAnd, mOr, mNot, mAndV, mOrV, mNotV, mIf, mNil, mCons, mTup, mLst, mIsN, mNotN, isNon, mCal, mCal1, mIsi, mFldB, gFld, mC0, mC1, ap0, ap1, chkO, chkL, putL, mMk, apM, skp, sq, sDrop, sRet, sRetO, sIf, sSet, sSetO, sAsg, sPar, gN, gsN, gsC, gT, gA, sApp, sPutI, sNever, mItems, dItems, mRng, mRng2, gRng, gRng2, sFor, turn, gI, gI0, gLt, gLe, gGt, gGe, gAdd, gAddI, gAddS, gAddT, gAddL, Sr.gSub, gMul, gMulI, gDiv, gMod, gPow, gNeg, gEq, gNe, dEq, eqS, gLen, gInt1, gMax2, gMin2, gAbs, gIx, gLtT, dInts, putD, gIsi, dKind, tInt, tOnly, List.map_cons, List.map_nil, List.length_cons, List.length_nil, List.cons_append, List.nil_append, List.getElem?_cons_zero, List.getElem?_cons_succ, List.set_cons_zero, List.set_cons_succ, List.replicate, Option.some_or, Option.none_or, Option.map_some, Option.map_none, Option.bind_some, Option.bind_none]
end Lw
namespace Lw
open PySem hiding start
open PySem.Spec L2 Sr
open PyProof.Rows hiding St
structure Tx (K : PySem.W.Frag) (mg : Str → Option Value) : Prop where
  f_max : mg "max" = none
  f_int : mg "int" = none
  f_len : mg "len" = none
  f_min : mg "min" = none
  f_isinstance : mg "isinstance" = none
  f_bool : mg "bool" = none
  c_MOST_FALSE : ∃ t, mg "MOST_FALSE" = some (.int 5 t)
  c_MOST_SPAN : ∃ t, mg "MOST_SPAN" = some (.int 5 t)
  c_MOST_SETTLED : ∃ t, mg "MOST_SETTLED" = some (.int 4 t)
  f_range : mg "range" = none
  f_abs : mg "abs" = none
  c_MOST_WISH : ∃ t, mg "MOST_WISH" = some (.int 99 t)
  c_MOST_SIZE : ∃ t, mg "MOST_SIZE" = some (.int 6 t)
  f_repr : mg "repr" = none
  k_Limits : mg "Limits" = some (.ref (He.ga K "Limits"))
  cl_Limits : Cls K (He.ga K "Limits")
  n_Limits_most_passes : NoAttr K (He.ga K "Limits") "most_passes"
  n_Limits_most_fails : NoAttr K (He.ga K "Limits") "most_fails"
  n_Limits_most_checks : NoAttr K (He.ga K "Limits") "most_checks"
  n_Limits_least_stay : NoAttr K (He.ga K "Limits") "least_stay"
  i_int : IsiK K mg (.type "int") isB_int
  i_bool : IsiK K mg (.type "bool") isB_bool
  i_Limits : IsiK K mg (.ref (He.ga K "Limits")) isC_Limits
def gV_Limits_3_settled : List V → List V → List V := fun vs zs => vs ++ zs
theorem rel_Limits_3_settled {K : PySem.W.Frag} {mg : Str → Option Value} (ds es : List D) (vs zs : List V) (F : Hp) (x : Addr) (h1 : RpL K mg F ds vs) (h2 : RpL K mg F es zs) (l1 : ds.length = 3) (l2 : es.length = 1) : ∃ ws, gV_Limits_3_settled (.ref x :: vs) zs = .ref x :: ws ∧ RpL K mg F ((fun ds es => ds ++ es) ds es) ws ∧ ((fun ds es => ds ++ es) ds es).length + 1 = 5 :=
  ⟨vs ++ zs, rfl, h1.append h2, by simp only [List.length_append, l1, l2]⟩
section
variable {P : Program} {w : World} {K : PySem.W.Frag} {mg : Str → Option Value} {base : Heap}
abbrev N__law_pen : List Str := ["_law_cell"]
theorem sc__law_pen : FnScope N__law_pen ["_law_cell"] (defScope st__law_pen) := ⟨rfl, rfl, rfl, by decide +kernel, rfl, by decide +kernel, by decide +kernel⟩
theorem d__law_pen (Z : Tx K mg)  {f : Addr} {cdv : Value} {A : Around} {outer : List Env} {s0 : Shared} {H : Hp} {E : XK} (hr : Room 0 (A.deeper (envOfC "_law_pen" (defScope st__law_pen) s0.heap.objs.size f cdv))) (hgu : A.guards = some []) : JSs (cxOf (L2.CX P w) P w K mg base N__law_pen "_law_pen" (defScope st__law_pen) f cdv A outer s0 H E) none (WE0 E) (defBody st__law_pen) b__law_pen := by
  have hp : Pl (cxOf (L2.CX P w) P w K mg base N__law_pen "_law_pen" (defScope st__law_pen) f cdv A outer s0 H E) 0 := ⟨hr, hgu⟩
  exact (js_one (js_retO (jo_lst (jl_cons (jv_callB (c_max (by rfl)) (by rfl) Z.f_max bt_max (jl_cons jv_int (jl_cons (jv_bin o_sub (jv_name 0 rfl (Or.inl rfl)) (jv_bin o_pow jv_int jv_int)) jl_nil)).ja) (jl_cons (jv_bin o_add (jv_bin o_mod (jv_callTy c_int (by rfl) Z.f_int bt_int (jl_cons (jv_name 0 rfl (Or.inl rfl)) jl_nil).ja) jv_int) jv_int) (jl_cons jv_int jl_nil))).ja)))
theorem ok__law_pen (Z : Tx K mg)  {f : Addr} {fd : FuncData} {kws : List (Str × V)} (G : FunD K "_law_pen" "_law_pen" (defArgs st__law_pen) (defBody st__law_pen) (defScope st__law_pen) [] kws f fd) : FnG P w K mg base 1 f fd ["_law_cell"] (spF0 K mg true 1 f__law_pen) :=
  fn0 (P := P) (w := w) (mg := mg) (base := base) (ro := true) (s := b__law_pen) (N := N__law_pen) (ps := ["_law_cell"]) rfl rfl G sc__law_pen fun cdv A outer s0 H E hr hgu => d__law_pen Z  hr hgu
abbrev N__law_cell_at : List Str := ["_law_script", "_law_k"]
theorem sc__law_cell_at : FnScope N__law_cell_at ["_law_script", "_law_k"] (defScope st__law_cell_at) := ⟨rfl, rfl, rfl, by decide +kernel, rfl, by decide +kernel, by decide +kernel⟩
theorem d__law_cell_at (Z : Tx K mg)  {f : Addr} {cdv : Value} {A : Around} {outer : List Env} {s0 : Shared} {H : Hp} {E : XK} (hr : Room 0 (A.deeper (envOfC "_law_cell_at" (defScope st__law_cell_at) s0.heap.objs.size f cdv))) (hgu : A.guards = some []) : JSs (cxOf (L2.CX P w) P w K mg base N__law_cell_at "_law_cell_at" (defScope st__law_cell_at) f cdv A outer s0 H E) none (WE0 E) (defBody st__law_cell_at) b__law_cell_at := by
  have hp : Pl (cxOf (L2.CX P w) P w K mg base N__law_cell_at "_law_cell_at" (defScope st__law_cell_at) f cdv A outer s0 H E) 0 := ⟨hr, hgu⟩
  exact (js_cons (js_if (jt_cmp (p_lt hp) (jv_name 1 rfl (Or.inl rfl)) (jv_callV1 c_len (by rfl) Z.f_len bt_len (jv_name 0 rfl (Or.inl rfl)))) (js_one (js_ret (jv_ix (jv_name 0 rfl (Or.inl rfl)) (jv_name 1 rfl (Or.inl rfl))))) js_nil)
    (js_one (js_ret jv_int)))
theorem ok__law_cell_at (Z : Tx K mg)  {f : Addr} {fd : FuncData} {kws : List (Str × V)} (G : FunD K "_law_cell_at" "_law_cell_at" (defArgs st__law_cell_at) (defBody st__law_cell_at) (defScope st__law_cell_at) [] kws f fd) : FnG P w K mg base 1 f fd ["_law_script", "_law_k"] (spF0 K mg false 2 f__law_cell_at) :=
  fn0 (P := P) (w := w) (mg := mg) (base := base) (ro := false) (s := b__law_cell_at) (N := N__law_cell_at) (ps := ["_law_script", "_law_k"]) rfl rfl G sc__law_cell_at fun cdv A outer s0 H E hr hgu => d__law_cell_at Z  hr hgu
abbrev N__law_draw : List Str := ["_law_pen_here", "_law_many", "_law_found", "_law_mixed"]
theorem sc__law_draw : FnScope N__law_draw ["_law_pen_here", "_law_many"] (defScope st__law_draw) := ⟨rfl, rfl, rfl, by decide +kernel, rfl, by decide +kernel, by decide +kernel⟩
theorem d__law_draw (Z : Tx K mg)  {f : Addr} {cdv : Value} {A : Around} {outer : List Env} {s0 : Shared} {H : Hp} {E : XK} {p : Addr} (hr : Room 0 (A.deeper (envOfC "_law_draw" (defScope st__law_draw) s0.heap.objs.size f cdv))) (hgu : A.guards = some []) : JSs (cxOf (L2.CX P w) P w K mg base N__law_draw "_law_draw" (defScope st__law_draw) f cdv A outer s0 H E) (some p) (WE0 E) (defBody st__law_draw) b__law_draw := by
  have hp : Pl (cxOf (L2.CX P w) P w K mg base N__law_draw "_law_draw" (defScope st__law_draw) f cdv A outer s0 H E) 0 := ⟨hr, hgu⟩
  exact (js_cons (js_if (jt_cmp p_gt (jv_ixB (jb_name 0 rfl (Or.inl rfl)) jv_int) jv_int) (js_cons (js_set (.inr (by decide)) sc__law_draw.nd rfl (Or.inl rfl) (jv_bin o_mod (jv_callTy c_int (by rfl) Z.f_int bt_int (jl_cons (jv_ixB (jb_name 0 rfl (Or.inl rfl)) jv_int) jl_nil).ja) (jv_name 1 rfl (Or.inl rfl))))
    (js_cons (js_putI rfl (Or.inl rfl) (jv_bin o_div (jv_ixB (jb_name 0 rfl (Or.inl rfl)) jv_int) (jv_name 1 rfl (Or.inl rfl))) jv_int)
    (js_one (js_ret (jv_name 2 rfl (Or.inl rfl)))))) js_nil)
    (js_cons (js_putI rfl (Or.inl rfl) (jv_bin o_add (jv_ixB (jb_name 0 rfl (Or.inl rfl)) jv_int) jv_int) jv_int)
    (js_cons (js_putI rfl (Or.inl rfl) (jv_bin o_mod (jv_callTy c_int (by rfl) Z.f_int bt_int (jl_cons (jv_bin o_add (jv_bin o_add (jv_bin o_mul (jv_ixB (jb_name 0 rfl (Or.inl rfl)) jv_int) jv_int) (jv_bin o_mul jv_int (jv_ixB (jb_name 0 rfl (Or.inl rfl)) jv_int))) jv_int) jl_nil).ja) jv_int) jv_int)
    (js_cons (js_set (.inr (by decide)) sc__law_draw.nd rfl (Or.inl rfl) (jv_bin o_mod (jv_callTy c_int (by rfl) Z.f_int bt_int (jl_cons (jv_bin o_add (jv_bin o_add (jv_bin o_mul (jv_ixB (jb_name 0 rfl (Or.inl rfl)) jv_int) (jv_ixB (jb_name 0 rfl (Or.inl rfl)) jv_int)) (jv_bin o_mul jv_int (jv_ixB (jb_name 0 rfl (Or.inl rfl)) jv_int))) jv_int) jl_nil).ja) jv_int))
    (js_cons (js_set (.inr (by decide)) sc__law_draw.nd rfl (Or.inl rfl) (jv_bin o_mod (jv_callTy c_int (by rfl) Z.f_int bt_int (jl_cons (jv_bin o_add (jv_bin o_mul (jv_name 3 rfl (Or.inl rfl)) (jv_name 3 rfl (Or.inl rfl))) (jv_bin o_mul jv_int (jv_name 3 rfl (Or.inl rfl)))) jl_nil).ja) jv_int))
    (js_one (js_ret (jv_bin o_mod (jv_callTy c_int (by rfl) Z.f_int bt_int (jl_cons (jv_bin o_div (jv_name 3 rfl (Or.inl rfl)) jv_int) jl_nil).ja) (jv_name 1 rfl (Or.inl rfl))))))))))
theorem ok__law_draw (Z : Tx K mg)  {f : Addr} {fd : FuncData} {kws : List (Str × V)} (G : FunD K "_law_draw" "_law_draw" (defArgs st__law_draw) (defBody st__law_draw) (defScope st__law_draw) [] kws f fd) : FnG P w K mg base 1 f fd ["_law_pen_here", "_law_many"] (spF1 K mg false 2 f__law_draw) :=
  fn1 (P := P) (w := w) (mg := mg) (base := base) (ro := false) (s := b__law_draw) (N := N__law_draw) (ps := ["_law_pen_here", "_law_many"]) rfl rfl G sc__law_draw fun cdv A outer s0 H E p hr hgu => d__law_draw Z  hr hgu
abbrev N__law_pick : List Str := ["_law_pen_here", "_law_values"]
theorem sc__law_pick : FnScope N__law_pick ["_law_pen_here", "_law_values"] (defScope st__law_pick) := ⟨rfl, rfl, rfl, by decide +kernel, rfl, by decide +kernel, by decide +kernel⟩
theorem d__law_pick (Z : Tx K mg) (hF__law_draw : FnC P w K mg base 1 "_law_draw" (spF1 K mg false 2 f__law_draw) ["_law_pen_here", "_law_many"] []) {f : Addr} {cdv : Value} {A : Around} {outer : List Env} {s0 : Shared} {H : Hp} {E : XK} {p : Addr} (hr : Room 1 (A.deeper (envOfC "_law_pick" (defScope st__law_pick) s0.heap.objs.size f cdv))) (hgu : A.guards = some []) : JSs (cxOf (L2.CX P w) P w K mg base N__law_pick "_law_pick" (defScope st__law_pick) f cdv A outer s0 H E) (some p) (WE0 E) (defBody st__law_pick) b__law_pick := by
  have hp : Pl (cxOf (L2.CX P w) P w K mg base N__law_pick "_law_pick" (defScope st__law_pick) f cdv A outer s0 H E) 1 := ⟨hr, hgu⟩
  exact (js_one (js_ret (jv_ix (jv_name 1 rfl (Or.inl rfl)) (jv_c1 0 ⟨hF__law_draw⟩ hp (takes_of rfl rfl rfl rfl) nodd (by rfl) (by rfl) (Or.inl rfl) (jl_cons (jv_callV1 c_len (by rfl) Z.f_len bt_len (jv_name 1 rfl (Or.inl rfl))) jl_nil)))))
theorem ok__law_pick (Z : Tx K mg) (hF__law_draw : FnC P w K mg base 1 "_law_draw" (spF1 K mg false 2 f__law_draw) ["_law_pen_here", "_law_many"] []) {f : Addr} {fd : FuncData} {kws : List (Str × V)} (G : FunD K "_law_pick" "_law_pick" (defArgs st__law_pick) (defBody st__law_pick) (defScope st__law_pick) [] kws f fd) : FnG P w K mg base 2 f fd ["_law_pen_here", "_law_values"] (spF1 K mg false 2 f__law_pick) :=
  fn1 (P := P) (w := w) (mg := mg) (base := base) (ro := false) (s := b__law_pick) (N := N__law_pick) (ps := ["_law_pen_here", "_law_values"]) rfl rfl G sc__law_pick fun cdv A outer s0 H E p hr hgu => d__law_pick Z hF__law_draw hr hgu
abbrev N__law_numbers : List Str := ["_law_pen_here", "_law_most", "_law_span", "_law_wide"]
theorem sc__law_numbers : FnScope N__law_numbers ["_law_pen_here", "_law_most"] (defScope st__law_numbers) := ⟨rfl, rfl, rfl, by decide +kernel, rfl, by decide +kernel, by decide +kernel⟩
theorem d__law_numbers (Z : Tx K mg) (hF__law_draw : FnC P w K mg base 1 "_law_draw" (spF1 K mg false 2 f__law_draw) ["_law_pen_here", "_law_many"] []) {f : Addr} {cdv : Value} {A : Around} {outer : List Env} {s0 : Shared} {H : Hp} {E : XK} {p : Addr} (hr : Room 1 (A.deeper (envOfC "_law_numbers" (defScope st__law_numbers) s0.heap.objs.size f cdv))) (hgu : A.guards = some []) : JSs (cxOf (L2.CX P w) P w K mg base N__law_numbers "_law_numbers" (defScope st__law_numbers) f cdv A outer s0 H E) (some p) (WE0 E) (defBody st__law_numbers) b__law_numbers := by
  have hp : Pl (cxOf (L2.CX P w) P w K mg base N__law_numbers "_law_numbers" (defScope st__law_numbers) f cdv A outer s0 H E) 1 := ⟨hr, hgu⟩
  exact (js_cons (js_set (.inr (by decide)) sc__law_numbers.nd rfl (Or.inl rfl) (jv_bin o_add jv_int (jv_c1 0 ⟨hF__law_draw⟩ hp (takes_of rfl rfl rfl rfl) nodd (by rfl) (by rfl) (Or.inl rfl) (jl_cons (jv_name 1 rfl (Or.inl rfl)) jl_nil))))
    (js_cons (js_set (.inr (by decide)) sc__law_numbers.nd rfl (Or.inl rfl) (jv_callB (c_min (by rfl)) (by rfl) Z.f_min bt_min (jl_cons jv_int (jl_cons (jv_bin o_add (jv_name 2 rfl (Or.inl rfl)) jv_int) jl_nil)).ja))
    (js_one (js_ret (jv_tup (jl_cons (jv_c1 0 ⟨hF__law_draw⟩ hp (takes_of rfl rfl rfl rfl) nodd (by rfl) (by rfl) (Or.inl rfl) (jl_cons (jv_name 3 rfl (Or.inl rfl)) jl_nil)) (jl_cons (jv_c1 0 ⟨hF__law_draw⟩ hp (takes_of rfl rfl rfl rfl) nodd (by rfl) (by rfl) (Or.inl rfl) (jl_cons (jv_name 3 rfl (Or.inl rfl)) jl_nil)) (jl_cons (jv_name 2 rfl (Or.inl rfl)) (jl_cons (jv_bin o_add jv_int (jv_c1 0 ⟨hF__law_draw⟩ hp (takes_of rfl rfl rfl rfl) nodd (by rfl) (by rfl) (Or.inl rfl) (jl_cons jv_int jl_nil))) jl_nil)))).ja)))))
theorem ok__law_numbers (Z : Tx K mg) (hF__law_draw : FnC P w K mg base 1 "_law_draw" (spF1 K mg false 2 f__law_draw) ["_law_pen_here", "_law_many"] []) {f : Addr} {fd : FuncData} {kws : List (Str × V)} (G : FunD K "_law_numbers" "_law_numbers" (defArgs st__law_numbers) (defBody st__law_numbers) (defScope st__law_numbers) [] kws f fd) : FnG P w K mg base 2 f fd ["_law_pen_here", "_law_most"] (spF1 K mg false 2 f__law_numbers) :=
  fn1 (P := P) (w := w) (mg := mg) (base := base) (ro := false) (s := b__law_numbers) (N := N__law_numbers) (ps := ["_law_pen_here", "_law_most"]) rfl rfl G sc__law_numbers fun cdv A outer s0 H E p hr hgu => d__law_numbers Z hF__law_draw hr hgu
abbrev N_is_integer : List Str := ["value"]
theorem sc_is_integer : FnScope N_is_integer ["value"] (defScope st_is_integer) := ⟨rfl, rfl, rfl, by decide +kernel, rfl, by decide +kernel, by decide +kernel⟩
theorem d_is_integer (Z : Tx K mg)  {f : Addr} {cdv : Value} {A : Around} {outer : List Env} {s0 : Shared} {H : Hp} {E : XK} (hr : Room 0 (A.deeper (envOfC "is_integer" (defScope st_is_integer) s0.heap.objs.size f cdv))) (hgu : A.guards = some []) : JSs (cxOf (L2.CX P w) P w K mg base N_is_integer "is_integer" (defScope st_is_integer) f cdv A outer s0 H E) none (WE0 E) (defBody st_is_integer) b_is_integer := by
  have hp : Pl (cxOf (L2.CX P w) P w K mg base N_is_integer "is_integer" (defScope st_is_integer) f cdv A outer s0 H E) 0 := ⟨hr, hgu⟩
  exact (js_one (js_ret (jv_and (jv_isiB Z.i_int (by rfl) Z.f_isinstance (by rfl) Z.f_int bt_int (jv_name 0 rfl (Or.inl rfl))) (jv_one (jv_not (jv_isiB Z.i_bool (by rfl) Z.f_isinstance (by rfl) Z.f_bool bt_bool (jv_name 0 rfl (Or.inl rfl))))))))
theorem ok_is_integer (Z : Tx K mg)  {f : Addr} {fd : FuncData} {kws : List (Str × V)} (G : FunD K "is_integer" "is_integer" (defArgs st_is_integer) (defBody st_is_integer) (defScope st_is_integer) [] kws f fd) : FnG P w K mg base 1 f fd ["value"] (spF0 K mg false 1 f_is_integer) :=
  fn0 (P := P) (w := w) (mg := mg) (base := base) (ro := false) (s := b_is_integer) (N := N_is_integer) (ps := ["value"]) rfl rfl G sc_is_integer fun cdv A outer s0 H E hr hgu => d_is_integer Z  hr hgu
abbrev N_is_between : List Str := ["value", "low", "high"]
theorem sc_is_between : FnScope N_is_between ["value", "low", "high"] (defScope st_is_between) := ⟨rfl, rfl, rfl, by decide +kernel, rfl, by decide +kernel, by decide +kernel⟩
theorem d_is_between (Z : Tx K mg) (hF_is_integer : FnC P w K mg base 1 "is_integer" (spF0 K mg false 1 f_is_integer) ["value"] []) {f : Addr} {cdv : Value} {A : Around} {outer : List Env} {s0 : Shared} {H : Hp} {E : XK} (hr : Room 1 (A.deeper (envOfC "is_between" (defScope st_is_between) s0.heap.objs.size f cdv))) (hgu : A.guards = some []) : JSs (cxOf (L2.CX P w) P w K mg base N_is_between "is_between" (defScope st_is_between) f cdv A outer s0 H E) none (WE0 E) (defBody st_is_between) b_is_between := by
  have hp : Pl (cxOf (L2.CX P w) P w K mg base N_is_between "is_between" (defScope st_is_between) f cdv A outer s0 H E) 1 := ⟨hr, hgu⟩
  exact (js_one (js_ret (jv_and (jv_c0 ⟨hF_is_integer⟩ hp (takes_of rfl rfl rfl rfl) nodd (by rfl) (jl_cons (jv_name 0 rfl (Or.inl rfl)) jl_nil)) (jv_one (jv_chain p_le p_le (jv_name 1 rfl (Or.inl rfl)) (jv_name 0 rfl (Or.inl rfl)) (jv_name 2 rfl (Or.inl rfl)))))))
theorem ok_is_between (Z : Tx K mg) (hF_is_integer : FnC P w K mg base 1 "is_integer" (spF0 K mg false 1 f_is_integer) ["value"] []) {f : Addr} {fd : FuncData} {kws : List (Str × V)} (G : FunD K "is_between" "is_between" (defArgs st_is_between) (defBody st_is_between) (defScope st_is_between) [] kws f fd) : FnG P w K mg base 2 f fd ["value", "low", "high"] (spF0 K mg false 3 f_is_between) :=
  fn0 (P := P) (w := w) (mg := mg) (base := base) (ro := false) (s := b_is_between) (N := N_is_between) (ps := ["value", "low", "high"]) rfl rfl G sc_is_between fun cdv A outer s0 H E hr hgu => d_is_between Z hF_is_integer hr hgu
abbrev N_LimitsU_initU : List Str := ["self", "false_passes", "false_fails", "span", "settled", "bounds", "value", "low", "high"]
theorem sc_LimitsU_initU : FnScope N_LimitsU_initU ["self", "false_passes", "false_fails", "span", "settled"] (defScope st_LimitsU_initU) := ⟨rfl, rfl, rfl, by decide +kernel, rfl, by decide +kernel, by decide +kernel⟩
theorem d_LimitsU_initU (Z : Tx K mg) (hF_is_between : FnC P w K mg base 2 "is_between" (spF0 K mg false 3 f_is_between) ["value", "low", "high"] []) {f : Addr} {cdv : Value} {A : Around} {outer : List Env} {s0 : Shared} {H : Hp} {E : XK} {p : Addr} (hr : Room 2 (A.deeper (envOfC "Limits.__init__" (defScope st_LimitsU_initU) s0.heap.objs.size f cdv))) (hgu : A.guards = some []) : JSs (cxOf (L2.CX P w) P w K mg base N_LimitsU_initU "Limits.__init__" (defScope st_LimitsU_initU) f cdv A outer s0 H E) (some p) (WE0 E) (defBody st_LimitsU_initU) b_LimitsU_initU := by
  have hp : Pl (cxOf (L2.CX P w) P w K mg base N_LimitsU_initU "Limits.__init__" (defScope st_LimitsU_initU) f cdv A outer s0 H E) 2 := ⟨hr, hgu⟩
  exact (js_cons (js_set (.inr (by decide)) sc_LimitsU_initU.nd rfl (Or.inl rfl) (jv_tup (jl_cons (jv_tup (jl_cons (jv_name 1 rfl (Or.inl rfl)) (jl_cons jv_int (jl_cons (jv_gI (by rfl) Z.c_MOST_FALSE) jl_nil))).ja) (jl_cons (jv_tup (jl_cons (jv_name 2 rfl (Or.inl rfl)) (jl_cons jv_int (jl_cons (jv_gI (by rfl) Z.c_MOST_FALSE) jl_nil))).ja) (jl_cons (jv_tup (jl_cons (jv_name 3 rfl (Or.inl rfl)) (jl_cons jv_int (jl_cons (jv_gI (by rfl) Z.c_MOST_SPAN) jl_nil))).ja) jl_nil))).ja))
    (js_cons (js_for (passes_of rfl) rfl (ji_v (jv_bin o_add (jv_name 5 rfl (Or.inl rfl)) (jv_tup (jl_cons (jv_tup (jl_cons (jv_name 4 rfl (Or.inl rfl)) (jl_cons jv_int (jl_cons (jv_gI (by rfl) Z.c_MOST_SETTLED) jl_nil))).ja) jl_nil).ja))) (jg_tup rfl (jgs_cons (jg_name (.inr (by decide)) sc_LimitsU_initU.nd rfl (Or.inl rfl)) (jgs_cons (jg_name (.inr (by decide)) sc_LimitsU_initU.nd rfl (Or.inl rfl)) (jgs_cons (jg_name (.inr (by decide)) sc_LimitsU_initU.nd rfl (Or.inl rfl)) jgs_nil)))) (ne_tup (nes_cons ne_name (nes_cons ne_name (nes_cons ne_name nes_nil))))
    (js_one (js_if (jt_not (jt_val (jv_c0 ⟨hF_is_between⟩ hp (takes_of rfl rfl rfl rfl) nodd (by rfl) (jl_cons (jv_name 6 rfl (Or.inl rfl)) (jl_cons (jv_name 7 rfl (Or.inl rfl)) (jl_cons (jv_name 8 rfl (Or.inl rfl)) jl_nil)))))) (js_one js_never) js_nil)))
    (js_cons (js_asg (jv_tup (jl_cons (jv_name 1 rfl (Or.inl rfl)) (jl_cons (jv_name 2 rfl (Or.inl rfl)) jl_nil)).ja) (jg_tup rfl (jgs_cons (jg_attr ⟨Z.k_Limits, Z.cl_Limits⟩ Z.n_Limits_most_passes rfl (Or.inl rfl)) (jgs_cons (jg_attr ⟨Z.k_Limits, Z.cl_Limits⟩ Z.n_Limits_most_fails rfl (Or.inl rfl)) jgs_nil))) (ne_tup (nes_cons ne_attr (nes_cons ne_attr nes_nil))))
    (js_one (js_asg (jv_tup (jl_cons (jv_name 3 rfl (Or.inl rfl)) (jl_cons (jv_name 4 rfl (Or.inl rfl)) jl_nil)).ja) (jg_tup rfl (jgs_cons (jg_attr ⟨Z.k_Limits, Z.cl_Limits⟩ Z.n_Limits_most_checks rfl (Or.inl rfl)) (jgs_cons (jg_attr ⟨Z.k_Limits, Z.cl_Limits⟩ Z.n_Limits_least_stay rfl (Or.inl rfl)) jgs_nil))) (ne_tup (nes_cons ne_attr (nes_cons ne_attr nes_nil))))))))
theorem ok_LimitsU_initU (Z : Tx K mg) (hF_is_between : FnC P w K mg base 2 "is_between" (spF0 K mg false 3 f_is_between) ["value", "low", "high"] []) {f : Addr} {fd : FuncData} {kws : List (Str × V)} (G : FunD K "__init__" "Limits.__init__" (defArgs st_LimitsU_initU) (defBody st_LimitsU_initU) (defScope st_LimitsU_initU) [] kws f fd) : FnG P w K mg base 3 f fd ["self", "false_passes", "false_fails", "span", "settled"] (spF1 K mg false 5 f_LimitsU_initU) :=
  fn1 (P := P) (w := w) (mg := mg) (base := base) (ro := false) (s := b_LimitsU_initU) (N := N_LimitsU_initU) (ps := ["self", "false_passes", "false_fails", "span", "settled"]) rfl rfl G sc_LimitsU_initU fun cdv A outer s0 H E p hr hgu => d_LimitsU_initU Z hF_is_between hr hgu
abbrev N__law_limits : List Str := ["_law_numbers_here"]
theorem sc__law_limits : FnScope N__law_limits ["_law_numbers_here"] (defScope st__law_limits) := ⟨rfl, rfl, rfl, by decide +kernel, rfl, by decide +kernel, by decide +kernel⟩
theorem d__law_limits (Z : Tx K mg) (hM_Limits_3_settled : ∃ f fd g, Mk K (He.ga K "Limits") f ∧ FnG P w K mg base 3 f fd ["self", "false_passes", "false_fails", "span", "settled"] (spF1 K mg false 5 f_LimitsU_initU) ∧ KBn K fd ["self", "false_passes", "false_fails", "span", "settled"] 4 ["settled"] g gV_Limits_3_settled) {f : Addr} {cdv : Value} {A : Around} {outer : List Env} {s0 : Shared} {H : Hp} {E : XK} (hr : Room 4 (A.deeper (envOfC "_law_limits" (defScope st__law_limits) s0.heap.objs.size f cdv))) (hgu : A.guards = some []) : JSs (cxOf (L2.CX P w) P w K mg base N__law_limits "_law_limits" (defScope st__law_limits) f cdv A outer s0 H E) none (WE0 E) (defBody st__law_limits) b__law_limits := by
  have hp : Pl (cxOf (L2.CX P w) P w K mg base N__law_limits "_law_limits" (defScope st__law_limits) f cdv A outer s0 H E) 4 := ⟨hr, hgu⟩
  exact (js_one (js_ret (ofO (jo_make (C := He.ga K "Limits") ⟨⟨Z.k_Limits, Z.cl_Limits⟩, hM_Limits_3_settled⟩ (hp.room.mono (by decide)) hp.gu (takes_of rfl rfl rfl rfl) (by rfl) (jl_cons (jv_ix (jv_name 0 rfl (Or.inl rfl)) jv_int) (jl_cons (jv_ix (jv_name 0 rfl (Or.inl rfl)) jv_int) (jl_cons (jv_ix (jv_name 0 rfl (Or.inl rfl)) jv_int) jl_nil))) (jk_cons (jv_ix (jv_name 0 rfl (Or.inl rfl)) jv_int) jk_nil) rel_Limits_3_settled))))
theorem ok__law_limits (Z : Tx K mg) (hM_Limits_3_settled : ∃ f fd g, Mk K (He.ga K "Limits") f ∧ FnG P w K mg base 3 f fd ["self", "false_passes", "false_fails", "span", "settled"] (spF1 K mg false 5 f_LimitsU_initU) ∧ KBn K fd ["self", "false_passes", "false_fails", "span", "settled"] 4 ["settled"] g gV_Limits_3_settled) {f : Addr} {fd : FuncData} {kws : List (Str × V)} (G : FunD K "_law_limits" "_law_limits" (defArgs st__law_limits) (defBody st__law_limits) (defScope st__law_limits) [] kws f fd) : FnG P w K mg base 5 f fd ["_law_numbers_here"] (spF0 K mg false 1 f__law_limits) :=
  fn0 (P := P) (w := w) (mg := mg) (base := base) (ro := false) (s := b__law_limits) (N := N__law_limits) (ps := ["_law_numbers_here"]) rfl rfl G sc__law_limits fun cdv A outer s0 H E hr hgu => d__law_limits Z hM_Limits_3_settled hr hgu
abbrev N__law_errors : List Str := ["_law_errors_here", "_law_span", "_law_many", "_law_at"]
theorem sc__law_errors : FnScope N__law_errors ["_law_errors_here", "_law_span", "_law_many"] (defScope st__law_errors) := ⟨rfl, rfl, rfl, by decide +kernel, rfl, by decide +kernel, by decide +kernel⟩
theorem d__law_errors (Z : Tx K mg)  {f : Addr} {cdv : Value} {A : Around} {outer : List Env} {s0 : Shared} {H : Hp} {E : XK} (hr : Room 0 (A.deeper (envOfC "_law_errors" (defScope st__law_errors) s0.heap.objs.size f cdv))) (hgu : A.guards = some []) : JSs (cxOf (L2.CX P w) P w K mg base N__law_errors "_law_errors" (defScope st__law_errors) f cdv A outer s0 H E) none (WE0 E) (defBody st__law_errors) b__law_errors := by
  have hp : Pl (cxOf (L2.CX P w) P w K mg base N__law_errors "_law_errors" (defScope st__law_errors) f cdv A outer s0 H E) 0 := ⟨hr, hgu⟩
  exact (js_one (js_ret (jv_callV1 c_len (by rfl) Z.f_len bt_len (ofO (jo_lc [("_law_at", 3)] hp rfl sc__law_errors.nd (.inl rfl) (blkOk_by (by rfl)) (ji_range1 (by rfl) Z.f_range (jl_cons (jv_name 2 rfl (Or.inl rfl)) jl_nil).ja) (fun s1 H1 C1 cl1 fp1 hp => (jh_name (.inl rfl) sc__law_errors.nd rfl (Or.inl rfl) (by decide))) (fun s1 H1 C1 cl1 fp1 hp => (jts_one (jt_cmp (p_lt hp) (jv_bin o_mod (jv_callTy c_int (by rfl) Z.f_int bt_int (jl_cons (jv_name 3 rfl (Or.inl rfl)) jl_nil).ja) (jv_name 1 rfl (Or.inr (Or.inl rfl)))) (jv_name 0 rfl (Or.inr (Or.inl rfl)))))) (fun s1 H1 C1 cl1 fp1 hp => jv_int))))))
theorem ok__law_errors (Z : Tx K mg)  {f : Addr} {fd : FuncData} {kws : List (Str × V)} (G : FunD K "_law_errors" "_law_errors" (defArgs st__law_errors) (defBody st__law_errors) (defScope st__law_errors) [] kws f fd) : FnG P w K mg base 1 f fd ["_law_errors_here", "_law_span", "_law_many"] (spF0 K mg false 3 f__law_errors) :=
  fn0 (P := P) (w := w) (mg := mg) (base := base) (ro := false) (s := b__law_errors) (N := N__law_errors) (ps := ["_law_errors_here", "_law_span", "_law_many"]) rfl rfl G sc__law_errors fun cdv A outer s0 H E hr hgu => d__law_errors Z  hr hgu
abbrev N__law_bound : List Str := ["_law_errors_here", "_law_span", "_law_size", "_law_needed", "_law_many"]
theorem sc__law_bound : FnScope N__law_bound ["_law_errors_here", "_law_span", "_law_size", "_law_needed"] (defScope st__law_bound) := ⟨rfl, rfl, rfl, by decide +kernel, rfl, by decide +kernel, by decide +kernel⟩
theorem d__law_bound (Z : Tx K mg) (hF__law_errors : FnC P w K mg base 1 "_law_errors" (spF0 K mg false 3 f__law_errors) ["_law_errors_here", "_law_span", "_law_many"] []) {f : Addr} {cdv : Value} {A : Around} {outer : List Env} {s0 : Shared} {H : Hp} {E : XK} (hr : Room 1 (A.deeper (envOfC "_law_bound" (defScope st__law_bound) s0.heap.objs.size f cdv))) (hgu : A.guards = some []) : JSs (cxOf (L2.CX P w) P w K mg base N__law_bound "_law_bound" (defScope st__law_bound) f cdv A outer s0 H E) none (WE0 E) (defBody st__law_bound) b__law_bound := by
  have hp : Pl (cxOf (L2.CX P w) P w K mg base N__law_bound "_law_bound" (defScope st__law_bound) f cdv A outer s0 H E) 1 := ⟨hr, hgu⟩
  exact (js_cons (js_for (passes_of rfl) rfl (ji_range1 (by rfl) Z.f_range (jl_cons (jv_bin o_add (jv_name 2 rfl (Or.inl rfl)) jv_int) jl_nil).ja) (jg_name (.inl rfl) sc__law_bound.nd rfl (Or.inl rfl)) ne_name
    (js_one (js_if (jt_cmp (p_lt hp) (jv_bin o_add (jv_bin o_sub (jv_name 2 rfl (Or.inl rfl)) (jv_name 4 rfl (Or.inl rfl))) (jv_c0 ⟨hF__law_errors⟩ hp (takes_of rfl rfl rfl rfl) nodd (by rfl) (jl_cons (jv_name 0 rfl (Or.inl rfl)) (jl_cons (jv_name 1 rfl (Or.inl rfl)) (jl_cons (jv_name 4 rfl (Or.inl rfl)) jl_nil))))) (jv_name 3 rfl (Or.inl rfl))) (js_one (js_ret (jv_name 4 rfl (Or.inl rfl)))) js_nil)))
    (js_one (js_ret jv_non)))
theorem ok__law_bound (Z : Tx K mg) (hF__law_errors : FnC P w K mg base 1 "_law_errors" (spF0 K mg false 3 f__law_errors) ["_law_errors_here", "_law_span", "_law_many"] []) {f : Addr} {fd : FuncData} {kws : List (Str × V)} (G : FunD K "_law_bound" "_law_bound" (defArgs st__law_bound) (defBody st__law_bound) (defScope st__law_bound) [] kws f fd) : FnG P w K mg base 2 f fd ["_law_errors_here", "_law_span", "_law_size", "_law_needed"] (spF0 K mg false 4 f__law_bound) :=
  fn0 (P := P) (w := w) (mg := mg) (base := base) (ro := false) (s := b__law_bound) (N := N__law_bound) (ps := ["_law_errors_here", "_law_span", "_law_size", "_law_needed"]) rfl rfl G sc__law_bound fun cdv A outer s0 H E hr hgu => d__law_bound Z hF__law_errors hr hgu
abbrev N__law_is_wished : List Str := ["_law_errors_here", "_law_span", "_law_size", "_law_needed", "_law_wish", "_law_found"]
theorem sc__law_is_wished : FnScope N__law_is_wished ["_law_errors_here", "_law_span", "_law_size", "_law_needed", "_law_wish"] (defScope st__law_is_wished) := ⟨rfl, rfl, rfl, by decide +kernel, rfl, by decide +kernel, by decide +kernel⟩
theorem d__law_is_wished (Z : Tx K mg) (hF__law_bound : FnC P w K mg base 2 "_law_bound" (spF0 K mg false 4 f__law_bound) ["_law_errors_here", "_law_span", "_law_size", "_law_needed"] []) {f : Addr} {cdv : Value} {A : Around} {outer : List Env} {s0 : Shared} {H : Hp} {E : XK} (hr : Room 2 (A.deeper (envOfC "_law_is_wished" (defScope st__law_is_wished) s0.heap.objs.size f cdv))) (hgu : A.guards = some []) : JSs (cxOf (L2.CX P w) P w K mg base N__law_is_wished "_law_is_wished" (defScope st__law_is_wished) f cdv A outer s0 H E) none (WE0 E) (defBody st__law_is_wished) b__law_is_wished := by
  have hp : Pl (cxOf (L2.CX P w) P w K mg base N__law_is_wished "_law_is_wished" (defScope st__law_is_wished) f cdv A outer s0 H E) 2 := ⟨hr, hgu⟩
  exact (js_cons (js_set (.inl rfl) sc__law_is_wished.nd rfl (Or.inl rfl) (jv_c0 ⟨hF__law_bound⟩ hp (takes_of rfl rfl rfl rfl) nodd (by rfl) (jl_cons (jv_name 0 rfl (Or.inl rfl)) (jl_cons (jv_name 1 rfl (Or.inl rfl)) (jl_cons (jv_name 2 rfl (Or.inl rfl)) (jl_cons (jv_name 3 rfl (Or.inl rfl)) jl_nil))))))
    (js_one (js_ret (jv_and (jv_notN (jv_name 5 rfl (Or.inl rfl))) (jv_one (jv_cmp p_le (jv_name 5 rfl (Or.inl rfl)) (jv_name 4 rfl (Or.inl rfl))))))))
theorem ok__law_is_wished (Z : Tx K mg) (hF__law_bound : FnC P w K mg base 2 "_law_bound" (spF0 K mg false 4 f__law_bound) ["_law_errors_here", "_law_span", "_law_size", "_law_needed"] []) {f : Addr} {fd : FuncData} {kws : List (Str × V)} (G : FunD K "_law_is_wished" "_law_is_wished" (defArgs st__law_is_wished) (defBody st__law_is_wished) (defScope st__law_is_wished) [] kws f fd) : FnG P w K mg base 3 f fd ["_law_errors_here", "_law_span", "_law_size", "_law_needed", "_law_wish"] (spF0 K mg false 5 f__law_is_wished) :=
  fn0 (P := P) (w := w) (mg := mg) (base := base) (ro := false) (s := b__law_is_wished) (N := N__law_is_wished) (ps := ["_law_errors_here", "_law_span", "_law_size", "_law_needed", "_law_wish"]) rfl rfl G sc__law_is_wished fun cdv A outer s0 H E hr hgu => d__law_is_wished Z hF__law_bound hr hgu
abbrev N__law_due : List Str := ["_law_numbers_here", "_law_size", "_law_least", "_law_up", "_law_down", "_law_best", "_law_one", "_law_other", "_law_change"]
theorem sc__law_due : FnScope N__law_due ["_law_numbers_here", "_law_size", "_law_least", "_law_up", "_law_down"] (defScope st__law_due) := ⟨rfl, rfl, rfl, by decide +kernel, rfl, by decide +kernel, by decide +kernel⟩
theorem d__law_due (Z : Tx K mg) (hF__law_is_wished : FnC P w K mg base 3 "_law_is_wished" (spF0 K mg false 5 f__law_is_wished) ["_law_errors_here", "_law_span", "_law_size", "_law_needed", "_law_wish"] []) {f : Addr} {cdv : Value} {A : Around} {outer : List Env} {s0 : Shared} {H : Hp} {E : XK} (hr : Room 3 (A.deeper (envOfC "_law_due" (defScope st__law_due) s0.heap.objs.size f cdv))) (hgu : A.guards = some []) : JSs (cxOf (L2.CX P w) P w K mg base N__law_due "_law_due" (defScope st__law_due) f cdv A outer s0 H E) none (WE0 E) (defBody st__law_due) b__law_due := by
  have hp : Pl (cxOf (L2.CX P w) P w K mg base N__law_due "_law_due" (defScope st__law_due) f cdv A outer s0 H E) 3 := ⟨hr, hgu⟩
  exact (js_cons (js_set (.inl rfl) sc__law_due.nd rfl (Or.inl rfl) jv_non)
    (js_cons (js_for (passes_of rfl) rfl (ji_range2 (by rfl) Z.f_range (jl_cons jv_int (jl_cons jv_int jl_nil)).ja) (jg_name (.inl rfl) sc__law_due.nd rfl (Or.inl rfl)) ne_name
    (js_one (js_for (passes_of rfl) rfl (ji_range2 (by rfl) Z.f_range (jl_cons jv_int (jl_cons (jv_bin o_add (jv_name 6 rfl (Or.inl rfl)) jv_int) jl_nil)).ja) (jg_name (.inl rfl) sc__law_due.nd rfl (Or.inl rfl)) ne_name
    (js_one (js_if (jt_val (jv_c0 ⟨hF__law_is_wished⟩ hp (takes_of rfl rfl rfl rfl) nodd (by rfl) (jl_cons (jv_ix (jv_name 0 rfl (Or.inl rfl)) jv_int) (jl_cons (jv_ix (jv_name 0 rfl (Or.inl rfl)) jv_int) (jl_cons (jv_name 6 rfl (Or.inl rfl)) (jl_cons (jv_bin o_add (jv_bin o_sub (jv_name 6 rfl (Or.inl rfl)) (jv_name 7 rfl (Or.inl rfl))) jv_int) (jl_cons (jv_name 3 rfl (Or.inl rfl)) jl_nil))))))) (js_one (js_if (jt_val (jv_c0 ⟨hF__law_is_wished⟩ hp (takes_of rfl rfl rfl rfl) nodd (by rfl) (jl_cons (jv_ix (jv_name 0 rfl (Or.inl rfl)) jv_int) (jl_cons (jv_ix (jv_name 0 rfl (Or.inl rfl)) jv_int) (jl_cons (jv_name 6 rfl (Or.inl rfl)) (jl_cons (jv_name 7 rfl (Or.inl rfl)) (jl_cons (jv_name 4 rfl (Or.inl rfl)) jl_nil))))))) (js_cons (js_set (.inl rfl) sc__law_due.nd rfl (Or.inl rfl) (jv_bin o_add (jv_callB c_abs (by rfl) Z.f_abs bt_abs (jl_cons (jv_bin o_sub (jv_name 6 rfl (Or.inl rfl)) (jv_name 1 rfl (Or.inl rfl))) jl_nil).ja) (jv_callB c_abs (by rfl) Z.f_abs bt_abs (jl_cons (jv_bin o_sub (jv_name 7 rfl (Or.inl rfl)) (jv_name 2 rfl (Or.inl rfl))) jl_nil).ja)))
    (js_one (js_if (ofW (jw_or (jt_isN (jv_name 5 rfl (Or.inl rfl))) (jw_or1 (jt_cmp (p_lt hp) (jv_name 8 rfl (Or.inl rfl)) (jv_ix (jv_name 5 rfl (Or.inl rfl)) jv_int))))) (js_one (js_set (.inl rfl) sc__law_due.nd rfl (Or.inl rfl) (jv_tup (jl_cons (jv_name 8 rfl (Or.inl rfl)) (jl_cons (jv_name 6 rfl (Or.inl rfl)) (jl_cons (jv_name 7 rfl (Or.inl rfl)) jl_nil))).ja))) js_nil))) js_nil)) js_nil)))))
    (js_one (js_ret (jv_name 5 rfl (Or.inl rfl))))))
theorem ok__law_due (Z : Tx K mg) (hF__law_is_wished : FnC P w K mg base 3 "_law_is_wished" (spF0 K mg false 5 f__law_is_wished) ["_law_errors_here", "_law_span", "_law_size", "_law_needed", "_law_wish"] []) {f : Addr} {fd : FuncData} {kws : List (Str × V)} (G : FunD K "_law_due" "_law_due" (defArgs st__law_due) (defBody st__law_due) (defScope st__law_due) [] kws f fd) : FnG P w K mg base 4 f fd ["_law_numbers_here", "_law_size", "_law_least", "_law_up", "_law_down"] (spF0 K mg false 5 f__law_due) :=
  fn0 (P := P) (w := w) (mg := mg) (base := base) (ro := false) (s := b__law_due) (N := N__law_due) (ps := ["_law_numbers_here", "_law_size", "_law_least", "_law_up", "_law_down"]) rfl rfl G sc__law_due fun cdv A outer s0 H E hr hgu => d__law_due Z hF__law_is_wished hr hgu
abbrev N_check_limits : List Str := ["value"]
theorem sc_check_limits : FnScope N_check_limits ["value"] (defScope st_check_limits) := ⟨rfl, rfl, rfl, by decide +kernel, rfl, by decide +kernel, by decide +kernel⟩
theorem d_check_limits (Z : Tx K mg)  {f : Addr} {cdv : Value} {A : Around} {outer : List Env} {s0 : Shared} {H : Hp} {E : XK} (hr : Room 0 (A.deeper (envOfC "check_limits" (defScope st_check_limits) s0.heap.objs.size f cdv))) (hgu : A.guards = some []) : JSs (cxOf (L2.CX P w) P w K mg base N_check_limits "check_limits" (defScope st_check_limits) f cdv A outer s0 H E) none (WE0 E) (defBody st_check_limits) b_check_limits := by
  have hp : Pl (cxOf (L2.CX P w) P w K mg base N_check_limits "check_limits" (defScope st_check_limits) f cdv A outer s0 H E) 0 := ⟨hr, hgu⟩
  exact (js_one (js_if (jt_not (jt_val (jv_isiC (C := He.ga K "Limits") Z.i_Limits (by rfl) Z.f_isinstance (by rfl) Z.k_Limits (jv_name 0 rfl (Or.inl rfl))))) (js_one js_never) js_nil))
theorem ok_check_limits (Z : Tx K mg)  {f : Addr} {fd : FuncData} {kws : List (Str × V)} (G : FunD K "check_limits" "check_limits" (defArgs st_check_limits) (defBody st_check_limits) (defScope st_check_limits) [] kws f fd) : FnG P w K mg base 1 f fd ["value"] (spF0 K mg false 1 f_check_limits) :=
  fn0 (P := P) (w := w) (mg := mg) (base := base) (ro := false) (s := b_check_limits) (N := N_check_limits) (ps := ["value"]) rfl rfl G sc_check_limits fun cdv A outer s0 H E hr hgu => d_check_limits Z  hr hgu
abbrev N_check_number : List Str := ["value", "low", "high"]
theorem sc_check_number : FnScope N_check_number ["value", "low", "high"] (defScope st_check_number) := ⟨rfl, rfl, rfl, by decide +kernel, rfl, by decide +kernel, by decide +kernel⟩
theorem d_check_number (Z : Tx K mg) (hF_is_between : FnC P w K mg base 2 "is_between" (spF0 K mg false 3 f_is_between) ["value", "low", "high"] []) {f : Addr} {cdv : Value} {A : Around} {outer : List Env} {s0 : Shared} {H : Hp} {E : XK} (hr : Room 2 (A.deeper (envOfC "check_number" (defScope st_check_number) s0.heap.objs.size f cdv))) (hgu : A.guards = some []) : JSs (cxOf (L2.CX P w) P w K mg base N_check_number "check_number" (defScope st_check_number) f cdv A outer s0 H E) none (WE0 E) (defBody st_check_number) b_check_number := by
  have hp : Pl (cxOf (L2.CX P w) P w K mg base N_check_number "check_number" (defScope st_check_number) f cdv A outer s0 H E) 2 := ⟨hr, hgu⟩
  exact (js_one (js_if (jt_not (jt_val (jv_c0 ⟨hF_is_between⟩ hp (takes_of rfl rfl rfl rfl) nodd (by rfl) (jl_cons (jv_name 0 rfl (Or.inl rfl)) (jl_cons (jv_name 1 rfl (Or.inl rfl)) (jl_cons (jv_name 2 rfl (Or.inl rfl)) jl_nil)))))) (js_one js_never) js_nil))
theorem ok_check_number (Z : Tx K mg) (hF_is_between : FnC P w K mg base 2 "is_between" (spF0 K mg false 3 f_is_between) ["value", "low", "high"] []) {f : Addr} {fd : FuncData} {kws : List (Str × V)} (G : FunD K "check_number" "check_number" (defArgs st_check_number) (defBody st_check_number) (defScope st_check_number) [] kws f fd) : FnG P w K mg base 3 f fd ["value", "low", "high"] (spF0 K mg false 3 f_check_number) :=
  fn0 (P := P) (w := w) (mg := mg) (base := base) (ro := false) (s := b_check_number) (N := N_check_number) (ps := ["value", "low", "high"]) rfl rfl G sc_check_number fun cdv A outer s0 H E hr hgu => d_check_number Z hF_is_between hr hgu
abbrev N_check_wish : List Str := ["up", "down"]
theorem sc_check_wish : FnScope N_check_wish ["up", "down"] (defScope st_check_wish) := ⟨rfl, rfl, rfl, by decide +kernel, rfl, by decide +kernel, by decide +kernel⟩
theorem d_check_wish (Z : Tx K mg) (hF_check_number : FnC P w K mg base 3 "check_number" (spF0 K mg false 3 f_check_number) ["value", "low", "high"] []) {f : Addr} {cdv : Value} {A : Around} {outer : List Env} {s0 : Shared} {H : Hp} {E : XK} (hr : Room 3 (A.deeper (envOfC "check_wish" (defScope st_check_wish) s0.heap.objs.size f cdv))) (hgu : A.guards = some []) : JSs (cxOf (L2.CX P w) P w K mg base N_check_wish "check_wish" (defScope st_check_wish) f cdv A outer s0 H E) none (WE0 E) (defBody st_check_wish) b_check_wish := by
  have hp : Pl (cxOf (L2.CX P w) P w K mg base N_check_wish "check_wish" (defScope st_check_wish) f cdv A outer s0 H E) 3 := ⟨hr, hgu⟩
  exact (js_cons (js_expr (jv_c0 ⟨hF_check_number⟩ hp (takes_of rfl rfl rfl rfl) nodd (by rfl) (jl_cons (jv_name 0 rfl (Or.inl rfl)) (jl_cons jv_int (jl_cons (jv_gI (by rfl) Z.c_MOST_WISH) jl_nil)))))
    (js_one (js_expr (jv_c0 ⟨hF_check_number⟩ hp (takes_of rfl rfl rfl rfl) nodd (by rfl) (jl_cons (jv_name 1 rfl (Or.inl rfl)) (jl_cons jv_int (jl_cons (jv_gI (by rfl) Z.c_MOST_WISH) jl_nil)))))))
theorem ok_check_wish (Z : Tx K mg) (hF_check_number : FnC P w K mg base 3 "check_number" (spF0 K mg false 3 f_check_number) ["value", "low", "high"] []) {f : Addr} {fd : FuncData} {kws : List (Str × V)} (G : FunD K "check_wish" "check_wish" (defArgs st_check_wish) (defBody st_check_wish) (defScope st_check_wish) [] kws f fd) : FnG P w K mg base 4 f fd ["up", "down"] (spF0 K mg false 2 f_check_wish) :=
  fn0 (P := P) (w := w) (mg := mg) (base := base) (ro := false) (s := b_check_wish) (N := N_check_wish) (ps := ["up", "down"]) rfl rfl G sc_check_wish fun cdv A outer s0 H E hr hgu => d_check_wish Z hF_check_number hr hgu
abbrev N_most_errors : List Str := ["errors", "span", "many"]
theorem sc_most_errors : FnScope N_most_errors ["errors", "span", "many"] (defScope st_most_errors) := ⟨rfl, rfl, rfl, by decide +kernel, rfl, by decide +kernel, by decide +kernel⟩
theorem d_most_errors (Z : Tx K mg)  {f : Addr} {cdv : Value} {A : Around} {outer : List Env} {s0 : Shared} {H : Hp} {E : XK} (hr : Room 0 (A.deeper (envOfC "most_errors" (defScope st_most_errors) s0.heap.objs.size f cdv))) (hgu : A.guards = some []) : JSs (cxOf (L2.CX P w) P w K mg base N_most_errors "most_errors" (defScope st_most_errors) f cdv A outer s0 H E) none (WE0 E) (defBody st_most_errors) b_most_errors := by
  have hp : Pl (cxOf (L2.CX P w) P w K mg base N_most_errors "most_errors" (defScope st_most_errors) f cdv A outer s0 H E) 0 := ⟨hr, hgu⟩
  exact (js_one (js_ret (jv_bin o_add (jv_bin o_mul (jv_name 0 rfl (Or.inl rfl)) (jv_bin o_div (jv_name 2 rfl (Or.inl rfl)) (jv_name 1 rfl (Or.inl rfl)))) (jv_callB (c_min (by rfl)) (by rfl) Z.f_min bt_min (jl_cons (jv_callTy c_int (by rfl) Z.f_int bt_int (jl_cons (jv_name 0 rfl (Or.inl rfl)) jl_nil).ja) (jl_cons (jv_bin o_mod (jv_callTy c_int (by rfl) Z.f_int bt_int (jl_cons (jv_name 2 rfl (Or.inl rfl)) jl_nil).ja) (jv_name 1 rfl (Or.inl rfl))) jl_nil)).ja))))
theorem ok_most_errors (Z : Tx K mg)  {f : Addr} {fd : FuncData} {kws : List (Str × V)} (G : FunD K "most_errors" "most_errors" (defArgs st_most_errors) (defBody st_most_errors) (defScope st_most_errors) [] kws f fd) : FnG P w K mg base 1 f fd ["errors", "span", "many"] (spF0 K mg false 3 f_most_errors) :=
  fn0 (P := P) (w := w) (mg := mg) (base := base) (ro := false) (s := b_most_errors) (N := N_most_errors) (ps := ["errors", "span", "many"]) rfl rfl G sc_most_errors fun cdv A outer s0 H E hr hgu => d_most_errors Z  hr hgu
abbrev N_window_bound : List Str := ["errors", "span", "size", "needed", "late", "many"]
theorem sc_window_bound : FnScope N_window_bound ["errors", "span", "size", "needed"] (defScope st_window_bound) := ⟨rfl, rfl, rfl, by decide +kernel, rfl, by decide +kernel, by decide +kernel⟩
theorem d_window_bound (Z : Tx K mg) (hF_most_errors : FnC P w K mg base 1 "most_errors" (spF0 K mg false 3 f_most_errors) ["errors", "span", "many"] []) {f : Addr} {cdv : Value} {A : Around} {outer : List Env} {s0 : Shared} {H : Hp} {E : XK} (hr : Room 1 (A.deeper (envOfC "window_bound" (defScope st_window_bound) s0.heap.objs.size f cdv))) (hgu : A.guards = some []) : JSs (cxOf (L2.CX P w) P w K mg base N_window_bound "window_bound" (defScope st_window_bound) f cdv A outer s0 H E) none (WE0 E) (defBody st_window_bound) b_window_bound := by
  have hp : Pl (cxOf (L2.CX P w) P w K mg base N_window_bound "window_bound" (defScope st_window_bound) f cdv A outer s0 H E) 1 := ⟨hr, hgu⟩
  exact (js_cons (js_if (jt_cmp p_ge (jv_c0 ⟨hF_most_errors⟩ hp (takes_of rfl rfl rfl rfl) nodd (by rfl) (jl_cons (jv_name 0 rfl (Or.inr (Or.inl rfl))) (jl_cons (jv_name 1 rfl (Or.inr (Or.inl rfl))) (jl_cons (jv_name 2 rfl (Or.inr (Or.inl rfl))) jl_nil)))) (jv_name 3 rfl (Or.inr (Or.inl rfl)))) (js_one (js_ret jv_non)) js_nil)
    (js_cons (js_setLc [("many", 5)] hp rfl sc_window_bound.nd (.inl rfl) (blkOk_by (by rfl)) (.inl rfl) rfl rfl (sw_true rfl rfl rfl rfl) (ji_range1 (by rfl) Z.f_range (jl_cons (jv_name 2 rfl (Or.inr (Or.inl rfl))) jl_nil).ja) (fun s1 H1 C1 cl1 fp1 hp => (jh_name (.inl rfl) sc_window_bound.nd rfl (Or.inl rfl) (by decide))) (fun s1 H1 C1 cl1 fp1 hp => (jts_one (jt_cmp p_ge (jv_bin o_add (jv_bin o_sub (jv_name 2 rfl (Or.inr (Or.inl rfl))) (jv_name 5 rfl (Or.inl rfl))) (jv_c0 ⟨hF_most_errors⟩ hp Sr.takes0 nodd (by rfl) (jl_cons (jv_name 0 rfl (Or.inr (Or.inl rfl))) (jl_cons (jv_name 1 rfl (Or.inr (Or.inl rfl))) (jl_cons (jv_name 5 rfl (Or.inl rfl)) jl_nil))))) (jv_name 3 rfl (Or.inr (Or.inl rfl)))))) (fun s1 H1 C1 cl1 fp1 hp => (jv_name 5 rfl (Or.inl rfl))))
    (js_one (js_ret (jv_bin o_add (jv_ix (jv_name 4 rfl (Or.inl rfl)) (jv_neg jv_int)) jv_int)))))
theorem ok_window_bound (Z : Tx K mg) (hF_most_errors : FnC P w K mg base 1 "most_errors" (spF0 K mg false 3 f_most_errors) ["errors", "span", "many"] []) {f : Addr} {fd : FuncData} {kws : List (Str × V)} (G : FunD K "window_bound" "window_bound" (defArgs st_window_bound) (defBody st_window_bound) (defScope st_window_bound) [] kws f fd) : FnG P w K mg base 2 f fd ["errors", "span", "size", "needed"] (spF0 K mg false 4 f_window_bound) :=
  fn0 (P := P) (w := w) (mg := mg) (base := base) (ro := false) (s := b_window_bound) (N := N_window_bound) (ps := ["errors", "span", "size", "needed"]) rfl rfl G sc_window_bound fun cdv A outer s0 H E hr hgu => d_window_bound Z hF_most_errors hr hgu
abbrev N_is_within : List Str := ["found", "wish"]
theorem sc_is_within : FnScope N_is_within ["found", "wish"] (defScope st_is_within) := ⟨rfl, rfl, rfl, by decide +kernel, rfl, by decide +kernel, by decide +kernel⟩
theorem d_is_within (Z : Tx K mg)  {f : Addr} {cdv : Value} {A : Around} {outer : List Env} {s0 : Shared} {H : Hp} {E : XK} (hr : Room 0 (A.deeper (envOfC "is_within" (defScope st_is_within) s0.heap.objs.size f cdv))) (hgu : A.guards = some []) : JSs (cxOf (L2.CX P w) P w K mg base N_is_within "is_within" (defScope st_is_within) f cdv A outer s0 H E) none (WE0 E) (defBody st_is_within) b_is_within := by
  have hp : Pl (cxOf (L2.CX P w) P w K mg base N_is_within "is_within" (defScope st_is_within) f cdv A outer s0 H E) 0 := ⟨hr, hgu⟩
  exact (js_one (js_ret (jv_and (jv_notN (jv_name 0 rfl (Or.inl rfl))) (jv_one (jv_cmp p_le (jv_name 0 rfl (Or.inl rfl)) (jv_name 1 rfl (Or.inl rfl)))))))
theorem ok_is_within (Z : Tx K mg)  {f : Addr} {fd : FuncData} {kws : List (Str × V)} (G : FunD K "is_within" "is_within" (defArgs st_is_within) (defBody st_is_within) (defScope st_is_within) [] kws f fd) : FnG P w K mg base 1 f fd ["found", "wish"] (spF0 K mg false 2 f_is_within) :=
  fn0 (P := P) (w := w) (mg := mg) (base := base) (ro := false) (s := b_is_within) (N := N_is_within) (ps := ["found", "wish"]) rfl rfl G sc_is_within fun cdv A outer s0 H E hr hgu => d_is_within Z  hr hgu
abbrev N_nearest : List Str := ["start", "choices", "best", "one", "other", "found"]
theorem sc_nearest : FnScope N_nearest ["start", "choices"] (defScope st_nearest) := ⟨rfl, rfl, rfl, by decide +kernel, rfl, by decide +kernel, by decide +kernel⟩
theorem d_nearest (Z : Tx K mg)  {f : Addr} {cdv : Value} {A : Around} {outer : List Env} {s0 : Shared} {H : Hp} {E : XK} (hr : Room 0 (A.deeper (envOfC "nearest" (defScope st_nearest) s0.heap.objs.size f cdv))) (hgu : A.guards = some []) : JSs (cxOf (L2.CX P w) P w K mg base N_nearest "nearest" (defScope st_nearest) f cdv A outer s0 H E) none (WE0 E) (defBody st_nearest) b_nearest := by
  have hp : Pl (cxOf (L2.CX P w) P w K mg base N_nearest "nearest" (defScope st_nearest) f cdv A outer s0 H E) 0 := ⟨hr, hgu⟩
  exact (js_cons (js_set (.inl rfl) sc_nearest.nd rfl (Or.inl rfl) jv_non)
    (js_cons (js_for (passes_of rfl) rfl (ji_v (jv_name 1 rfl (Or.inl rfl))) (jg_tup rfl (jgs_cons (jg_name (.inl rfl) sc_nearest.nd rfl (Or.inl rfl)) (jgs_cons (jg_name (.inl rfl) sc_nearest.nd rfl (Or.inl rfl)) jgs_nil))) (ne_tup (nes_cons ne_name (nes_cons ne_name nes_nil)))
    (js_cons (js_set (.inl rfl) sc_nearest.nd rfl (Or.inl rfl) (jv_tup (jl_cons (jv_bin o_add (jv_callB c_abs (by rfl) Z.f_abs bt_abs (jl_cons (jv_bin o_sub (jv_name 3 rfl (Or.inl rfl)) (jv_ix (jv_name 0 rfl (Or.inl rfl)) jv_int)) jl_nil).ja) (jv_callB c_abs (by rfl) Z.f_abs bt_abs (jl_cons (jv_bin o_sub (jv_name 4 rfl (Or.inl rfl)) (jv_ix (jv_name 0 rfl (Or.inl rfl)) jv_int)) jl_nil).ja)) (jl_cons (jv_name 3 rfl (Or.inl rfl)) (jl_cons (jv_name 4 rfl (Or.inl rfl)) jl_nil))).ja))
    (js_one (js_if (ofW (jw_or (jt_isN (jv_name 2 rfl (Or.inl rfl))) (jw_or1 (jt_cmp (p_lt hp) (jv_name 5 rfl (Or.inl rfl)) (jv_name 2 rfl (Or.inl rfl)))))) (js_one (js_set (.inl rfl) sc_nearest.nd rfl (Or.inl rfl) (jv_name 5 rfl (Or.inl rfl)))) js_nil))))
    (js_one (js_ret (jv_name 2 rfl (Or.inl rfl))))))
theorem ok_nearest (Z : Tx K mg)  {f : Addr} {fd : FuncData} {kws : List (Str × V)} (G : FunD K "nearest" "nearest" (defArgs st_nearest) (defBody st_nearest) (defScope st_nearest) [] kws f fd) : FnG P w K mg base 1 f fd ["start", "choices"] (spF0 K mg false 2 f_nearest) :=
  fn0 (P := P) (w := w) (mg := mg) (base := base) (ro := false) (s := b_nearest) (N := N_nearest) (ps := ["start", "choices"]) rfl rfl G sc_nearest fun cdv A outer s0 H E hr hgu => d_nearest Z  hr hgu
abbrev N_nearest_window : List Str := ["limits", "size", "least", "up", "down", "found", "one", "other", "its_up", "its_down"]
theorem sc_nearest_window : FnScope N_nearest_window ["limits", "size", "least", "up", "down"] (defScope st_nearest_window) := ⟨rfl, rfl, rfl, by decide +kernel, rfl, by decide +kernel, by decide +kernel⟩
theorem d_nearest_window (Z : Tx K mg) (hF_check_limits : FnC P w K mg base 1 "check_limits" (spF0 K mg false 1 f_check_limits) ["value"] []) (hF_check_number : FnC P w K mg base 3 "check_number" (spF0 K mg false 3 f_check_number) ["value", "low", "high"] []) (hF_check_wish : FnC P w K mg base 4 "check_wish" (spF0 K mg false 2 f_check_wish) ["up", "down"] []) (hF_window_bound : FnC P w K mg base 2 "window_bound" (spF0 K mg false 4 f_window_bound) ["errors", "span", "size", "needed"] []) (hP_false_fails : ∃ pp ga fd, PropOf K (He.ga K "Limits") "false_fails" pp ga ∧ FnOk P w K mg base CX0 1 ga fd ["self"] (getSp (He.ga K "Limits") "most_fails") ∧ Binds K fd ["self"] []) (hP_span : ∃ pp ga fd, PropOf K (He.ga K "Limits") "span" pp ga ∧ FnOk P w K mg base CX0 1 ga fd ["self"] (getSp (He.ga K "Limits") "most_checks") ∧ Binds K fd ["self"] []) (hP_false_passes : ∃ pp ga fd, PropOf K (He.ga K "Limits") "false_passes" pp ga ∧ FnOk P w K mg base CX0 1 ga fd ["self"] (getSp (He.ga K "Limits") "most_passes") ∧ Binds K fd ["self"] []) (hF_is_within : FnC P w K mg base 1 "is_within" (spF0 K mg false 2 f_is_within) ["found", "wish"] []) (hF_nearest : FnC P w K mg base 1 "nearest" (spF0 K mg false 2 f_nearest) ["start", "choices"] []) {f : Addr} {cdv : Value} {A : Around} {outer : List Env} {s0 : Shared} {H : Hp} {E : XK} (hr : Room 4 (A.deeper (envOfC "nearest_window" (defScope st_nearest_window) s0.heap.objs.size f cdv))) (hgu : A.guards = some []) : JSs (cxOf (L2.CX P w) P w K mg base N_nearest_window "nearest_window" (defScope st_nearest_window) f cdv A outer s0 H E) none (WE0 E) (defBody st_nearest_window) b_nearest_window := by
  have hp : Pl (cxOf (L2.CX P w) P w K mg base N_nearest_window "nearest_window" (defScope st_nearest_window) f cdv A outer s0 H E) 4 := ⟨hr, hgu⟩
  exact (js_cons (js_expr (jv_c0 ⟨hF_check_limits⟩ hp (takes_of rfl rfl rfl rfl) nodd (by rfl) (jl_cons (jv_name 0 rfl (Or.inl rfl)) jl_nil)))
    (js_cons (js_expr (jv_c0 ⟨hF_check_number⟩ hp (takes_of rfl rfl rfl rfl) nodd (by rfl) (jl_cons (jv_name 1 rfl (Or.inl rfl)) (jl_cons jv_int (jl_cons (jv_gI (by rfl) Z.c_MOST_SIZE) jl_nil)))))
    (js_cons (js_expr (jv_c0 ⟨hF_check_number⟩ hp (takes_of rfl rfl rfl rfl) nodd (by rfl) (jl_cons (jv_name 2 rfl (Or.inl rfl)) (jl_cons jv_int (jl_cons (jv_name 1 rfl (Or.inl rfl)) jl_nil)))))
    (js_cons (js_expr (jv_c0 ⟨hF_check_wish⟩ hp (takes_of rfl rfl rfl rfl) nodd (by rfl) (jl_cons (jv_name 3 rfl (Or.inl rfl)) (jl_cons (jv_name 4 rfl (Or.inl rfl)) jl_nil))))
    (js_cons (js_setO (.inl rfl) sc_nearest_window.nd rfl (Or.inl rfl) (jo_lst jl_nil.ja))
    (js_cons (js_for (passes_of rfl) rfl (ji_range2 (by rfl) Z.f_range (jl_cons jv_int (jl_cons (jv_bin o_add (jv_gI (by rfl) Z.c_MOST_SIZE) jv_int) jl_nil)).ja) (jg_name (.inl rfl) sc_nearest_window.nd rfl (Or.inl rfl)) ne_name
    (js_one (js_for (passes_of rfl) rfl (ji_range2 (by rfl) Z.f_range (jl_cons jv_int (jl_cons (jv_bin o_add (jv_name 6 rfl (Or.inl rfl)) jv_int) jl_nil)).ja) (jg_name (.inl rfl) sc_nearest_window.nd rfl (Or.inl rfl)) ne_name
    (js_cons (js_set (.inl rfl) sc_nearest_window.nd rfl (Or.inl rfl) (jv_c0 ⟨hF_window_bound⟩ hp (takes_of rfl rfl rfl rfl) nodd (by rfl) (jl_cons (jv_propV ⟨⟨Z.k_Limits, Z.cl_Limits⟩, hP_false_fails⟩ hp (jv_name 0 rfl (Or.inl rfl))) (jl_cons (jv_propV ⟨⟨Z.k_Limits, Z.cl_Limits⟩, hP_span⟩ hp (jv_name 0 rfl (Or.inl rfl))) (jl_cons (jv_name 6 rfl (Or.inl rfl)) (jl_cons (jv_bin o_add (jv_bin o_sub (jv_name 6 rfl (Or.inl rfl)) (jv_name 7 rfl (Or.inl rfl))) jv_int) jl_nil))))))
    (js_cons (js_set (.inl rfl) sc_nearest_window.nd rfl (Or.inl rfl) (jv_c0 ⟨hF_window_bound⟩ hp (takes_of rfl rfl rfl rfl) nodd (by rfl) (jl_cons (jv_propV ⟨⟨Z.k_Limits, Z.cl_Limits⟩, hP_false_passes⟩ hp (jv_name 0 rfl (Or.inl rfl))) (jl_cons (jv_propV ⟨⟨Z.k_Limits, Z.cl_Limits⟩, hP_span⟩ hp (jv_name 0 rfl (Or.inl rfl))) (jl_cons (jv_name 6 rfl (Or.inl rfl)) (jl_cons (jv_name 7 rfl (Or.inl rfl)) jl_nil))))))
    (js_one (js_if (ofW (jw_and (jt_val (jv_c0 ⟨hF_is_within⟩ hp (takes_of rfl rfl rfl rfl) nodd (by rfl) (jl_cons (jv_name 8 rfl (Or.inl rfl)) (jl_cons (jv_name 3 rfl (Or.inl rfl)) jl_nil)))) (jw_and1 (jt_val (jv_c0 ⟨hF_is_within⟩ hp (takes_of rfl rfl rfl rfl) nodd (by rfl) (jl_cons (jv_name 9 rfl (Or.inl rfl)) (jl_cons (jv_name 4 rfl (Or.inl rfl)) jl_nil))))))) (js_one (js_append (i := 5) rfl (Or.inl rfl) (jv_tup (jl_cons (jv_name 6 rfl (Or.inl rfl)) (jl_cons (jv_name 7 rfl (Or.inl rfl)) jl_nil)).ja))) js_nil)))))))
    (js_one (js_ret (jv_c0 ⟨hF_nearest⟩ hp (takes_of rfl rfl rfl rfl) nodd (by rfl) (jl_cons (jv_tup (jl_cons (jv_name 1 rfl (Or.inl rfl)) (jl_cons (jv_name 2 rfl (Or.inl rfl)) jl_nil)).ja) (jl_cons (jv_name 5 rfl (Or.inl rfl)) jl_nil)))))))))))
theorem ok_nearest_window (Z : Tx K mg) (hF_check_limits : FnC P w K mg base 1 "check_limits" (spF0 K mg false 1 f_check_limits) ["value"] []) (hF_check_number : FnC P w K mg base 3 "check_number" (spF0 K mg false 3 f_check_number) ["value", "low", "high"] []) (hF_check_wish : FnC P w K mg base 4 "check_wish" (spF0 K mg false 2 f_check_wish) ["up", "down"] []) (hF_window_bound : FnC P w K mg base 2 "window_bound" (spF0 K mg false 4 f_window_bound) ["errors", "span", "size", "needed"] []) (hP_false_fails : ∃ pp ga fd, PropOf K (He.ga K "Limits") "false_fails" pp ga ∧ FnOk P w K mg base CX0 1 ga fd ["self"] (getSp (He.ga K "Limits") "most_fails") ∧ Binds K fd ["self"] []) (hP_span : ∃ pp ga fd, PropOf K (He.ga K "Limits") "span" pp ga ∧ FnOk P w K mg base CX0 1 ga fd ["self"] (getSp (He.ga K "Limits") "most_checks") ∧ Binds K fd ["self"] []) (hP_false_passes : ∃ pp ga fd, PropOf K (He.ga K "Limits") "false_passes" pp ga ∧ FnOk P w K mg base CX0 1 ga fd ["self"] (getSp (He.ga K "Limits") "most_passes") ∧ Binds K fd ["self"] []) (hF_is_within : FnC P w K mg base 1 "is_within" (spF0 K mg false 2 f_is_within) ["found", "wish"] []) (hF_nearest : FnC P w K mg base 1 "nearest" (spF0 K mg false 2 f_nearest) ["start", "choices"] []) {f : Addr} {fd : FuncData} {kws : List (Str × V)} (G : FunD K "nearest_window" "nearest_window" (defArgs st_nearest_window) (defBody st_nearest_window) (defScope st_nearest_window) [] kws f fd) : FnG P w K mg base 5 f fd ["limits", "size", "least", "up", "down"] (spF0 K mg false 5 f_nearest_window) :=
  fn0 (P := P) (w := w) (mg := mg) (base := base) (ro := false) (s := b_nearest_window) (N := N_nearest_window) (ps := ["limits", "size", "least", "up", "down"]) rfl rfl G sc_nearest_window fun cdv A outer s0 H E hr hgu => d_nearest_window Z hF_check_limits hF_check_number hF_check_wish hF_window_bound hP_false_fails hP_span hP_false_passes hF_is_within hF_nearest hr hgu
abbrev N__law_same : List Str := ["_law_found", "_law_due_here"]
theorem sc__law_same : FnScope N__law_same ["_law_found", "_law_due_here"] (defScope st__law_same) := ⟨rfl, rfl, rfl, by decide +kernel, rfl, by decide +kernel, by decide +kernel⟩
theorem d__law_same (Z : Tx K mg)  {f : Addr} {cdv : Value} {A : Around} {outer : List Env} {s0 : Shared} {H : Hp} {E : XK} (hr : Room 0 (A.deeper (envOfC "_law_same" (defScope st__law_same) s0.heap.objs.size f cdv))) (hgu : A.guards = some []) : JSs (cxOf (L2.CX P w) P w K mg base N__law_same "_law_same" (defScope st__law_same) f cdv A outer s0 H E) none (WE0 E) (defBody st__law_same) b__law_same := by
  have hp : Pl (cxOf (L2.CX P w) P w K mg base N__law_same "_law_same" (defScope st__law_same) f cdv A outer s0 H E) 0 := ⟨hr, hgu⟩
  exact (js_one (js_ret (jv_cmp (o_eq hp.u64) (jv_callV1 (c_repr hp.gu hp.u100) (by rfl) Z.f_repr bt_repr (jv_name 0 rfl (Or.inl rfl))) (jv_callV1 (c_repr hp.gu hp.u100) (by rfl) Z.f_repr bt_repr (jv_name 1 rfl (Or.inl rfl))))))
theorem ok__law_same (Z : Tx K mg)  {f : Addr} {fd : FuncData} {kws : List (Str × V)} (G : FunD K "_law_same" "_law_same" (defArgs st__law_same) (defBody st__law_same) (defScope st__law_same) [] kws f fd) : FnG P w K mg base 1 f fd ["_law_found", "_law_due_here"] (spF0 K mg false 2 f__law_same) :=
  fn0 (P := P) (w := w) (mg := mg) (base := base) (ro := false) (s := b__law_same) (N := N__law_same) (ps := ["_law_found", "_law_due_here"]) rfl rfl G sc__law_same fun cdv A outer s0 H E hr hgu => d__law_same Z  hr hgu
abbrev N_law : List Str := ["_law_script", "_law_k", "_law_pen_here", "_law_turn", "_law_some", "_law_numbers_here", "_law_limits_here", "_law_size", "_law_least", "_law_up", "_law_down", "_law_due_here", "_law_found"]
theorem sc_law : FnScope N_law ["_law_script"] (defScope st_law) := ⟨rfl, rfl, rfl, by decide +kernel, rfl, by decide +kernel, by decide +kernel⟩
theorem d_law (Z : Tx K mg) (hF__law_pen : FnC P w K mg base 1 "_law_pen" (spF0 K mg true 1 f__law_pen) ["_law_cell"] []) (hF__law_cell_at : FnC P w K mg base 1 "_law_cell_at" (spF0 K mg false 2 f__law_cell_at) ["_law_script", "_law_k"] []) (hF__law_draw : FnC P w K mg base 1 "_law_draw" (spF1 K mg false 2 f__law_draw) ["_law_pen_here", "_law_many"] []) (hF__law_pick : FnC P w K mg base 2 "_law_pick" (spF1 K mg false 2 f__law_pick) ["_law_pen_here", "_law_values"] []) (hF__law_numbers : FnC P w K mg base 2 "_law_numbers" (spF1 K mg false 2 f__law_numbers) ["_law_pen_here", "_law_most"] []) (hF__law_limits : FnC P w K mg base 5 "_law_limits" (spF0 K mg false 1 f__law_limits) ["_law_numbers_here"] []) (hF__law_due : FnC P w K mg base 4 "_law_due" (spF0 K mg false 5 f__law_due) ["_law_numbers_here", "_law_size", "_law_least", "_law_up", "_law_down"] []) (hF_nearest_window : FnC P w K mg base 5 "nearest_window" (spF0 K mg false 5 f_nearest_window) ["limits", "size", "least", "up", "down"] []) (hF__law_same : FnC P w K mg base 1 "_law_same" (spF0 K mg false 2 f__law_same) ["_law_found", "_law_due_here"] []) {f : Addr} {cdv : Value} {A : Around} {outer : List Env} {s0 : Shared} {H : Hp} {E : XK} (hr : Room 5 (A.deeper (envOfC "law" (defScope st_law) s0.heap.objs.size f cdv))) (hgu : A.guards = some []) : JSs (cxOf (L2.CX P w) P w K mg base N_law "law" (defScope st_law) f cdv A outer s0 H E) none (WE0 E) (defBody st_law) b_law := by
  have hp : Pl (cxOf (L2.CX P w) P w K mg base N_law "law" (defScope st_law) f cdv A outer s0 H E) 5 := ⟨hr, hgu⟩
  exact (js_cons (js_for (passes_of rfl) rfl (ji_range1 (by rfl) Z.f_range (jl_cons (jv_callB (c_max (by rfl)) (by rfl) Z.f_max bt_max (jl_cons jv_int (jl_cons (jv_callB (c_min (by rfl)) (by rfl) Z.f_min bt_min (jl_cons (jv_callV1 c_len (by rfl) Z.f_len bt_len (jv_name 0 rfl (Or.inl rfl))) (jl_cons jv_int jl_nil)).ja) jl_nil)).ja) jl_nil).ja) (jg_name (.inl rfl) sc_law.nd rfl (Or.inl rfl)) ne_name
    (js_cons (js_setO (.inl rfl) sc_law.nd rfl (Or.inl rfl) (jo_c0 ⟨hF__law_pen⟩ hp (takes_of rfl rfl rfl rfl) nodd (by rfl) (jl_cons (jv_c0 ⟨hF__law_cell_at⟩ hp (takes_of rfl rfl rfl rfl) nodd (by rfl) (jl_cons (jv_name 0 rfl (Or.inl rfl)) (jl_cons (jv_name 1 rfl (Or.inl rfl)) jl_nil))) jl_nil)))
    (js_one (js_for (passes_of rfl) rfl (ji_range1 (by rfl) Z.f_range (jl_cons jv_int jl_nil).ja) (jg_name (.inl rfl) sc_law.nd rfl (Or.inl rfl)) ne_name
    (js_cons (js_set (.inl rfl) sc_law.nd rfl (Or.inl rfl) (ofO (jo_lst (jl_cons (jv_tup (jl_cons (jv_c1 2 ⟨hF__law_draw⟩ hp (takes_of rfl rfl rfl rfl) nodd (by rfl) (by rfl) (Or.inl rfl) (jl_cons jv_int jl_nil)) (jl_cons (jv_c1 2 ⟨hF__law_draw⟩ hp (takes_of rfl rfl rfl rfl) nodd (by rfl) (by rfl) (Or.inl rfl) (jl_cons jv_int jl_nil)) (jl_cons (jv_bin o_add jv_int (jv_c1 2 ⟨hF__law_draw⟩ hp (takes_of rfl rfl rfl rfl) nodd (by rfl) (by rfl) (Or.inl rfl) (jl_cons jv_int jl_nil))) (jl_cons jv_int jl_nil)))).ja) (jl_cons (jv_tup (jl_cons jv_int (jl_cons jv_int (jl_cons jv_int (jl_cons jv_int jl_nil)))).ja) (jl_cons (jv_tup (jl_cons jv_int (jl_cons jv_int (jl_cons jv_int (jl_cons jv_int jl_nil)))).ja) jl_nil))).ja)))
    (js_cons (js_set (.inl rfl) sc_law.nd rfl (Or.inl rfl) (jv_c1 2 ⟨hF__law_pick⟩ hp (takes_of rfl rfl rfl rfl) nodd (by rfl) (by rfl) (Or.inl rfl) (jl_cons (jv_bin o_add (ofO (jo_lst (jl_cons (jv_c1 2 ⟨hF__law_numbers⟩ hp (takes_of rfl rfl rfl rfl) nodd (by rfl) (by rfl) (Or.inl rfl) (jl_cons jv_int jl_nil)) jl_nil).ja)) (jv_name 4 rfl (Or.inl rfl))) jl_nil)))
    (js_cons (js_par (.inl rfl) (.inl rfl) rfl sc_law.nd rfl rfl (by decide) rfl rfl (jl_cons (jv_c0 ⟨hF__law_limits⟩ hp (takes_of rfl rfl rfl rfl) nodd (by rfl) (jl_cons (jv_name 5 rfl (Or.inl rfl)) jl_nil)) (jl_cons (jv_bin o_add jv_int (jv_c1 2 ⟨hF__law_draw⟩ hp (takes_of rfl rfl rfl rfl) nodd (by rfl) (by rfl) (Or.inl rfl) (jl_cons jv_int jl_nil))) jl_nil)).ja)
    (js_cons (js_par3 (.inl rfl) (.inl rfl) (.inl rfl) rfl sc_law.nd rfl rfl rfl (by decide) (by decide) (by decide) rfl rfl rfl (jl_cons (jv_bin o_add jv_int (jv_c1 2 ⟨hF__law_draw⟩ hp (takes_of rfl rfl rfl rfl) nodd (by rfl) (by rfl) (Or.inl rfl) (jl_cons (jv_name 7 rfl (Or.inl rfl)) jl_nil))) (jl_cons (jv_c1 2 ⟨hF__law_pick⟩ hp (takes_of rfl rfl rfl rfl) nodd (by rfl) (by rfl) (Or.inl rfl) (jl_cons (ofO (jo_lst (jl_cons jv_int (jl_cons (jv_c1 2 ⟨hF__law_draw⟩ hp (takes_of rfl rfl rfl rfl) nodd (by rfl) (by rfl) (Or.inl rfl) (jl_cons jv_int jl_nil)) jl_nil)).ja)) jl_nil)) (jl_cons (jv_c1 2 ⟨hF__law_draw⟩ hp (takes_of rfl rfl rfl rfl) nodd (by rfl) (by rfl) (Or.inl rfl) (jl_cons jv_int jl_nil)) jl_nil))).ja)
    (js_cons (js_set (.inl rfl) sc_law.nd rfl (Or.inl rfl) (jv_c0 ⟨hF__law_due⟩ hp (takes_of rfl rfl rfl rfl) nodd (by rfl) (jl_cons (jv_name 5 rfl (Or.inl rfl)) (jl_cons (jv_name 7 rfl (Or.inl rfl)) (jl_cons (jv_name 8 rfl (Or.inl rfl)) (jl_cons (jv_name 9 rfl (Or.inl rfl)) (jl_cons (jv_name 10 rfl (Or.inl rfl)) jl_nil)))))))
    (js_cons (js_set (.inl rfl) sc_law.nd rfl (Or.inl rfl) (ofO (jo_lst (jl_cons (jv_c0 ⟨hF_nearest_window⟩ hp (takes_of rfl rfl rfl rfl) nodd (by rfl) (jl_cons (jv_name 6 rfl (Or.inl rfl)) (jl_cons (jv_name 7 rfl (Or.inl rfl)) (jl_cons (jv_name 8 rfl (Or.inl rfl)) (jl_cons (jv_name 9 rfl (Or.inl rfl)) (jl_cons (jv_name 10 rfl (Or.inl rfl)) jl_nil)))))) (jl_cons (jv_c0 ⟨hF_nearest_window⟩ hp (takes_of rfl rfl rfl rfl) nodd (by rfl) (jl_cons (jv_name 6 rfl (Or.inl rfl)) (jl_cons (jv_name 7 rfl (Or.inl rfl)) (jl_cons (jv_name 8 rfl (Or.inl rfl)) (jl_cons (jv_name 9 rfl (Or.inl rfl)) (jl_cons (jv_name 10 rfl (Or.inl rfl)) jl_nil)))))) jl_nil)).ja)))
    (js_one (js_if (jt_not (jt_val (jv_c0 ⟨hF__law_same⟩ hp (takes_of rfl rfl rfl rfl) nodd (by rfl) (jl_cons (jv_name 12 rfl (Or.inl rfl)) (jl_cons (ofO (jo_lst (jl_cons (jv_name 11 rfl (Or.inl rfl)) (jl_cons (jv_name 11 rfl (Or.inl rfl)) jl_nil)).ja)) jl_nil))))) (js_one (js_ret jv_bl)) js_nil))))))))))))
    (js_one (js_ret jv_bl)))
theorem ok_law (Z : Tx K mg) (hF__law_pen : FnC P w K mg base 1 "_law_pen" (spF0 K mg true 1 f__law_pen) ["_law_cell"] []) (hF__law_cell_at : FnC P w K mg base 1 "_law_cell_at" (spF0 K mg false 2 f__law_cell_at) ["_law_script", "_law_k"] []) (hF__law_draw : FnC P w K mg base 1 "_law_draw" (spF1 K mg false 2 f__law_draw) ["_law_pen_here", "_law_many"] []) (hF__law_pick : FnC P w K mg base 2 "_law_pick" (spF1 K mg false 2 f__law_pick) ["_law_pen_here", "_law_values"] []) (hF__law_numbers : FnC P w K mg base 2 "_law_numbers" (spF1 K mg false 2 f__law_numbers) ["_law_pen_here", "_law_most"] []) (hF__law_limits : FnC P w K mg base 5 "_law_limits" (spF0 K mg false 1 f__law_limits) ["_law_numbers_here"] []) (hF__law_due : FnC P w K mg base 4 "_law_due" (spF0 K mg false 5 f__law_due) ["_law_numbers_here", "_law_size", "_law_least", "_law_up", "_law_down"] []) (hF_nearest_window : FnC P w K mg base 5 "nearest_window" (spF0 K mg false 5 f_nearest_window) ["limits", "size", "least", "up", "down"] []) (hF__law_same : FnC P w K mg base 1 "_law_same" (spF0 K mg false 2 f__law_same) ["_law_found", "_law_due_here"] []) {f : Addr} {fd : FuncData} {kws : List (Str × V)} (G : FunD K "law" "law" (defArgs st_law) (defBody st_law) (defScope st_law) [] kws f fd) : FnG P w K mg base 6 f fd ["_law_script"] (spF0 K mg false 1 f_law) :=
  fn0 (P := P) (w := w) (mg := mg) (base := base) (ro := false) (s := b_law) (N := N_law) (ps := ["_law_script"]) rfl rfl G sc_law fun cdv A outer s0 H E hr hgu => d_law Z hF__law_pen hF__law_cell_at hF__law_draw hF__law_pick hF__law_numbers hF__law_limits hF__law_due hF_nearest_window hF__law_same hr hgu
end
end Lw
namespace Lw
open PySem hiding start
open PySem.Spec L2 Sr
open PyProof.Rows hiding St
def fa : List He.Fa := [.free "max", .free "int", .free "len", .free "min", .free "isinstance", .free "bool", .int "MOST_FALSE" 5, .int "MOST_SPAN" 5, .int "MOST_SETTLED" 4, .free "range", .free "abs", .int "MOST_WISH" 99, .int "MOST_SIZE" 6, .free "repr", .glo "Limits", .cls "Limits", .noat "Limits" "most_passes", .noat "Limits" "most_fails", .noat "Limits" "most_checks", .noat "Limits" "least_stay", .mkr "Limits", .glo "_law_pen", .glo "_law_cell_at", .glo "_law_draw", .glo "_law_pick", .glo "_law_numbers", .glo "is_integer", .glo "is_between", .glo "_law_limits", .glo "_law_errors", .glo "_law_bound", .glo "_law_is_wished", .glo "_law_due", .glo "check_limits", .glo "check_number", .glo "check_wish", .glo "most_errors", .glo "window_bound", .glo "is_within", .glo "nearest", .glo "nearest_window", .glo "_law_same", .glo "law"]
def dz__law_pen : DefZ := ⟨fun K => He.ga K "_law_pen", "_law_pen", "_law_pen", st__law_pen, []⟩
def dz__law_cell_at : DefZ := ⟨fun K => He.ga K "_law_cell_at", "_law_cell_at", "_law_cell_at", st__law_cell_at, []⟩
def dz__law_draw : DefZ := ⟨fun K => He.ga K "_law_draw", "_law_draw", "_law_draw", st__law_draw, []⟩
def dz__law_pick : DefZ := ⟨fun K => He.ga K "_law_pick", "_law_pick", "_law_pick", st__law_pick, []⟩
def dz__law_numbers : DefZ := ⟨fun K => He.ga K "_law_numbers", "_law_numbers", "_law_numbers", st__law_numbers, []⟩
def dz_is_integer : DefZ := ⟨fun K => He.ga K "is_integer", "is_integer", "is_integer", st_is_integer, []⟩
def dz_is_between : DefZ := ⟨fun K => He.ga K "is_between", "is_between", "is_between", st_is_between, []⟩
def dz_LimitsU_initU : DefZ := ⟨fun K => He.ma K (He.ga K "Limits") "__init__", "__init__", "Limits.__init__", st_LimitsU_initU, [("settled", .int 1)]⟩
def dz__law_limits : DefZ := ⟨fun K => He.ga K "_law_limits", "_law_limits", "_law_limits", st__law_limits, []⟩
def dz__law_errors : DefZ := ⟨fun K => He.ga K "_law_errors", "_law_errors", "_law_errors", st__law_errors, []⟩
def dz__law_bound : DefZ := ⟨fun K => He.ga K "_law_bound", "_law_bound", "_law_bound", st__law_bound, []⟩
def dz__law_is_wished : DefZ := ⟨fun K => He.ga K "_law_is_wished", "_law_is_wished", "_law_is_wished", st__law_is_wished, []⟩
def dz__law_due : DefZ := ⟨fun K => He.ga K "_law_due", "_law_due", "_law_due", st__law_due, []⟩
def dz_check_limits : DefZ := ⟨fun K => He.ga K "check_limits", "check_limits", "check_limits", st_check_limits, []⟩
def dz_check_number : DefZ := ⟨fun K => He.ga K "check_number", "check_number", "check_number", st_check_number, []⟩
def dz_check_wish : DefZ := ⟨fun K => He.ga K "check_wish", "check_wish", "check_wish", st_check_wish, []⟩
def dz_most_errors : DefZ := ⟨fun K => He.ga K "most_errors", "most_errors", "most_errors", st_most_errors, []⟩
def dz_window_bound : DefZ := ⟨fun K => He.ga K "window_bound", "window_bound", "window_bound", st_window_bound, []⟩
def dz_is_within : DefZ := ⟨fun K => He.ga K "is_within", "is_within", "is_within", st_is_within, []⟩
def dz_nearest : DefZ := ⟨fun K => He.ga K "nearest", "nearest", "nearest", st_nearest, []⟩
def dz_nearest_window : DefZ := ⟨fun K => He.ga K "nearest_window", "nearest_window", "nearest_window", st_nearest_window, []⟩
def dz__law_same : DefZ := ⟨fun K => He.ga K "_law_same", "_law_same", "_law_same", st__law_same, []⟩
def dz_law : DefZ := ⟨fun K => He.ga K "law", "law", "law", st_law, []⟩
def dz_Limits_false_fails : DefZ := ⟨fun K => (prG K "Limits" "false_fails").2, "false_fails", "Limits.false_fails", st_Limits_false_fails, []⟩
def dz_Limits_span : DefZ := ⟨fun K => (prG K "Limits" "span").2, "span", "Limits.span", st_Limits_span, []⟩
def dz_Limits_false_passes : DefZ := ⟨fun K => (prG K "Limits" "false_passes").2, "false_passes", "Limits.false_passes", st_Limits_false_passes, []⟩
def fn : List DefZ := [dz__law_pen, dz__law_cell_at, dz__law_draw, dz__law_pick, dz__law_numbers, dz_is_integer, dz_is_between, dz_LimitsU_initU, dz__law_limits, dz__law_errors, dz__law_bound, dz__law_is_wished, dz__law_due, dz_check_limits, dz_check_number, dz_check_wish, dz_most_errors, dz_window_bound, dz_is_within, dz_nearest, dz_nearest_window, dz__law_same, dz_law, dz_Limits_false_fails, dz_Limits_span, dz_Limits_false_passes]
def ex (K : PySem.W.Frag) : Bool := cliB K "Limits" && (ownB K (.type "int") isl_int && (ownB K (.type "bool") isl_bool && (noKd K "Limits" && (ownB K (.ref (He.ga K "Limits")) isl_Limits && (propB K "Limits" "false_fails" && (propB K "Limits" "span" && (propB K "Limits" "false_passes")))))))
section
variable {P : Program} {w : World} {K : PySem.W.Frag} {h : Heap} {mg : Str → Option Value}
theorem tx_mk (X : K.In h) (G : h.Ns mainGlobals mg) (c : SaysZ fa fn ex K) : Tx K mg := by
  have hx : (cliB K "Limits" && (ownB K (.type "int") isl_int && (ownB K (.type "bool") isl_bool && (noKd K "Limits" && (ownB K (.ref (He.ga K "Limits")) isl_Limits && (propB K "Limits" "false_fails" && (propB K "Limits" "span" && (propB K "Limits" "false_passes")))))))) = true := c.all.2.2
  simp only [Bool.and_eq_true] at hx
  obtain ⟨hx0, hx1, hx2, hx3, hx4, hx5, hx6, hx7⟩ := hx
  have hI_int : ∀ q ∈ isl_int, ClI K mg q.1 (He.ga K q.1) := by
    intro q hq
    simp only [isl_int, List.mem_cons, List.not_mem_nil, or_false] at hq
    subst hq
    exact cliB_ok ⟨He.glo_ok X G (c.fact 14), He.cls_ok (c.fact 15)⟩ hx0
  have hI_bool : ∀ q ∈ isl_bool, ClI K mg q.1 (He.ga K q.1) := by
    intro q hq
    simp only [isl_bool, List.mem_cons, List.not_mem_nil, or_false] at hq
    subst hq
    exact cliB_ok ⟨He.glo_ok X G (c.fact 14), He.cls_ok (c.fact 15)⟩ hx0
  have hI_Limits : ∀ q ∈ isl_Limits, ClI K mg q.1 (He.ga K q.1) := by
    intro q hq
    simp only [isl_Limits, List.mem_cons, List.not_mem_nil, or_false] at hq
    subst hq
    exact cliB_ok ⟨He.glo_ok X G (c.fact 14), He.cls_ok (c.fact 15)⟩ hx0
  exact ⟨He.free_ok X G (c.fact 0), He.free_ok X G (c.fact 1), He.free_ok X G (c.fact 2), He.free_ok X G (c.fact 3), He.free_ok X G (c.fact 4), He.free_ok X G (c.fact 5), He.int_ok X G (c.fact 6), He.int_ok X G (c.fact 7), He.int_ok X G (c.fact 8), He.free_ok X G (c.fact 9), He.free_ok X G (c.fact 10), He.int_ok X G (c.fact 11), He.int_ok X G (c.fact 12), He.free_ok X G (c.fact 13), He.glo_ok X G (c.fact 14), He.cls_ok (c.fact 15), He.noat_ok (c.fact 16), He.noat_ok (c.fact 17), He.noat_ok (c.fact 18), He.noat_ok (c.fact 19), isi_of tInt_ok (ownB_ok hx1 hI_int), isi_of tBool_ok (ownB_ok hx2 hI_bool), isi_of (noKd_ok hx3) (ownB_ok hx4 hI_Limits)⟩
theorem all_mk {fl : Addr} (X : K.In h) (G : h.Ns mainGlobals mg) (hl : mg "law" = some (.ref fl)) (c : SaysZ fa fn ex K) : ∃ fd : FuncData, (∀ (s : Shared) (v : Value), BindsTo s fd ⟨[v], []⟩ [("_law_script", v)]) ∧ ∀ base : Heap, FnG P w K mg base 6 fl fd ["_law_script"] (spF0 K mg false 1 f_law) := by
  have Z : Tx K mg := tx_mk X G c
  have hx : (cliB K "Limits" && (ownB K (.type "int") isl_int && (ownB K (.type "bool") isl_bool && (noKd K "Limits" && (ownB K (.ref (He.ga K "Limits")) isl_Limits && (propB K "Limits" "false_fails" && (propB K "Limits" "span" && (propB K "Limits" "false_passes")))))))) = true := c.all.2.2
  simp only [Bool.and_eq_true] at hx
  obtain ⟨hx0, hx1, hx2, hx3, hx4, hx5, hx6, hx7⟩ := hx
  obtain ⟨fd__law_pen, G__law_pen⟩ := c.def_ 0 (d := dz__law_pen)
  obtain ⟨fd__law_cell_at, G__law_cell_at⟩ := c.def_ 1 (d := dz__law_cell_at)
  obtain ⟨fd__law_draw, G__law_draw⟩ := c.def_ 2 (d := dz__law_draw)
  obtain ⟨fd__law_pick, G__law_pick⟩ := c.def_ 3 (d := dz__law_pick)
  obtain ⟨fd__law_numbers, G__law_numbers⟩ := c.def_ 4 (d := dz__law_numbers)
  obtain ⟨fd_is_integer, G_is_integer⟩ := c.def_ 5 (d := dz_is_integer)
  obtain ⟨fd_is_between, G_is_between⟩ := c.def_ 6 (d := dz_is_between)
  obtain ⟨fd_LimitsU_initU, G_LimitsU_initU⟩ := c.def_ 7 (d := dz_LimitsU_initU)
  obtain ⟨fd__law_limits, G__law_limits⟩ := c.def_ 8 (d := dz__law_limits)
  obtain ⟨fd__law_errors, G__law_errors⟩ := c.def_ 9 (d := dz__law_errors)
  obtain ⟨fd__law_bound, G__law_bound⟩ := c.def_ 10 (d := dz__law_bound)
  obtain ⟨fd__law_is_wished, G__law_is_wished⟩ := c.def_ 11 (d := dz__law_is_wished)
  obtain ⟨fd__law_due, G__law_due⟩ := c.def_ 12 (d := dz__law_due)
  obtain ⟨fd_check_limits, G_check_limits⟩ := c.def_ 13 (d := dz_check_limits)
  obtain ⟨fd_check_number, G_check_number⟩ := c.def_ 14 (d := dz_check_number)
  obtain ⟨fd_check_wish, G_check_wish⟩ := c.def_ 15 (d := dz_check_wish)
  obtain ⟨fd_most_errors, G_most_errors⟩ := c.def_ 16 (d := dz_most_errors)
  obtain ⟨fd_window_bound, G_window_bound⟩ := c.def_ 17 (d := dz_window_bound)
  obtain ⟨fd_is_within, G_is_within⟩ := c.def_ 18 (d := dz_is_within)
  obtain ⟨fd_nearest, G_nearest⟩ := c.def_ 19 (d := dz_nearest)
  obtain ⟨fd_nearest_window, G_nearest_window⟩ := c.def_ 20 (d := dz_nearest_window)
  obtain ⟨fd__law_same, G__law_same⟩ := c.def_ 21 (d := dz__law_same)
  obtain ⟨fd_law, G_law⟩ := c.def_ 22 (d := dz_law)
  obtain ⟨fd_Limits_false_fails, G_Limits_false_fails⟩ := c.def_ 23 (d := dz_Limits_false_fails)
  obtain ⟨fd_Limits_span, G_Limits_span⟩ := c.def_ 24 (d := dz_Limits_span)
  obtain ⟨fd_Limits_false_passes, G_Limits_false_passes⟩ := c.def_ 25 (d := dz_Limits_false_passes)
  have e := hl.symm.trans (He.glo_ok X G (c.fact 42))
  cases e
  refine ⟨fd_law, fun s v => FunD.bindsA (ps := ["_law_script"]) G_law (fun _ _ _ _ _ _ us hl => match us, hl with | [_], _ => rfl) s [v] rfl, fun base => ?_⟩
  have hP_false_fails : ∃ pp ga fd, PropOf K (He.ga K "Limits") "false_fails" pp ga ∧ FnOk P w K mg base CX0 1 ga fd ["self"] (getSp (He.ga K "Limits") "most_fails") ∧ Binds K fd ["self"] [] := ⟨_, _, fd_Limits_false_fails, propB_ok hx5, fn_get G_Limits_false_fails Z.cl_Limits Z.n_Limits_most_fails ⟨rfl, rfl, rfl, by decide +kernel, rfl, by decide +kernel, by decide +kernel⟩ rfl, G_Limits_false_fails.bindsN fun _ _ _ _ _ _ us hl => match us, hl with | [_], _ => rfl⟩
  have hP_span : ∃ pp ga fd, PropOf K (He.ga K "Limits") "span" pp ga ∧ FnOk P w K mg base CX0 1 ga fd ["self"] (getSp (He.ga K "Limits") "most_checks") ∧ Binds K fd ["self"] [] := ⟨_, _, fd_Limits_span, propB_ok hx6, fn_get G_Limits_span Z.cl_Limits Z.n_Limits_most_checks ⟨rfl, rfl, rfl, by decide +kernel, rfl, by decide +kernel, by decide +kernel⟩ rfl, G_Limits_span.bindsN fun _ _ _ _ _ _ us hl => match us, hl with | [_], _ => rfl⟩
  have hP_false_passes : ∃ pp ga fd, PropOf K (He.ga K "Limits") "false_passes" pp ga ∧ FnOk P w K mg base CX0 1 ga fd ["self"] (getSp (He.ga K "Limits") "most_passes") ∧ Binds K fd ["self"] [] := ⟨_, _, fd_Limits_false_passes, propB_ok hx7, fn_get G_Limits_false_passes Z.cl_Limits Z.n_Limits_most_passes ⟨rfl, rfl, rfl, by decide +kernel, rfl, by decide +kernel, by decide +kernel⟩ rfl, G_Limits_false_passes.bindsN fun _ _ _ _ _ _ us hl => match us, hl with | [_], _ => rfl⟩
  have hG__law_pen : FnG P w K mg base 1 _ fd__law_pen ["_law_cell"] (spF0 K mg true 1 f__law_pen) := ok__law_pen Z  G__law_pen
  have hF__law_pen : FnC P w K mg base 1 "_law_pen" (spF0 K mg true 1 f__law_pen) ["_law_cell"] [] := ⟨_, _, [], hG__law_pen, He.glo_ok X G (c.fact 21), G__law_pen.kp, G__law_pen.bindsN fun _ _ _ _ _ _ us hl => (match us, hl with | [_], _ => rfl), .nil⟩
  have hG__law_cell_at : FnG P w K mg base 1 _ fd__law_cell_at ["_law_script", "_law_k"] (spF0 K mg false 2 f__law_cell_at) := ok__law_cell_at Z  G__law_cell_at
  have hF__law_cell_at : FnC P w K mg base 1 "_law_cell_at" (spF0 K mg false 2 f__law_cell_at) ["_law_script", "_law_k"] [] := ⟨_, _, [], hG__law_cell_at, He.glo_ok X G (c.fact 22), G__law_cell_at.kp, G__law_cell_at.bindsN fun _ _ _ _ _ _ us hl => (match us, hl with | [_, _], _ => rfl), .nil⟩
  have hG__law_draw : FnG P w K mg base 1 _ fd__law_draw ["_law_pen_here", "_law_many"] (spF1 K mg false 2 f__law_draw) := ok__law_draw Z  G__law_draw
  have hF__law_draw : FnC P w K mg base 1 "_law_draw" (spF1 K mg false 2 f__law_draw) ["_law_pen_here", "_law_many"] [] := ⟨_, _, [], hG__law_draw, He.glo_ok X G (c.fact 23), G__law_draw.kp, G__law_draw.bindsN fun _ _ _ _ _ _ us hl => (match us, hl with | [_, _], _ => rfl), .nil⟩
  have hG__law_pick : FnG P w K mg base 2 _ fd__law_pick ["_law_pen_here", "_law_values"] (spF1 K mg false 2 f__law_pick) := ok__law_pick Z hF__law_draw G__law_pick
  have hF__law_pick : FnC P w K mg base 2 "_law_pick" (spF1 K mg false 2 f__law_pick) ["_law_pen_here", "_law_values"] [] := ⟨_, _, [], hG__law_pick, He.glo_ok X G (c.fact 24), G__law_pick.kp, G__law_pick.bindsN fun _ _ _ _ _ _ us hl => (match us, hl with | [_, _], _ => rfl), .nil⟩
  have hG__law_numbers : FnG P w K mg base 2 _ fd__law_numbers ["_law_pen_here", "_law_most"] (spF1 K mg false 2 f__law_numbers) := ok__law_numbers Z hF__law_draw G__law_numbers
  have hF__law_numbers : FnC P w K mg base 2 "_law_numbers" (spF1 K mg false 2 f__law_numbers) ["_law_pen_here", "_law_most"] [] := ⟨_, _, [], hG__law_numbers, He.glo_ok X G (c.fact 25), G__law_numbers.kp, G__law_numbers.bindsN fun _ _ _ _ _ _ us hl => (match us, hl with | [_, _], _ => rfl), .nil⟩
  have hG_is_integer : FnG P w K mg base 1 _ fd_is_integer ["value"] (spF0 K mg false 1 f_is_integer) := ok_is_integer Z  G_is_integer
  have hF_is_integer : FnC P w K mg base 1 "is_integer" (spF0 K mg false 1 f_is_integer) ["value"] [] := ⟨_, _, [], hG_is_integer, He.glo_ok X G (c.fact 26), G_is_integer.kp, G_is_integer.bindsN fun _ _ _ _ _ _ us hl => (match us, hl with | [_], _ => rfl), .nil⟩
  have hG_is_between : FnG P w K mg base 2 _ fd_is_between ["value", "low", "high"] (spF0 K mg false 3 f_is_between) := ok_is_between Z hF_is_integer G_is_between
  have hF_is_between : FnC P w K mg base 2 "is_between" (spF0 K mg false 3 f_is_between) ["value", "low", "high"] [] := ⟨_, _, [], hG_is_between, He.glo_ok X G (c.fact 27), G_is_between.kp, G_is_between.bindsN fun _ _ _ _ _ _ us hl => (match us, hl with | [_, _, _], _ => rfl), .nil⟩
  have hG_LimitsU_initU : FnG P w K mg base 3 _ fd_LimitsU_initU ["self", "false_passes", "false_fails", "span", "settled"] (spF1 K mg false 5 f_LimitsU_initU) := ok_LimitsU_initU Z hF_is_between G_LimitsU_initU
  obtain ⟨mv_Limits_3_settled, kb_Limits_3_settled⟩ := G_LimitsU_initU.kbinds0 (ps := ["self", "false_passes", "false_fails", "span", "settled"]) 4 ["settled"] [] (fun us mv ws => us ++ ws) (by decide) (fun q hq => by cases hq) (fun r1 r2 r3 => r1.append r3) (fun D doc pm an cdv ct us mv ws l1 l2 l3 => match us, mv, ws, l1, l2, l3 with | [_, _, _, _], [], [_], _, _, _ => rfl)
  have hM_Limits_3_settled : ∃ f fd g, Mk K (He.ga K "Limits") f ∧ FnG P w K mg base 3 f fd ["self", "false_passes", "false_fails", "span", "settled"] (spF1 K mg false 5 f_LimitsU_initU) ∧ KBn K fd ["self", "false_passes", "false_fails", "span", "settled"] 4 ["settled"] g gV_Limits_3_settled := ⟨_, _, _, He.mkr_ok (c.fact 20), hG_LimitsU_initU, kb_Limits_3_settled⟩
  have hG__law_limits : FnG P w K mg base 5 _ fd__law_limits ["_law_numbers_here"] (spF0 K mg false 1 f__law_limits) := ok__law_limits Z hM_Limits_3_settled G__law_limits
  have hF__law_limits : FnC P w K mg base 5 "_law_limits" (spF0 K mg false 1 f__law_limits) ["_law_numbers_here"] [] := ⟨_, _, [], hG__law_limits, He.glo_ok X G (c.fact 28), G__law_limits.kp, G__law_limits.bindsN fun _ _ _ _ _ _ us hl => (match us, hl with | [_], _ => rfl), .nil⟩
  have hG__law_errors : FnG P w K mg base 1 _ fd__law_errors ["_law_errors_here", "_law_span", "_law_many"] (spF0 K mg false 3 f__law_errors) := ok__law_errors Z  G__law_errors
  have hF__law_errors : FnC P w K mg base 1 "_law_errors" (spF0 K mg false 3 f__law_errors) ["_law_errors_here", "_law_span", "_law_many"] [] := ⟨_, _, [], hG__law_errors, He.glo_ok X G (c.fact 29), G__law_errors.kp, G__law_errors.bindsN fun _ _ _ _ _ _ us hl => (match us, hl with | [_, _, _], _ => rfl), .nil⟩
  have hG__law_bound : FnG P w K mg base 2 _ fd__law_bound ["_law_errors_here", "_law_span", "_law_size", "_law_needed"] (spF0 K mg false 4 f__law_bound) := ok__law_bound Z hF__law_errors G__law_bound
  have hF__law_bound : FnC P w K mg base 2 "_law_bound" (spF0 K mg false 4 f__law_bound) ["_law_errors_here", "_law_span", "_law_size", "_law_needed"] [] := ⟨_, _, [], hG__law_bound, He.glo_ok X G (c.fact 30), G__law_bound.kp, G__law_bound.bindsN fun _ _ _ _ _ _ us hl => (match us, hl with | [_, _, _, _], _ => rfl), .nil⟩
  have hG__law_is_wished : FnG P w K mg base 3 _ fd__law_is_wished ["_law_errors_here", "_law_span", "_law_size", "_law_needed", "_law_wish"] (spF0 K mg false 5 f__law_is_wished) := ok__law_is_wished Z hF__law_bound G__law_is_wished
  have hF__law_is_wished : FnC P w K mg base 3 "_law_is_wished" (spF0 K mg false 5 f__law_is_wished) ["_law_errors_here", "_law_span", "_law_size", "_law_needed", "_law_wish"] [] := ⟨_, _, [], hG__law_is_wished, He.glo_ok X G (c.fact 31), G__law_is_wished.kp, G__law_is_wished.bindsN fun _ _ _ _ _ _ us hl => (match us, hl with | [_, _, _, _, _], _ => rfl), .nil⟩
  have hG__law_due : FnG P w K mg base 4 _ fd__law_due ["_law_numbers_here", "_law_size", "_law_least", "_law_up", "_law_down"] (spF0 K mg false 5 f__law_due) := ok__law_due Z hF__law_is_wished G__law_due
  have hF__law_due : FnC P w K mg base 4 "_law_due" (spF0 K mg false 5 f__law_due) ["_law_numbers_here", "_law_size", "_law_least", "_law_up", "_law_down"] [] := ⟨_, _, [], hG__law_due, He.glo_ok X G (c.fact 32), G__law_due.kp, G__law_due.bindsN fun _ _ _ _ _ _ us hl => (match us, hl with | [_, _, _, _, _], _ => rfl), .nil⟩
  have hG_check_limits : FnG P w K mg base 1 _ fd_check_limits ["value"] (spF0 K mg false 1 f_check_limits) := ok_check_limits Z  G_check_limits
  have hF_check_limits : FnC P w K mg base 1 "check_limits" (spF0 K mg false 1 f_check_limits) ["value"] [] := ⟨_, _, [], hG_check_limits, He.glo_ok X G (c.fact 33), G_check_limits.kp, G_check_limits.bindsN fun _ _ _ _ _ _ us hl => (match us, hl with | [_], _ => rfl), .nil⟩
  have hG_check_number : FnG P w K mg base 3 _ fd_check_number ["value", "low", "high"] (spF0 K mg false 3 f_check_number) := ok_check_number Z hF_is_between G_check_number
  have hF_check_number : FnC P w K mg base 3 "check_number" (spF0 K mg false 3 f_check_number) ["value", "low", "high"] [] := ⟨_, _, [], hG_check_number, He.glo_ok X G (c.fact 34), G_check_number.kp, G_check_number.bindsN fun _ _ _ _ _ _ us hl => (match us, hl with | [_, _, _], _ => rfl), .nil⟩
  have hG_check_wish : FnG P w K mg base 4 _ fd_check_wish ["up", "down"] (spF0 K mg false 2 f_check_wish) := ok_check_wish Z hF_check_number G_check_wish
  have hF_check_wish : FnC P w K mg base 4 "check_wish" (spF0 K mg false 2 f_check_wish) ["up", "down"] [] := ⟨_, _, [], hG_check_wish, He.glo_ok X G (c.fact 35), G_check_wish.kp, G_check_wish.bindsN fun _ _ _ _ _ _ us hl => (match us, hl with | [_, _], _ => rfl), .nil⟩
  have hG_most_errors : FnG P w K mg base 1 _ fd_most_errors ["errors", "span", "many"] (spF0 K mg false 3 f_most_errors) := ok_most_errors Z  G_most_errors
  have hF_most_errors : FnC P w K mg base 1 "most_errors" (spF0 K mg false 3 f_most_errors) ["errors", "span", "many"] [] := ⟨_, _, [], hG_most_errors, He.glo_ok X G (c.fact 36), G_most_errors.kp, G_most_errors.bindsN fun _ _ _ _ _ _ us hl => (match us, hl with | [_, _, _], _ => rfl), .nil⟩
  have hG_window_bound : FnG P w K mg base 2 _ fd_window_bound ["errors", "span", "size", "needed"] (spF0 K mg false 4 f_window_bound) := ok_window_bound Z hF_most_errors G_window_bound
  have hF_window_bound : FnC P w K mg base 2 "window_bound" (spF0 K mg false 4 f_window_bound) ["errors", "span", "size", "needed"] [] := ⟨_, _, [], hG_window_bound, He.glo_ok X G (c.fact 37), G_window_bound.kp, G_window_bound.bindsN fun _ _ _ _ _ _ us hl => (match us, hl with | [_, _, _, _], _ => rfl), .nil⟩
  have hG_is_within : FnG P w K mg base 1 _ fd_is_within ["found", "wish"] (spF0 K mg false 2 f_is_within) := ok_is_within Z  G_is_within
  have hF_is_within : FnC P w K mg base 1 "is_within" (spF0 K mg false 2 f_is_within) ["found", "wish"] [] := ⟨_, _, [], hG_is_within, He.glo_ok X G (c.fact 38), G_is_within.kp, G_is_within.bindsN fun _ _ _ _ _ _ us hl => (match us, hl with | [_, _], _ => rfl), .nil⟩
  have hG_nearest : FnG P w K mg base 1 _ fd_nearest ["start", "choices"] (spF0 K mg false 2 f_nearest) := ok_nearest Z  G_nearest
  have hF_nearest : FnC P w K mg base 1 "nearest" (spF0 K mg false 2 f_nearest) ["start", "choices"] [] := ⟨_, _, [], hG_nearest, He.glo_ok X G (c.fact 39), G_nearest.kp, G_nearest.bindsN fun _ _ _ _ _ _ us hl => (match us, hl with | [_, _], _ => rfl), .nil⟩
  have hG_nearest_window : FnG P w K mg base 5 _ fd_nearest_window ["limits", "size", "least", "up", "down"] (spF0 K mg false 5 f_nearest_window) := ok_nearest_window Z hF_check_limits hF_check_number hF_check_wish hF_window_bound hP_false_fails hP_span hP_false_passes hF_is_within hF_nearest G_nearest_window
  have hF_nearest_window : FnC P w K mg base 5 "nearest_window" (spF0 K mg false 5 f_nearest_window) ["limits", "size", "least", "up", "down"] [] := ⟨_, _, [], hG_nearest_window, He.glo_ok X G (c.fact 40), G_nearest_window.kp, G_nearest_window.bindsN fun _ _ _ _ _ _ us hl => (match us, hl with | [_, _, _, _, _], _ => rfl), .nil⟩
  have hG__law_same : FnG P w K mg base 1 _ fd__law_same ["_law_found", "_law_due_here"] (spF0 K mg false 2 f__law_same) := ok__law_same Z  G__law_same
  have hF__law_same : FnC P w K mg base 1 "_law_same" (spF0 K mg false 2 f__law_same) ["_law_found", "_law_due_here"] [] := ⟨_, _, [], hG__law_same, He.glo_ok X G (c.fact 41), G__law_same.kp, G__law_same.bindsN fun _ _ _ _ _ _ us hl => (match us, hl with | [_, _], _ => rfl), .nil⟩
  exact ok_law Z hF__law_pen hF__law_cell_at hF__law_draw hF__law_pick hF__law_numbers hF__law_limits hF__law_due hF_nearest_window hF__law_same G_law
end
end Lw
namespace Lw
open PySem hiding start
open PySem.Spec L2 Sr
open PyProof.Rows hiding St
abbrev R : PySem.W.OpenRow := PySem.W.OpenLaw.row PySem.Challenge.rw_statusrules_k46_nearest_windows
abbrev hk : PySem.W.Hook := hookZ 6 fa fn ex
def ob (s : PySem.W.SharedT) : AlZ := obsZ 6 fa fn ex (HandSHeadRun.getT s)
theorem ob_eq (s : PySem.W.SharedT) : ob s = hk.obs s.abs := obsZ_eq (HandSHeadRun.getT_eq s)
def lo : List Str := (["_wall", "StatusError", "NumberError", "LimitsError", "is_integer", "is_between", "MOST_SIZE", "check_number", "MOST_FALSE", "MOST_SPAN", "MOST_SETTLED", "Limits", "check_limits", "MOST_WISH", "check_wish", "is_within", "most_errors", "window_bound", "nearest", "nearest_window", "_law_cell_at", "_law_pen", "_law_draw", "_law_numbers", "_law_limits", "_law_same", "_law_pick", "_law_errors", "_law_bound", "_law_is_wished"] : List Str) ++ (["_law_due", "__name__"] : List Str)
theorem run (w : World) : HandSHeadRun.RunEq R (PySem.W.view R.prog [37]) hk ob 4000 lo w := by
  intro os
  kernel_rfl
end Lw
open PySem PySem.W PySem.Calls PyProof.Rows
theorem PySem.Challenge.cw_statusrules_k46_nearest_windows_holds : PySem.Challenge.rw_statusrules_k46_nearest_windows.Holds := by
  w_on; o_law
  refine HandSHeadRun.head_any (r := OpenLaw.row PySem.Challenge.rw_statusrules_k46_nearest_windows) (q := view (OpenLaw.row PySem.Challenge.rw_statusrules_k46_nearest_windows).prog [37]) (H := Lw.hk) (ob := Lw.ob) (M := 4000) (loose := Lw.lo) (d := HandSHeadRun.topDef (OpenLaw.row PySem.Challenge.rw_statusrules_k46_nearest_windows).prog 37) (kwd := []) Lw.ob_eq
    (by kernel_rfl) (fun s => by kernel_rfl) Lw.run (by kernel_rfl) (by kernel_rfl) (by kernel_rfl) (by rfl) (by first | assumption | decide +kernel) (by decide +kernel) ⟨rfl, rfl, rfl, rfl, rfl, by decide +kernel⟩ ?hw ?hc
  case hw => w_witness2
  case hc =>
    refine Sr.walk_g (l := PySem.Challenge.rw_statusrules_k46_nearest_windows) (n := 63) (k := 6) (x := "_law_script") rfl (by decide) (by kernel_rfl) ⟨rfl, by decide, by decide⟩ ?F
    intro w mg fa h Y G hm0
    obtain ⟨K, KX, c⟩ := Y
    have hm : mg ("law" : PySem.Str) = some (.ref fa) := by
      have e : (HandSHeadRun.topDef (OpenLaw.row PySem.Challenge.rw_statusrules_k46_nearest_windows).prog 37).name = ("law" : PySem.Str) := by kernel_rfl
      rw [← e]
      exact hm0
    obtain ⟨fd, hb, hF⟩ := Lw.all_mk (P := (PySem.Challenge.rw_statusrules_k46_nearest_windows).prog) (w := w) KX G hm c
    refine ⟨K, fd, _, KX, hb, fun H a ns hl hS => ?_, fun base _ _ => hF base⟩
    exact Sr.law_true (Lw.law_holds ns hl) hS
