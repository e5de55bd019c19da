import PyProof.Rows.All
import Wide.All
import OpenK.AllK
import Wide.FinOn
import HandS.ForMost
import HandS.Walk
import HandS.Exc
import HandS.CallSlots
import HandS.WordsExc
import HandS.TupAny
import HandS.IsInst
import HandS.Deep
import HandS.TupLe
import HandS.Style
import HandS.Defaults
import HandS.MakeKwOnly
import HandS.Property
import HandS.HeadEnd
import HandS.Ends
import Lean
import HandS.Head0
import HandS.Head1
import HandS.Head2
import HandS.HeadHook1
import HandS.HeadHook2
import HandS.Comp
import HandS.ExcOwn
import HandS.ExcIs
import HandS.TryOnly
import HandS.Text
import HandS.List
import HandS.StrMore
import HandS.RaiseMore
import HandS.FStr
import HandS.Dict
import PySem.Challenge.RW_statusrules_k17_limits_made
set_option Elab.async false
set_option autoImplicit false
set_option linter.all false
set_option maxHeartbeats 4000000
set_option maxRecDepth 100000
namespace Sr
open PySem PySem.Spec L2
inductive D where
  | non
  | bl (b : Bool)
  | int (i : Int)
  | str (x : Str)
  | byt (b : Array UInt8)
  | lst (xs : List D)
  | tup (xs : List D)
  | dk (kvs : List (Key × D))
  | dt (kvs : List (List Key × D))
  | obj (c : Str) (fs : List (Str × D))
  | scr (ns : List Int)
instance : Inhabited D := ⟨.non⟩
section
variable (K : PySem.W.Frag) (mg : Str → Option Value) (F : Hp)
mutual
def Rp : D → V → Prop
  | .non, v => v = .non
  | .bl b, v => v = .bl b
  | .int i, v => v = .int i
  | .str x, v => v = .str x
  | .byt b, v => v = .byt b
  | .lst ds, v => ∃ a xs, v = .ref a ∧ F a = some (.lst xs) ∧ RpL ds xs
  | .tup ds, v => ∃ a xs, v = .ref a ∧ SqT K F a xs ∧ RpL ds xs
  | .dk kvs, v => ∃ a ys, v = .ref a ∧ F a = some (.dK ys) ∧ RpK kvs ys
  | .dt kvs, v => ∃ a ys, v = .ref a ∧ F a = some (.dT ys) ∧ RpT kvs ys
  | .obj c fs, v => ∃ a C dx gs, v = .ref a ∧ mg c = some (.ref C) ∧ F a = some (.ins C dx gs) ∧ RpF fs gs
  | .scr ns, v => ∃ a, v = .ref a ∧ SqL K F a (ns.map V.int)
def RpL : List D → List V → Prop
  | [], xs => xs = []
  | d :: ds, xs => ∃ v vs, xs = v :: vs ∧ Rp d v ∧ RpL ds vs
def RpK : List (Key × D) → List (Key × V) → Prop
  | [], xs => xs = []
  | (k, d) :: ds, xs => ∃ v vs, xs = (k, v) :: vs ∧ Rp d v ∧ RpK ds vs
def RpT : List (List Key × D) → List (List Key × V) → Prop
  | [], xs => xs = []
  | (k, d) :: ds, xs => ∃ v vs, xs = (k, v) :: vs ∧ Rp d v ∧ RpT ds vs
def RpF : List (Str × D) → List (Str × V) → Prop
  | [], xs => xs = []
  | (k, d) :: ds, xs => ∃ v vs, xs = (k, v) :: vs ∧ Rp d v ∧ RpF ds vs
end
end
theorem seqT_mono {K : PySem.W.Frag} {H H' : Hp} {a : Addr} {xs : List V} (e : Same H H') (h : SqT K H a xs) : SqT K H' a xs := by
  rcases h with (h | ⟨o, h⟩) | h
  · exact .inl (.inl (e _ _ h))
  · exact .inl (.inr ⟨o, e _ _ h⟩)
  · exact .inr h
section
variable {K : PySem.W.Frag} {mg : Str → Option Value} {F F' : Hp}
mutual
theorem Rp.mono (s : Same F F') : ∀ (d : D) (v : V), Rp K mg F d v → Rp K mg F' d v
  | .non, v, h => h
  | .bl b, v, h => h
  | .int i, v, h => h
  | .str x, v, h => h
  | .byt b, v, h => h
  | .lst ds, v, h => by
    unfold Rp at h ⊢
    obtain ⟨a, xs, e, q, r⟩ := h
    exact ⟨a, xs, e, s _ _ q, RpL.mono s ds xs r⟩
  | .tup ds, v, h => by
    unfold Rp at h ⊢
    obtain ⟨a, xs, e, q, r⟩ := h
    exact ⟨a, xs, e, seqT_mono s q, RpL.mono s ds xs r⟩
  | .dk ds, v, h => by
    unfold Rp at h ⊢
    obtain ⟨a, xs, e, q, r⟩ := h
    exact ⟨a, xs, e, s _ _ q, RpK.mono s ds xs r⟩
  | .dt ds, v, h => by
    unfold Rp at h ⊢
    obtain ⟨a, xs, e, q, r⟩ := h
    exact ⟨a, xs, e, s _ _ q, RpT.mono s ds xs r⟩
  | .obj c fs, v, h => by
    unfold Rp at h ⊢
    obtain ⟨a, C, dx, gs, e, m, q, r⟩ := h
    exact ⟨a, C, dx, gs, e, m, s _ _ q, RpF.mono s fs gs r⟩
  | .scr ns, v, h => by
    unfold Rp at h ⊢
    obtain ⟨a, e, q⟩ := h
    exact ⟨a, e, s.seq q⟩
theorem RpL.mono (s : Same F F') : ∀ (ds : List D) (xs : List V), RpL K mg F ds xs → RpL K mg F' ds xs
  | [], xs, h => h
  | d :: ds, xs, h => by
    unfold RpL at h ⊢
    obtain ⟨v, vs, e, r, q⟩ := h
    exact ⟨v, vs, e, Rp.mono s d v r, RpL.mono s ds vs q⟩
theorem RpK.mono (s : Same F F') : ∀ (ds : List (Key × D)) (xs : List (Key × V)), RpK K mg F ds xs → RpK K mg F' ds xs
  | [], xs, h => h
  | (k, d) :: ds, xs, h => by
    unfold RpK at h ⊢
    obtain ⟨v, vs, e, r, q⟩ := h
    exact ⟨v, vs, e, Rp.mono s d v r, RpK.mono s ds vs q⟩
theorem RpT.mono (s : Same F F') : ∀ (ds : List (List Key × D)) (xs : List (List Key × V)), RpT K mg F ds xs → RpT K mg F' ds xs
  | [], xs, h => h
  | (k, d) :: ds, xs, h => by
    unfold RpT at h ⊢
    obtain ⟨v, vs, e, r, q⟩ := h
    exact ⟨v, vs, e, Rp.mono s d v r, RpT.mono s ds vs q⟩
theorem RpF.mono (s : Same F F') : ∀ (ds : List (Str × D)) (xs : List (Str × V)), RpF K mg F ds xs → RpF K mg F' ds xs
  | [], xs, h => h
  | (k, d) :: ds, xs, h => by
    unfold RpF at h ⊢
    obtain ⟨v, vs, e, r, q⟩ := h
    exact ⟨v, vs, e, Rp.mono s d v r, RpF.mono s ds vs q⟩
end
end
end Sr
namespace Sr
open PySem PySem.Spec L2
inductive Sl where
  | no
  | val (d : D)
  | own (d : D)
abbrev En := List Sl
structure Ex where
  c : Str
  fs : List (Str × D)
inductive Out (A : Type) where
  | ok (a : A) (e : En)
  | exc (x : Ex) (e : En)
  | bad
abbrev M (A : Type) := En → Out A
def bnd {A B : Type} (m : M A) (f : A → M B) : M B := fun e => match m e with
  | .ok a e1 => f a e1
  | .exc x e1 => .exc x e1
  | .bad => .bad
def ret {A : Type} (a : A) : M A := fun e => .ok a e
def opt {A : Type} (o : Option A) : M A := fun e => match o with
  | some a => .ok a e
  | none => .bad
section
variable (K : PySem.W.Frag) (mg : Str → Option Value)
def OwnAt (H F : Hp) (p : Addr) : D → Prop
  | .lst ds => ∃ xs, H p = some (.lst xs) ∧ RpL K mg F ds xs
  | .dk ds => ∃ xs, H p = some (.dK xs) ∧ RpK K mg F ds xs
  | .dt ds => ∃ xs, H p = some (.dT xs) ∧ RpT K mg F ds xs
  | .obj c fs => ∃ C dx gs, mg c = some (.ref C) ∧ H p = some (.ins C dx gs) ∧ RpF K mg F fs gs
  | _ => False
def Rq (H F : Hp) : D → V → Prop
  | .lst ds, v => ∃ a xs, v = .ref a ∧ H a = some (.lst xs) ∧ RpL K mg F ds xs
  | .dk ds, v => ∃ a xs, v = .ref a ∧ H a = some (.dK xs) ∧ RpK K mg F ds xs
  | .dt ds, v => ∃ a xs, v = .ref a ∧ H a = some (.dT xs) ∧ RpT K mg F ds xs
  | .obj c fs, v => ∃ a C dx gs, v = .ref a ∧ mg c = some (.ref C) ∧ H a = some (.ins C dx gs) ∧ RpF K mg F fs gs
  | d, v => Rp K mg F d v
end
def Ow (e : En) (σ : St) (a : Addr) : Prop := ∃ (i : Nat) (d : D), e[i]? = some (Sl.own d) ∧ σ[i]? = some (some (V.ref a))
abbrev Pn := List (Nat × Addr)
def NoP (T : Pn) (i : Nat) : Prop := ∀ q ∈ T, q.1 ≠ i
theorem noP_nil {i : Nat} : NoP [] i := fun _ h => nomatch h
theorem noP_cons {T : Pn} {i j : Nat} {p : Addr} (h : j ≠ i) (hs : NoP T i) : NoP ((j, p) :: T) i := fun q hq => by
  rcases List.mem_cons.mp hq with rfl | hq
  · exact h
  · exact hs q hq
theorem noPs_nil {vs : List Nat} : ∀ v ∈ vs, NoP [] v := fun _ _ => noP_nil
theorem noPs_cons {T : Pn} {vs : List Nat} {j : Nat} {p : Addr} (h : j ∉ vs) (hs : ∀ v ∈ vs, NoP T v) : ∀ v ∈ vs, NoP ((j, p) :: T) v := fun v hv => noP_cons (fun z => h (by rw [z]; exact hv)) (hs v hv)
structure ER (K : PySem.W.Frag) (mg : Str → Option Value) (T : Pn) (e : En) (σ : St) (H F : Hp) : Prop where
  sub : Same F H
  val : ∀ (i : Nat) (d : D), e[i]? = some (.val d) → ∃ v, σ[i]? = some (some v) ∧ Rp K mg F d v
  own : ∀ (i : Nat) (d : D), e[i]? = some (.own d) → ∃ p, σ[i]? = some (some (.ref p)) ∧ F p = none ∧ OwnAt K mg H F p d
  inj : ∀ (i j : Nat) (p : Addr) (d d' : D), e[i]? = some (.own d) → e[j]? = some (.own d') → σ[i]? = some (some (.ref p)) → σ[j]? = some (some (.ref p)) → i = j
  len : e.length = σ.length
  pin : ∀ q ∈ T, σ[q.1]? = some (some (.ref q.2))
structure Mv (e : En) (σ : St) (H F : Hp) (e' : En) (σ' : St) (H' F' : Hp) : Prop where
  sub : Same F F'
  keep : ∀ a o, H a = some o → ¬ Ow e σ a → H' a = some o ∧ ¬ Ow e' σ' a
  new : ∀ a o, F' a = some o → F a = some o ∨ H a = none ∨ Ow e σ a
  there : ∀ a, H' a = none → H a = none
theorem Mv.refl {e : En} {σ : St} {H F : Hp} : Mv e σ H F e σ H F := ⟨Same.refl _, fun _ _ h n => ⟨h, n⟩, fun _ _ h => .inl h, fun _ h => h⟩
theorem Mv.trans {e e1 e2 : En} {σ σ1 σ2 : St} {H F H1 F1 H2 F2 : Hp} (a : Mv e σ H F e1 σ1 H1 F1) (b : Mv e1 σ1 H1 F1 e2 σ2 H2 F2) : Mv e σ H F e2 σ2 H2 F2 := by
  refine ⟨a.sub.trans b.sub, fun c o h n => ?_, fun c o h => ?_, fun c h => a.there c (b.there c h)⟩
  · obtain ⟨h1, n1⟩ := a.keep c o h n
    exact b.keep c o h1 n1
  · rcases b.new c o h with h1 | h1 | h1
    · exact a.new c o h1
    · cases q : H c with
      | none => exact .inr (.inl rfl)
      | some u =>
        by_cases w : Ow e σ c
        · exact .inr (.inr w)
        · rw [(a.keep c u q w).1] at h1; cases h1
    · cases q : H c with
      | none => exact .inr (.inl rfl)
      | some u =>
        by_cases w : Ow e σ c
        · exact .inr (.inr w)
        · exact absurd h1 (a.keep c u q w).2
def Al (H F H' F' : Hp) : Prop := (H' = H ∧ F' = F) ∨ ∃ p o, H p = none ∧ H' = upd H p o ∧ F' = upd F p o
theorem Al.refl {H F : Hp} : Al H F H F := .inl ⟨rfl, rfl⟩
theorem Al.one {H F : Hp} {p : Addr} {o : HO} (h : H p = none) : Al H F (upd H p o) (upd F p o) := .inr ⟨p, o, h, rfl, rfl⟩
theorem same_upd {H : Hp} {p : Addr} {o : HO} (h : H p = none) : Same H (upd H p o) := fun b u e => by
  rw [upd_ne (ne_of_none e h)]; exact e
theorem Al.same {H F H' F' : Hp} (s : Same F H) (a : Al H F H' F') : Same F F' ∧ Same H H' ∧ Same F' H' := by
  rcases a with ⟨rfl, rfl⟩ | ⟨p, o, h, rfl, rfl⟩
  · exact ⟨Same.refl _, Same.refl _, s⟩
  · refine ⟨same_upd (s.free h), same_upd h, fun b u e => ?_⟩
    by_cases hb : b = p
    · subst hb; rw [upd_same] at e ⊢; exact e
    · rw [upd_ne hb] at e ⊢; exact s b u e
section
variable {K : PySem.W.Frag} {mg : Str → Option Value} {T : Pn} {e e' : En} {σ σ' : St} {H F H' F' : Hp} {p a : Addr} {d : D} {v : V}
theorem OwnAt.keep (h : OwnAt K mg H F p d) (s : Same F F') (q : ∀ o, H p = some o → H' p = some o) : OwnAt K mg H' F' p d := by
  cases d <;> try (exact h.elim)
  · obtain ⟨xs, h1, h2⟩ := h
    exact ⟨xs, q _ h1, RpL.mono s _ _ h2⟩
  · obtain ⟨xs, h1, h2⟩ := h
    exact ⟨xs, q _ h1, RpK.mono s _ _ h2⟩
  · obtain ⟨xs, h1, h2⟩ := h
    exact ⟨xs, q _ h1, RpT.mono s _ _ h2⟩
  · obtain ⟨C, dx, xs, m, h1, h2⟩ := h
    exact ⟨C, dx, xs, m, q _ h1, RpF.mono s _ _ h2⟩
theorem OwnAt.there (h : OwnAt K mg H F p d) : ∃ o, H p = some o := by
  cases d <;> try (exact h.elim)
  · obtain ⟨xs, h1, h2⟩ := h; exact ⟨_, h1⟩
  · obtain ⟨xs, h1, h2⟩ := h; exact ⟨_, h1⟩
  · obtain ⟨xs, h1, h2⟩ := h; exact ⟨_, h1⟩
  · obtain ⟨C, dx, xs, m, h1, h2⟩ := h; exact ⟨_, h1⟩
theorem OwnAt.rp (h : OwnAt K mg H F p d) (n : F p = none) {o : HO} (ho : H p = some o) : Rp K mg (upd F p o) d (.ref p) := by
  have s : Same F (upd F p o) := same_upd n
  cases d <;> try (exact h.elim)
  · obtain ⟨xs, h1, h2⟩ := h; rw [ho] at h1; cases h1
    unfold Rp
    exact ⟨p, xs, rfl, upd_same, RpL.mono s _ _ h2⟩
  · obtain ⟨xs, h1, h2⟩ := h; rw [ho] at h1; cases h1
    unfold Rp
    exact ⟨p, xs, rfl, upd_same, RpK.mono s _ _ h2⟩
  · obtain ⟨xs, h1, h2⟩ := h; rw [ho] at h1; cases h1
    unfold Rp
    exact ⟨p, xs, rfl, upd_same, RpT.mono s _ _ h2⟩
  · obtain ⟨C, dx, xs, m, h1, h2⟩ := h; rw [ho] at h1; cases h1
    unfold Rp
    exact ⟨p, C, dx, xs, rfl, m, upd_same, RpF.mono s _ _ h2⟩
theorem OwnAt.rq (h : OwnAt K mg H F p d) : Rq K mg H F d (.ref p) := by
  cases d <;> try (exact h.elim)
  · obtain ⟨xs, h1, h2⟩ := h; exact ⟨p, xs, rfl, h1, h2⟩
  · obtain ⟨xs, h1, h2⟩ := h; exact ⟨p, xs, rfl, h1, h2⟩
  · obtain ⟨xs, h1, h2⟩ := h; exact ⟨p, xs, rfl, h1, h2⟩
  · obtain ⟨C, dx, xs, m, h1, h2⟩ := h; exact ⟨p, C, dx, xs, rfl, m, h1, h2⟩
theorem Rp.rq (s : Same F H) (h : Rp K mg F d v) : Rq K mg H F d v := by
  cases d <;> unfold Rq <;> try (exact h)
  · unfold Rp at h
    obtain ⟨a, xs, e, q, r⟩ := h
    exact ⟨a, xs, e, s _ _ q, r⟩
  · unfold Rp at h
    obtain ⟨a, xs, e, q, r⟩ := h
    exact ⟨a, xs, e, s _ _ q, r⟩
  · unfold Rp at h
    obtain ⟨a, xs, e, q, r⟩ := h
    exact ⟨a, xs, e, s _ _ q, r⟩
  · unfold Rp at h
    obtain ⟨a, C, dx, xs, e, m, q, r⟩ := h
    exact ⟨a, C, dx, xs, e, m, s _ _ q, r⟩
theorem ER.al (r : ER K mg T e σ H F) (a : Al H F H' F') : ER K mg T e σ H' F' := by
  obtain ⟨s1, s2, s3⟩ := a.same r.sub
  refine ⟨s3, fun i d h => ?_, fun i d h => ?_, r.inj, r.len, r.pin⟩
  · obtain ⟨v, h1, h2⟩ := r.val i d h
    exact ⟨v, h1, Rp.mono s1 _ _ h2⟩
  · obtain ⟨p, h1, h2, h3⟩ := r.own i d h
    refine ⟨p, h1, ?_, h3.keep s1 (s2 p)⟩
    obtain ⟨o, ho⟩ := h3.there
    rcases a with ⟨rfl, rfl⟩ | ⟨q, u, hq, rfl, rfl⟩
    · exact h2
    · rw [upd_ne (ne_of_none ho hq)]; exact h2
theorem Mv.al (r : ER K mg T e σ H F) (a : Al H F H' F') : Mv e σ H F e σ H' F' := by
  obtain ⟨s1, s2, s3⟩ := a.same r.sub
  refine ⟨s1, fun b o h n => ⟨s2 b o h, n⟩, fun b o h => ?_, fun b h => s2.free h⟩
  rcases a with ⟨rfl, rfl⟩ | ⟨q, u, hq, rfl, rfl⟩
  · exact .inl h
  · by_cases hb : b = q
    · subst hb; exact .inr (.inl hq)
    · rw [upd_ne hb] at h; exact .inl h
theorem Ow.ne_of_free (r : ER K mg T e σ H F) (h : H a = none) : ¬ Ow e σ a := by
  rintro ⟨i, d, h1, h2⟩
  obtain ⟨p, h3, _, h4⟩ := r.own i d h1
  rw [h3] at h2; cases h2
  obtain ⟨o, ho⟩ := h4.there
  rw [ho] at h; cases h
theorem ER.freeze (r : ER K mg T e σ H F) (n : F p = none) (w : ¬ Ow e σ p) {o : HO} (ho : H p = some o) : ER K mg T e σ H (upd F p o) := by
  have s : Same F (upd F p o) := same_upd n
  refine ⟨fun b u q => ?_, fun i d h => ?_, fun i d h => ?_, r.inj, r.len, r.pin⟩
  · by_cases hb : b = p
    · subst hb; rw [upd_same] at q; cases q; exact ho
    · rw [upd_ne hb] at q; exact r.sub b u q
  · obtain ⟨v, h1, h2⟩ := r.val i d h
    exact ⟨v, h1, Rp.mono s _ _ h2⟩
  · obtain ⟨q, h1, h2, h3⟩ := r.own i d h
    refine ⟨q, h1, ?_, h3.keep s fun _ z => z⟩
    have hqp : q ≠ p := by
      rintro rfl
      exact w ⟨i, d, h, h1⟩
    rw [upd_ne hqp]; exact h2
theorem ER.freezeAt {i : Nat} (r : ER K mg T e σ H F) (h : e[i]? = some (.own d)) (hp : σ[i]? = some (some (.ref p))) {o : HO} (ho : H p = some o) : ER K mg T (e.set i (.val d)) σ H (upd F p o) ∧ Rp K mg (upd F p o) d (.ref p) ∧ Mv e σ H F (e.set i (.val d)) σ H (upd F p o) := by
  obtain ⟨q, h1, h2, h3⟩ := r.own i d h
  rw [hp] at h1; cases h1
  have s : Same F (upd F p o) := same_upd h2
  have hrp := h3.rp h2 ho
  have hi : i < e.length := (List.getElem?_eq_some_iff.mp h).1
  have other : ∀ (j : Nat) (x : D), (e.set i (Sl.val d))[j]? = some (.own x) → e[j]? = some (.own x) ∧ j ≠ i := fun j x q => by
    by_cases hj : j = i
    · subst hj; rw [List.getElem?_set_self hi] at q; cases q
    · rw [List.getElem?_set_ne (Ne.symm hj)] at q; exact ⟨q, hj⟩
  refine ⟨⟨fun b u q => ?_, fun j x q => ?_, fun j x q => ?_, fun j k p' x y q1 q2 => r.inj j k p' x y (other j x q1).1 (other k y q2).1, by rw [List.length_set]; exact r.len, r.pin⟩, hrp, s, fun a u q n => ⟨q, ?_⟩, fun a u q => ?_, fun a q => q⟩
  · by_cases hb : b = p
    · subst hb; rw [upd_same] at q; cases q; exact ho
    · rw [upd_ne hb] at q; exact r.sub b u q
  · by_cases hj : j = i
    · subst hj; rw [List.getElem?_set_self hi] at q; cases q
      exact ⟨_, hp, hrp⟩
    · rw [List.getElem?_set_ne (Ne.symm hj)] at q
      obtain ⟨v, h4, h5⟩ := r.val j x q
      exact ⟨v, h4, Rp.mono s _ _ h5⟩
  · obtain ⟨q, hj⟩ := other j x q
    obtain ⟨p', h4, h5, h6⟩ := r.own j x q
    refine ⟨p', h4, ?_, h6.keep s fun _ z => z⟩
    rw [upd_ne]; exact h5
    rintro rfl
    exact hj (r.inj j i p' x d q h h4 hp)
  · rintro ⟨j, x, q1, q2⟩
    exact n ⟨j, x, (other j x q1).1, q2⟩
  · by_cases hb : a = p
    · subst hb; exact .inr (.inr ⟨i, d, h, hp⟩)
    · rw [upd_ne hb] at q; exact .inl q
end
def XR (K : PySem.W.Frag) (mg : Str → Option Value) (x : Ex) (cl : Value) (dd : Option Addr) (H F : Hp) : Prop :=
  mg x.c = some cl ∧ ((x.fs = [] ∧ dd = none) ∨ (x.fs ≠ [] ∧ ∃ a gs, dd = some a ∧ H a = some (.xd gs) ∧ RpF K mg F x.fs gs))
section
variable (K : PySem.W.Frag) (mg : Str → Option Value) (T : Pn) (W : WX)
def RunAt {A : Type} (e : En) (F : Hp) (m : M A) (σ : St) (H : Hp) (P : A → En → Hp → Hp → Prop) : Prop :=
  match m e with
  | .ok a e' => ∀ H' F', ER K mg T e' σ H' F' → Mv e σ H F e' σ H' F' → P a e' H' F'
  | .exc x e' => ∀ H' F' cl dd, ER K mg T e' σ H' F' → Mv e σ H F e' σ H' F' → XR K mg x cl dd H' F' → W cl dd σ H'
  | .bad => False
def TV (m : M D) : TE := fun σ H Q => ∃ e F, ER K mg T e σ H F ∧ RunAt K mg T W e F m σ H fun d _ H' F' => ∀ v, Rp K mg F' d v → Q v H'
def TO (m : M D) : TE := fun σ H Q => ∃ e F, ER K mg T e σ H F ∧ RunAt K mg T W e F m σ H fun d e' H' F' => ∀ p, H p = none → F' p = none → ¬ Ow e' σ p → OwnAt K mg H' F' p d → Q (.ref p) H'
def TT' (m : M Bool) : TT := fun σ H Q => ∃ e F, ER K mg T e σ H F ∧ RunAt K mg T W e F m σ H fun b _ H' F' => Q b H'
def TAs (m : M (List D)) : TA := fun σ H Q => ∃ e F, ER K mg T e σ H F ∧ RunAt K mg T W e F m σ H fun ds _ H' F' => ∀ vs, RpL K mg F' ds vs → Q vs H'
end
section
variable {K : PySem.W.Frag} {mg : Str → Option Value} {T : Pn} {W : WX} {A B : Type} {e : En} {σ : St} {H F : Hp}
theorem RunAt.mono {m : M A} {P P' : A → En → Hp → Hp → Prop} (h : RunAt K mg T W e F m σ H P) (hp : ∀ a e' H' F', ER K mg T e' σ H' F' → Mv e σ H F e' σ H' F' → P a e' H' F' → P' a e' H' F') : RunAt K mg T W e F m σ H P' := by
  unfold RunAt at h ⊢
  cases q : m e with
  | ok a e' =>
    rw [q] at h
    exact fun H' F' er mv => hp _ _ _ _ er mv (h H' F' er mv)
  | exc x e' => rw [q] at h; exact h
  | bad => rw [q] at h; exact h
theorem RunAt.bind {m : M A} {f : A → M B} {P : B → En → Hp → Hp → Prop} (h : RunAt K mg T W e F (bnd m f) σ H P) : RunAt K mg T W e F m σ H fun a e1 H1 F1 => RunAt K mg T W e1 F1 (f a) σ H1 P := by
  unfold RunAt bnd at h
  unfold RunAt
  cases q : m e with
  | ok a e1 =>
    rw [q] at h
    dsimp only at h ⊢
    intro H1 F1 er1 mv1
    cases q2 : f a e1 with
    | ok b e2 =>
      rw [q2] at h
      exact fun H2 F2 er2 mv2 => h H2 F2 er2 (mv1.trans mv2)
    | exc x e2 =>
      rw [q2] at h
      exact fun H2 F2 cl dd er2 mv2 => h H2 F2 cl dd er2 (mv1.trans mv2)
    | bad => rw [q2] at h; exact h
  | exc x e' => rw [q] at h; exact h
  | bad => rw [q] at h; exact h
theorem RunAt.fin {o : Option A} {P : A → En → Hp → Hp → Prop} (h : RunAt K mg T W e F (opt o) σ H P) (er : ER K mg T e σ H F) : ∃ a, o = some a ∧ ∀ H' F', Al H F H' F' → P a e H' F' := by
  unfold RunAt opt at h
  cases o with
  | none => exact h.elim
  | some a => exact ⟨a, rfl, fun H' F' al => h H' F' (er.al al) (Mv.al er al)⟩
theorem RunAt.rfin {a : A} {P : A → En → Hp → Hp → Prop} (h : RunAt K mg T W e F (ret a) σ H P) (er : ER K mg T e σ H F) : ∀ H' F', Al H F H' F' → P a e H' F' :=
  fun H' F' al => h H' F' (er.al al) (Mv.al er al)
end
end Sr
namespace Sr
open PySem PySem.Spec L2
open PyProof.Rows hiding St
theorem PEimp {X : Cx} {e : Expr} {t t' : TE} (h : PE X e t) (k : ∀ σ H Q, t' σ H Q → t σ H Q) : PE X e t' := ⟨fun pins s σ H Q I q => h.run pins s σ H Q I (k σ H Q q)⟩
abbrev JV (X : Cx) (T : Pn) (W : WX) (e : Expr) (m : M D) : Prop := PE X e (TV X.K X.mg T W m)
abbrev JO (X : Cx) (T : Pn) (W : WX) (e : Expr) (m : M D) : Prop := PE X e (TO X.K X.mg T W m)
abbrev JT (X : Cx) (T : Pn) (W : WX) (e : Expr) (m : M Bool) : Prop := PT X e (TT' X.K X.mg T W m)
abbrev JW (X : Cx) (T : Pn) (W : WX) (e : Expr) (m : M Bool) : Prop := PW X e (TT' X.K X.mg T W m)
abbrev JA (X : Cx) (T : Pn) (W : WX) (es : List Expr) (m : M (List D)) : Prop := PA X es (TAs X.K X.mg T W m)
inductive Bv where
  | val (d : D)
  | slot (i : Nat)
def BwR (K : PySem.W.Frag) (mg : Str → Option Value) (σ : St) (F : Hp) : Bv → V → Prop
  | .val d, v => Rp K mg F d v
  | .slot i, v => σ[i]? = some (some v)
def TBw (K : PySem.W.Frag) (mg : Str → Option Value) (T : Pn) (W : WX) (m : M Bv) : TE := fun σ H Q => ∃ e F, ER K mg T e σ H F ∧ RunAt K mg T W e F m σ H fun b _ H' F' => ∀ v, BwR K mg σ F' b v → Q v H'
abbrev JB (X : Cx) (T : Pn) (W : WX) (e : Expr) (m : M Bv) : Prop := PE X e (TBw X.K X.mg T W m)
def der (b : Bv) : M D := fun e => match b with
  | .val d => .ok d e
  | .slot i => match e[i]? with
    | some (.val d) => .ok d e
    | some (.own d) => .ok d e
    | _ => .bad
section
variable {K : PySem.W.Frag} {mg : Str → Option Value} {T : Pn} {W : WX} {e : En} {σ : St} {H F F' : Hp} {b : Bv} {v : V}
theorem BwR.mono (s : Same F F') (h : BwR K mg σ F b v) : BwR K mg σ F' b v := by
  cases b with
  | val d => exact Rp.mono s _ _ h
  | slot i => exact h
theorem der_fin {P : D → En → Hp → Hp → Prop} (h : RunAt K mg T W e F (der b) σ H P) (er : ER K mg T e σ H F) (hb : BwR K mg σ F b v) : ∃ d, Rq K mg H F d v ∧ P d e H F := by
  cases b with
  | val d => exact ⟨d, Rp.rq er.sub hb, h H F er Mv.refl⟩
  | slot i =>
    unfold RunAt der at h
    cases q : e[i]? with
    | none => simp only [q] at h
    | some sl =>
      cases sl with
      | no => simp only [q] at h
      | val d =>
        simp only [q] at h
        obtain ⟨w, h1, h2⟩ := er.val i d q
        have hv : σ[i]? = some (some v) := hb
        rw [h1] at hv; cases hv
        exact ⟨d, Rp.rq er.sub h2, h H F er Mv.refl⟩
      | own d =>
        simp only [q] at h
        obtain ⟨p, h1, h2, h3⟩ := er.own i d q
        have hv : σ[i]? = some (some v) := hb
        rw [h1] at hv; cases hv
        exact ⟨d, h3.rq, h H F er Mv.refl⟩
end
section
variable {X : Cx} {T : Pn} {W : WX} {pos : Pos} {a b c : Expr} {ma mb mc : M D}
theorem ofO {m : M D} (h : JO X T W a m) : JV X T W a m := by
  refine PEimp h fun σ H Q ⟨e, F, er, q⟩ => ⟨e, F, er, ?_⟩
  unfold RunAt at q ⊢
  cases r : m e with
  | ok d e' =>
    rw [r] at q
    intro H' F' er' mv p hp fp np ow
    obtain ⟨o, ho⟩ := ow.there
    refine q H' (upd F' p o) (er'.freeze fp np ho) ⟨mv.sub.trans (same_upd fp), mv.keep, fun c u hc => ?_, mv.there⟩ _ (ow.rp fp ho)
    by_cases hcp : c = p
    · subst hcp; exact .inr (.inl hp)
    · rw [upd_ne hcp] at hc; exact mv.new c u hc
  | exc x e' => rw [r] at q; exact q
  | bad => rw [r] at q; exact q
def mB (m : M D) : M Bv := bnd m fun d => ret (.val d)
theorem ofV {m : M D} (h : JV X T W a m) : JB X T W a (mB m) := by
  refine PEimp h fun σ H Q ⟨e, F, er, q⟩ => ⟨e, F, er, q.bind.mono fun d e1 H1 F1 er1 mv1 q1 v hv => q1.rfin er1 H1 F1 Al.refl v hv⟩
theorem jv_int {i j} : JV X T W (.Constant (.int i) j pos) (ret (.int i)) := PEimp pe_int fun σ H Q ⟨e, F, er, h⟩ => h.rfin er H F Al.refl _ (by unfold Rp; rfl)
theorem jv_bl {i j} : JV X T W (.Constant (.bool i) j pos) (ret (.bl i)) := PEimp pe_bl fun σ H Q ⟨e, F, er, h⟩ => h.rfin er H F Al.refl _ (by unfold Rp; rfl)
theorem jv_str {i j} : JV X T W (.Constant (.str i) j pos) (ret (.str i)) := PEimp pe_str fun σ H Q ⟨e, F, er, h⟩ => h.rfin er H F Al.refl _ (by unfold Rp; rfl)
theorem jv_non {j} : JV X T W (.Constant .none j pos) (ret .non) := PEimp pe_non fun σ H Q ⟨e, F, er, h⟩ => h.rfin er H F Al.refl _ (by unfold Rp; rfl)
theorem jv_glob {x : Str} {v : V} {u : Value} {d : D} (hg : Gl X x) (hm : X.mg x = some u) (r : RelV v u) (hd : ∀ F, Rp X.K X.mg F d v) (hx : (x == ("__debug__" : Str)) = false := by decide) : JV X T W (.Name x pos) (ret d) :=
  PEimp (pe_glob hg hm r hx) fun σ H Q ⟨e, F, er, h⟩ => h.rfin er H F Al.refl _ (hd F)
def mN (i : Nat) : M D := fun e => match e[i]? with
  | some (.val d) => .ok d e
  | some (.own d) => .ok d (e.set i (.val d))
  | _ => .bad
def mNB (i : Nat) : M Bv := fun e => match e[i]? with
  | some (.val d) => .ok (.val d) e
  | some (.own _) => .ok (.slot i) e
  | _ => .bad
theorem jv_name (i : Nat) {x : Str} (hN : X.N[i]? = some x := by rfl) (hv : Vis X.env.scope x := by first | exact Or.inl rfl | exact Or.inr (Or.inl rfl) | exact Or.inr (Or.inr rfl)) (hd : (x == ("__debug__" : Str)) = false := by decide)
    (hcd : (x == ("__classdict__" : Str)) = false := by decide) : JV X T W (.Name x pos) (mN i) := by
  refine PEimp (pe_var hN hv hd hcd) fun σ H Q ⟨e, F, er, h⟩ => ?_
  unfold RunAt mN at h
  cases q : e[i]? with
  | none => simp only [q] at h
  | some sl =>
    cases sl with
    | no => simp only [q] at h
    | val d =>
      simp only [q] at h
      obtain ⟨v, h1, h2⟩ := er.val i d q
      exact ⟨v, h1, h H F er Mv.refl v h2⟩
    | own d =>
      simp only [q] at h
      obtain ⟨p, h1, h2, h3⟩ := er.own i d q
      obtain ⟨o, ho⟩ := h3.there
      obtain ⟨er', hr, mv⟩ := er.freezeAt q h1 ho
      exact ⟨_, h1, h H _ er' mv _ hr⟩
theorem jb_name (i : Nat) {x : Str} (hN : X.N[i]? = some x := by rfl) (hv : Vis X.env.scope x := by first | exact Or.inl rfl | exact Or.inr (Or.inl rfl) | exact Or.inr (Or.inr rfl)) (hd : (x == ("__debug__" : Str)) = false := by decide)
    (hcd : (x == ("__classdict__" : Str)) = false := by decide) : JB X T W (.Name x pos) (mNB i) := by
  refine PEimp (pe_var hN hv hd hcd) fun σ H Q ⟨e, F, er, h⟩ => ?_
  unfold RunAt mNB at h
  cases q : e[i]? with
  | none => simp only [q] at h
  | some sl =>
    cases sl with
    | no => simp only [q] at h
    | val d =>
      simp only [q] at h
      obtain ⟨v, h1, h2⟩ := er.val i d q
      exact ⟨v, h1, h H F er Mv.refl v h2⟩
    | own d =>
      simp only [q] at h
      obtain ⟨p, h1, h2, h3⟩ := er.own i d q
      exact ⟨_, h1, h H F er Mv.refl _ h1⟩
def Op2 (X : Cx) (f : Value → Value → Sem Value) (g : D → D → Option D) : Prop :=
  ∀ (H F : Hp) (x y : V) (d1 d2 d : D), Same F H → Rq X.K X.mg H F d1 x → Rq X.K X.mg H F d2 y → g d1 d2 = some d →
    ∃ r : R2, OpR X f r ∧ ∀ Q : VK, (∀ H' F' z, Al H F H' F' → Rp X.K X.mg F' d z → Q z H') → r x y H Q
theorem Op2.or {f : Value → Value → Sem Value} {g g' : D → D → Option D} (h : Op2 X f g) (h' : Op2 X f g') : Op2 X f (fun a b => (g a b).or (g' a b)) := by
  intro H F x y d1 d2 d s r1 r2 e
  cases q : g d1 d2 with
  | some z => simp only [q, Option.some_or] at e; cases e; exact h H F x y d1 d2 _ s r1 r2 q
  | none => simp only [q, Option.none_or] at e; exact h' H F x y d1 d2 d s r1 r2 e
def m2 (g : D → D → Option D) (ma mb : M D) : M D := bnd ma fun d1 => bnd mb fun d2 => opt (g d1 d2)
def m2b (g : D → D → Option D) (ma : M Bv) (mb : M D) : M D := bnd ma fun b1 => bnd mb fun d2 => bnd (der b1) fun d1 => opt (g d1 d2)
def m2r (g : D → D → Option D) (ma : M D) (mb : M Bv) : M D := bnd ma fun d1 => bnd mb fun b2 => bnd (der b2) fun d2 => opt (g d1 d2)
section
variable {f : Value → Value → Sem Value} {g : D → D → Option D} {R : V → V → Hp → Prop} {Q : VK}
theorem run2 (ho : Op2 X f g) {σ : St} {H : Hp} (h : TV X.K X.mg T W (m2 g ma mb) σ H Q) : TV X.K X.mg T W ma σ H fun x H1 => TV X.K X.mg T W mb σ H1 fun y H2 => ∃ r, OpR X f r ∧ r x y H2 Q := by
  obtain ⟨e, F, er, h⟩ := h
  refine ⟨e, F, er, h.bind.mono fun d1 e1 H1 F1 er1 mv1 h1 v hv => ⟨e1, F1, er1, h1.bind.mono fun d2 e2 H2 F2 er2 mv2 h2 w hw => ?_⟩⟩
  obtain ⟨d, hd, fin⟩ := h2.fin er2
  obtain ⟨r, hr, q⟩ := ho H2 F2 v w d1 d2 d er2.sub (Rp.rq er2.sub (Rp.mono mv2.sub _ _ hv)) (Rp.rq er2.sub hw) hd
  exact ⟨r, hr, q Q fun H' F' z al hz => fin H' F' al z hz⟩
theorem run2b {mb1 : M Bv} (ho : Op2 X f g) {σ : St} {H : Hp} (h : TV X.K X.mg T W (m2b g mb1 mb) σ H Q) : TBw X.K X.mg T W mb1 σ H fun x H1 => TV X.K X.mg T W mb σ H1 fun y H2 => ∃ r, OpR X f r ∧ r x y H2 Q := by
  obtain ⟨e, F, er, h⟩ := h
  refine ⟨e, F, er, h.bind.mono fun b1 e1 H1 F1 er1 mv1 h1 v hv => ⟨e1, F1, er1, h1.bind.mono fun d2 e2 H2 F2 er2 mv2 h2 w hw => ?_⟩⟩
  obtain ⟨d1, r1, h3⟩ := der_fin h2.bind er2 (hv.mono mv2.sub)
  obtain ⟨d, hd, fin⟩ := h3.fin er2
  obtain ⟨r, hr, q⟩ := ho H2 F2 v w d1 d2 d er2.sub r1 (Rp.rq er2.sub hw) hd
  exact ⟨r, hr, q Q fun H' F' z al hz => fin H' F' al z hz⟩
theorem run2r {mb2 : M Bv} (ho : Op2 X f g) {σ : St} {H : Hp} (h : TV X.K X.mg T W (m2r g ma mb2) σ H Q) : TV X.K X.mg T W ma σ H fun x H1 => TBw X.K X.mg T W mb2 σ H1 fun y H2 => ∃ r, OpR X f r ∧ r x y H2 Q := by
  obtain ⟨e, F, er, h⟩ := h
  refine ⟨e, F, er, h.bind.mono fun d1 e1 H1 F1 er1 mv1 h1 v hv => ⟨e1, F1, er1, h1.bind.mono fun b2 e2 H2 F2 er2 mv2 h2 w hw => ?_⟩⟩
  obtain ⟨d2, r2, h3⟩ := der_fin h2.bind er2 hw
  obtain ⟨d, hd, fin⟩ := h3.fin er2
  obtain ⟨r, hr, q⟩ := ho H2 F2 v w d1 d2 d er2.sub (Rp.rq er2.sub (Rp.mono mv2.sub _ _ hv)) r2 hd
  exact ⟨r, hr, q Q fun H' F' z al hz => fin H' F' al z hz⟩
end
def rAny (X : Cx) (f : Value → Value → Sem Value) : R2 := fun x y H Q => ∃ r, OpR X f r ∧ r x y H Q
theorem opAny {f : Value → Value → Sem Value} : OpR X f (rAny X f) := fun pins s σ H x y v u Q I rx ry ⟨r, hr, q⟩ => hr pins s σ H x y v u Q I rx ry q
theorem jv_bin {op : Operator} {g : D → D → Option D} (ho : Op2 X (binaryOp op) g) (ha : JV X T W a ma) (hb : JV X T W b mb) : JV X T W (.BinOp a op b pos) (m2 g ma mb) :=
  PEimp (pe_op opAny ha hb) fun σ H Q h => run2 ho h
theorem jv_cmp {op : CmpOp} {g : D → D → Option D} (ho : Op2 X (compareOp op) g) (ha : JV X T W a ma) (hb : JV X T W b mb) (hm : behindInMarks op b = false := by first | exact nomark _ | rfl) : JV X T W (.Compare a [op] [b] pos) (m2 g ma mb) :=
  PEimp (pe_cmpR opAny ha hb hm) fun σ H Q h => run2 ho h
theorem jv_cmpB {op : CmpOp} {g : D → D → Option D} {m1 : M Bv} (ho : Op2 X (compareOp op) g) (ha : JB X T W a m1) (hb : JV X T W b mb) (hm : behindInMarks op b = false := by first | exact nomark _ | rfl) : JV X T W (.Compare a [op] [b] pos) (m2b g m1 mb) :=
  PEimp (pe_cmpR opAny ha hb hm) fun σ H Q h => run2b ho h
theorem jv_cmpR {op : CmpOp} {g : D → D → Option D} {m1 : M Bv} (ho : Op2 X (compareOp op) g) (ha : JV X T W a ma) (hb : JB X T W b m1) (hm : behindInMarks op b = false := by first | exact nomark _ | rfl) : JV X T W (.Compare a [op] [b] pos) (m2r g ma m1) :=
  PEimp (pe_cmpR opAny ha hb hm) fun σ H Q h => run2r ho h
def asB : D → Option Bool
  | .bl b => some b
  | _ => none
def mT (m : M D) : M Bool := bnd m fun d => opt (asB d)
theorem runT {σ : St} {H : Hp} {Q : Bool → Hp → Prop} (h : TT' X.K X.mg T W (mT ma) σ H Q) : TV X.K X.mg T W ma σ H fun x H1 => ∃ k, x = .bl k ∧ Q k H1 := by
  obtain ⟨e, F, er, h⟩ := h
  refine ⟨e, F, er, h.bind.mono fun d e1 H1 F1 er1 mv1 h1 v hv => ?_⟩
  obtain ⟨k, hk, fin⟩ := h1.fin er1
  cases d <;> cases hk
  unfold Rp at hv
  exact ⟨_, hv, fin H1 F1 Al.refl⟩
theorem PTimp {e : Expr} {t t' : TT} (h : PT X e t) (k : ∀ σ H Q, t' σ H Q → t σ H Q) : PT X e t' := ⟨fun pins s σ H Q I q => h.run pins s σ H Q I (k σ H Q q)⟩
theorem PWimp {e : Expr} {t t' : TT} (h : PW X e t) (k : ∀ σ H Q, t' σ H Q → t σ H Q) : PW X e t' := ⟨fun wh pins s σ H Q I q => h.run wh pins s σ H Q I (k σ H Q q)⟩
theorem jt_cmp {op : CmpOp} {g : D → D → Option D} (ho : Op2 X (compareOp op) g) (ha : JV X T W a ma) (hb : JV X T W b mb) (hm : behindInMarks op b = false := by first | exact nomark _ | rfl) : JT X T W (.Compare a [op] [b] pos) (mT (m2 g ma mb)) :=
  PTimp (pt_cmpR opAny ha hb hm) fun σ H Q h => run2 ho (runT h)
theorem jt_cmpB {op : CmpOp} {g : D → D → Option D} {m1 : M Bv} (ho : Op2 X (compareOp op) g) (ha : JB X T W a m1) (hb : JV X T W b mb) (hm : behindInMarks op b = false := by first | exact nomark _ | rfl) : JT X T W (.Compare a [op] [b] pos) (mT (m2b g m1 mb)) :=
  PTimp (pt_cmpR opAny ha hb hm) fun σ H Q h => run2b ho (runT h)
theorem jt_cmpR {op : CmpOp} {g : D → D → Option D} {m1 : M Bv} (ho : Op2 X (compareOp op) g) (ha : JV X T W a ma) (hb : JB X T W b m1) (hm : behindInMarks op b = false := by first | exact nomark _ | rfl) : JT X T W (.Compare a [op] [b] pos) (mT (m2r g ma m1)) :=
  PTimp (pt_cmpR opAny ha hb hm) fun σ H Q h => run2r ho (runT h)
def mChain (g g' : D → D → Option D) (ma mb mc : M D) : M D := bnd ma fun d1 => bnd mb fun d2 => bnd (opt ((g d1 d2).bind asB)) fun k => if k = true then bnd mc fun d3 => opt (g' d2 d3) else ret (.bl false)
theorem runChain {op op' : CmpOp} {g g' : D → D → Option D} {Q : VK} {σ : St} {H : Hp} (ho : Op2 X (compareOp op) g) (ho' : Op2 X (compareOp op') g') (h : TV X.K X.mg T W (mChain g g' ma mb mc) σ H Q) :
    tChain (rAny X (compareOp op)) (rAny X (compareOp op')) (TV X.K X.mg T W ma) (TV X.K X.mg T W mb) (TV X.K X.mg T W mc) σ H Q := by
  obtain ⟨e, F, er, h⟩ := h
  refine ⟨e, F, er, h.bind.mono fun d1 e1 H1 F1 er1 mv1 h1 v hv => ⟨e1, F1, er1, h1.bind.mono fun d2 e2 H2 F2 er2 mv2 h2 w hw => ?_⟩⟩
  obtain ⟨k, hk, fin⟩ := h2.bind.fin er2
  cases hg : g d1 d2 with
  | none => rw [hg] at hk; cases hk
  | some d =>
    rw [hg] at hk
    obtain ⟨r, hr, q⟩ := ho H2 F2 v w d1 d2 d er2.sub (Rp.rq er2.sub (Rp.mono mv2.sub _ _ hv)) (Rp.rq er2.sub hw) hg
    refine ⟨r, hr, q _ fun H' F' z al hz => ?_⟩
    cases d <;> cases hk
    unfold Rp at hz
    have er3 := er2.al al
    have s3 : Same F2 F' := (al.same er2.sub).1
    refine ⟨k, hz, ?_⟩
    have h3 := fin H' F' al
    cases k with
    | false =>
      rw [if_neg (by decide)] at h3 ⊢
      exact h3.rfin er3 H' F' Al.refl _ (by unfold Rp; rfl)
    | true =>
      rw [if_pos rfl] at h3 ⊢
      refine ⟨e2, F', er3, h3.bind.mono fun d3 e4 H4 F4 er4 mv4 h4 y hy => ?_⟩
      obtain ⟨d', hd', fin'⟩ := h4.fin er4
      obtain ⟨r', hr', q'⟩ := ho' H4 F4 w y d2 d3 d' er4.sub (Rp.rq er4.sub (Rp.mono (s3.trans mv4.sub) _ _ hw)) (Rp.rq er4.sub hy) hd'
      exact ⟨r', hr', q' Q fun H' F' z al hz => fin' H' F' al z hz⟩
theorem jv_chain {op op' : CmpOp} {g g' : D → D → Option D} (ho : Op2 X (compareOp op) g) (ho' : Op2 X (compareOp op') g') (ha : JV X T W a ma) (hb : JV X T W b mb) (hc : JV X T W c mc)
    (hm : lastMarks [op, op'] [b, c] = false := by with_unfolding_all rfl) : JV X T W (.Compare a [op, op'] [b, c] pos) (mChain g g' ma mb mc) :=
  PEimp (pe_chain opAny opAny ha hb hc hm) fun σ H Q h => runChain ho ho' h
theorem jt_chain {op op' : CmpOp} {g g' : D → D → Option D} (ho : Op2 X (compareOp op) g) (ho' : Op2 X (compareOp op') g') (ha : JV X T W a ma) (hb : JV X T W b mb) (hc : JV X T W c mc)
    (hm : lastMarks [op, op'] [b, c] = false := by with_unfolding_all rfl) : JT X T W (.Compare a [op, op'] [b, c] pos) (mT (mChain g g' ma mb mc)) :=
  PTimp (pt_chain opAny opAny ha hb hc hm) fun σ H Q h => runChain ho ho' (runT h)
def mAnd (m m' : M Bool) : M Bool := bnd m fun k => if k = true then m' else ret false
def mOr (m m' : M Bool) : M Bool := bnd m fun k => if k = true then ret true else m'
def mNot (m : M Bool) : M Bool := bnd m fun k => ret (!k)
variable {rest : List Expr} {n n' : M Bool}
theorem jw_and1 (ha : JT X T W a n) : JW X T W (.BoolOp .And [a] pos) n := pw_and1 ha
theorem jw_or1 (ha : JT X T W a n) : JW X T W (.BoolOp .Or [a] pos) n := pw_or1 ha
theorem jw_and (ha : JT X T W a n) (hb : JW X T W (.BoolOp .And (b :: rest) pos) n') : JW X T W (.BoolOp .And (a :: b :: rest) pos) (mAnd n n') := by
  refine PWimp (pw_and ha hb) fun σ H Q ⟨e, F, er, h⟩ => ⟨e, F, er, h.bind.mono fun k e1 H1 F1 er1 mv1 h1 => ?_⟩
  cases k with
  | true => rw [if_pos rfl] at h1 ⊢; exact ⟨e1, F1, er1, h1⟩
  | false => rw [if_neg (by decide)] at h1 ⊢; exact h1.rfin er1 H1 F1 Al.refl
theorem jw_or (ha : JT X T W a n) (hb : JW X T W (.BoolOp .Or (b :: rest) pos) n') : JW X T W (.BoolOp .Or (a :: b :: rest) pos) (mOr n n') := by
  refine PWimp (pw_or ha hb) fun σ H Q ⟨e, F, er, h⟩ => ⟨e, F, er, h.bind.mono fun k e1 H1 F1 er1 mv1 h1 => ?_⟩
  cases k with
  | false => rw [if_neg (by decide)] at h1 ⊢; exact ⟨e1, F1, er1, h1⟩
  | true => rw [if_pos rfl] at h1 ⊢; exact h1.rfin er1 H1 F1 Al.refl
theorem ofW (h : JW X T W a n) : JT X T W a n := h.pt
theorem jt_not (ha : JT X T W a n) : JT X T W (.UnaryOp .Not a pos) (mNot n) :=
  PTimp (pt_not ha) fun σ H Q ⟨e, F, er, h⟩ => ⟨e, F, er, h.bind.mono fun k e1 H1 F1 er1 mv1 h1 => h1.rfin er1 H1 F1 Al.refl⟩
def mAndV (m m' : M D) : M D := bnd m fun d => bnd (opt (asB d)) fun k => if k = true then m' else ret (.bl false)
def mOrV (m m' : M D) : M D := bnd m fun d => bnd (opt (asB d)) fun k => if k = true then ret (.bl true) else m'
def mNotV (m : M D) : M D := bnd m fun d => opt ((asB d).map fun k => .bl (!k))
theorem jv_one {op} (h : JV X T W a ma) : JV X T W (.BoolOp op [a] pos) ma := pe_one h
theorem jv_and (ha : JV X T W a ma) (hb : JV X T W (.BoolOp .And (b :: rest) pos) mb) : JV X T W (.BoolOp .And (a :: b :: rest) pos) (mAndV ma mb) := by
  refine PEimp (pe_and ha hb) fun σ H Q ⟨e, F, er, h⟩ => ⟨e, F, er, h.bind.mono fun d e1 H1 F1 er1 mv1 h1 v hv => ?_⟩
  obtain ⟨k, hk, fin⟩ := h1.bind.fin er1
  cases d <;> cases hk
  unfold Rp at hv
  refine ⟨k, hv, ?_⟩
  have h2 := fin H1 F1 Al.refl
  cases k with
  | true => rw [if_pos rfl] at h2 ⊢; exact ⟨e1, F1, er1, h2⟩
  | false => rw [if_neg (by decide)] at h2 ⊢; exact h2.rfin er1 H1 F1 Al.refl _ (by unfold Rp; rfl)
theorem jv_or (ha : JV X T W a ma) (hb : JV X T W (.BoolOp .Or (b :: rest) pos) mb) : JV X T W (.BoolOp .Or (a :: b :: rest) pos) (mOrV ma mb) := by
  refine PEimp (pe_or ha hb) fun σ H Q ⟨e, F, er, h⟩ => ⟨e, F, er, h.bind.mono fun d e1 H1 F1 er1 mv1 h1 v hv => ?_⟩
  obtain ⟨k, hk, fin⟩ := h1.bind.fin er1
  cases d <;> cases hk
  unfold Rp at hv
  refine ⟨k, hv, ?_⟩
  have h2 := fin H1 F1 Al.refl
  cases k with
  | false => rw [if_neg (by decide)] at h2 ⊢; exact ⟨e1, F1, er1, h2⟩
  | true => rw [if_pos rfl] at h2 ⊢; exact h2.rfin er1 H1 F1 Al.refl _ (by unfold Rp; rfl)
theorem jv_not (ha : JV X T W a ma) : JV X T W (.UnaryOp .Not a pos) (mNotV ma) := by
  refine PEimp (pe_not ha) fun σ H Q ⟨e, F, er, h⟩ => ⟨e, F, er, h.bind.mono fun d e1 H1 F1 er1 mv1 h1 v hv => ?_⟩
  obtain ⟨z, hz, fin⟩ := h1.fin er1
  cases d <;> cases hz
  unfold Rp at hv
  exact ⟨_, hv, fin H1 F1 Al.refl _ (by unfold Rp; rfl)⟩
def mIf (n : M Bool) (ma mb : M D) : M D := bnd n fun k => if k = true then ma else mb
theorem jv_if {c : Expr} (hc : JT X T W c n) (ha : JV X T W a ma) (hb : JV X T W b mb) : JV X T W (.IfExp c a b pos) (mIf n ma mb) := by
  refine PEimp (pe_ifExp hc ha hb) fun σ H Q ⟨e, F, er, h⟩ => ⟨e, F, er, h.bind.mono fun k e1 H1 F1 er1 mv1 h1 => ?_⟩
  cases k with
  | true => rw [if_pos rfl] at h1 ⊢; exact ⟨e1, F1, er1, h1⟩
  | false => rw [if_neg (by decide)] at h1 ⊢; exact ⟨e1, F1, er1, h1⟩
def dTru : D → Option Bool
  | .non => some false
  | .bl b => some b
  | .int i => some (i != 0)
  | .str y => if y.length ≤ sizeLine then some ((y.length : Int) != 0) else none
  | .lst ds => some (!ds.isEmpty)
  | .tup ds => some (!ds.isEmpty)
  | .dk ds => some (!ds.isEmpty)
  | _ => none
theorem RpL.isEmpty {K : PySem.W.Frag} {mg : Str → Option Value} {F : Hp} {ds : List D} {xs : List V} (h : RpL K mg F ds xs) : ds.isEmpty = xs.isEmpty := by
  cases ds with
  | nil => unfold RpL at h; subst h; rfl
  | cons d ds => unfold RpL at h; obtain ⟨v, vs, rfl, _⟩ := h; rfl
theorem RpK.isEmpty {K : PySem.W.Frag} {mg : Str → Option Value} {F : Hp} {ds : List (Key × D)} {xs : List (Key × V)} (h : RpK K mg F ds xs) : ds.isEmpty = xs.isEmpty := by
  cases ds with
  | nil => unfold RpK at h; subst h; rfl
  | cons d ds => obtain ⟨k, d⟩ := d; unfold RpK at h; obtain ⟨v, vs, rfl, _⟩ := h; rfl
theorem dTru_ok {H F : Hp} {d : D} {v : V} {k : Bool} (s : Same F H) (r : Rq X.K X.mg H F d v) (h : dTru d = some k) : TruV X.K v H k := by
  cases d with
  | non => unfold Rq Rp at r; subst r; simp only [dTru, Option.some.injEq] at h; subst h; rfl
  | bl b => unfold Rq Rp at r; subst r; simp only [dTru, Option.some.injEq] at h; subst h; rfl
  | int i => unfold Rq Rp at r; subst r; simp only [dTru, Option.some.injEq] at h; subst h; rfl
  | str y =>
    unfold Rq Rp at r; subst r
    simp only [dTru] at h
    split at h
    · rename_i hz; cases h; exact ⟨hz, rfl⟩
    · cases h
  | byt b => cases h
  | lst ds =>
    obtain ⟨a, xs, rfl, q, r⟩ := r
    simp only [dTru, Option.some.injEq] at h; subst h
    exact .inl ⟨xs, SqL.of q, by rw [r.isEmpty]⟩
  | tup ds =>
    unfold Rq Rp at r
    obtain ⟨a, xs, rfl, q, r⟩ := r
    simp only [dTru, Option.some.injEq] at h; subst h
    exact .inr (.inl ⟨xs, seqT_mono s q, by rw [r.isEmpty]⟩)
  | dk ds =>
    obtain ⟨a, xs, rfl, q, r⟩ := r
    simp only [dTru, Option.some.injEq] at h; subst h
    exact .inr (.inr ⟨xs, q, by rw [r.isEmpty]⟩)
  | dt ds => cases h
  | obj c fs => cases h
  | scr ns => cases h
def mTru (m : M Bv) : M Bool := bnd m fun b => bnd (der b) fun d => opt (dTru d)
theorem jt_truth {m : M Bv} (ha : JB X T W a m) (he : ∀ whole, isTrue a X.env whole = (do let v ← whole; standAt a.pos; holding [v] (truthy v)) := by intro _; rfl) : JT X T W a (mTru m) := by
  refine PTimp (pt_truth ha he) fun σ H Q ⟨e, F, er, h⟩ => ⟨e, F, er, h.bind.mono fun b e1 H1 F1 er1 mv1 h1 v hv => ?_⟩
  obtain ⟨d, r1, h3⟩ := der_fin h1.bind er1 hv
  obtain ⟨k, hk, fin⟩ := h3.fin er1
  exact ⟨k, dTru_ok er1.sub r1 hk, fin H1 F1 Al.refl⟩
theorem jt_val (ha : JV X T W a ma) (he : ∀ whole, isTrue a X.env whole = (do let v ← whole; standAt a.pos; holding [v] (truthy v)) := by intro _; rfl) : JT X T W a (mT ma) :=
  PTimp (pt_val ha he) fun σ H Q h => runT h
def mNil : M (List D) := ret []
def mCons (m : M D) (ms : M (List D)) : M (List D) := bnd m fun d => bnd ms fun ds => ret (d :: ds)
theorem PAimp {es : List Expr} {t t' : TA} (h : PA X es t) (k : ∀ σ H Q, t' σ H Q → t σ H Q) : PA X es t' := ⟨fun pos pins s σ H Q I q => h.run pos pins s σ H Q I (k σ H Q q)⟩
theorem ja_nil : JA X T W [] mNil := PAimp pa_nil fun σ H Q ⟨e, F, er, h⟩ => h.rfin er H F Al.refl _ (by unfold RpL; rfl)
theorem ja_cons {e : Expr} {es : List Expr} {m : M D} {ms : M (List D)} (ha : JV X T W e m) (hr : JA X T W es ms) (hs : starEach (e :: es) X.env = (false, eval e X.env) :: starEach es X.env := by rfl) : JA X T W (e :: es) (mCons m ms) := by
  refine PAimp (pa_cons ha hr hs) fun σ H Q ⟨e, F, er, h⟩ => ⟨e, F, er, h.bind.mono fun d e1 H1 F1 er1 mv1 h1 v hv => ⟨e1, F1, er1, h1.bind.mono fun ds e2 H2 F2 er2 mv2 h2 vs hvs => ?_⟩⟩
  exact h2.rfin er2 H2 F2 Al.refl _ (by unfold RpL; exact ⟨v, vs, rfl, Rp.mono mv2.sub _ _ hv, hvs⟩)
theorem RpL.len {K : PySem.W.Frag} {mg : Str → Option Value} {F : Hp} : ∀ {ds : List D} {xs : List V}, RpL K mg F ds xs → ds.length = xs.length
  | [], xs, h => by unfold RpL at h; subst h; rfl
  | d :: ds, xs, h => by unfold RpL at h; obtain ⟨v, vs, rfl, _, q⟩ := h; rw [List.length_cons, List.length_cons, q.len]
def mTup (ms : M (List D)) : M D := bnd ms fun ds => opt (if ds.length ≤ sizeLine then some (.tup ds) else none)
def mLst (ms : M (List D)) : M D := bnd ms fun ds => opt (if ds.length ≤ sizeLine then some (.lst ds) else none)
theorem jv_tup {es : List Expr} {x1} {ms : M (List D)} (h : JA X T W es ms) : JV X T W (.Tuple es x1 pos) (mTup ms) := by
  refine PEimp (pe_tup h) fun σ H Q ⟨e, F, er, h⟩ => ⟨e, F, er, h.bind.mono fun ds e1 H1 F1 er1 mv1 h1 vs hvs => ?_⟩
  obtain ⟨d, hd, fin⟩ := h1.fin er1
  split at hd
  · rename_i hz
    cases hd
    refine ⟨by rw [← hvs.len]; exact hz, fun p hp => fin _ _ (Al.one hp) _ ?_⟩
    unfold Rp
    exact ⟨p, vs, rfl, SqT.of upd_same, RpL.mono (same_upd (er1.sub.free hp)) _ _ hvs⟩
  · cases hd
end
theorem RunAt.new {K : PySem.W.Frag} {mg : Str → Option Value} {T : Pn} {W : WX} {e : En} {σ : St} {H F : Hp} {d : D} {P : D → En → Hp → Hp → Prop} {p : Addr} {o : HO} (h : RunAt K mg T W e F (ret d) σ H P) (er : ER K mg T e σ H F) (hp : H p = none) : P d e (upd H p o) F := by
  have s : Same H (upd H p o) := same_upd hp
  refine h _ F ⟨er.sub.trans s, er.val, fun i d q => ?_, er.inj, er.len, er.pin⟩ ⟨Same.refl _, fun a u q n => ⟨s a u q, n⟩, fun a u q => .inl q, fun a q => s.free q⟩
  obtain ⟨p', h1, h2, h3⟩ := er.own i d q
  exact ⟨p', h1, h2, h3.keep (Same.refl _) (s p')⟩
section
variable {X : Cx} {T : Pn} {W : WX} {pos : Pos} {a b c : Expr} {ma mb mc : M D}
theorem jo_lst {es : List Expr} {ms : M (List D)} (h : JA X T W es ms) : JO X T W (.List es pos) (mLst ms) := by
  refine PEimp (pe_lst h) fun σ H Q ⟨e, F, er, h⟩ => ⟨e, F, er, h.bind.mono fun ds e1 H1 F1 er1 mv1 h1 vs hvs => ?_⟩
  unfold opt at h1
  split at h1
  · rename_i d hd
    split at hd
    · rename_i hz
      cases hd
      refine ⟨by rw [← hvs.len]; exact hz, fun p hp => ?_⟩
      exact (h1.new er1 hp) p (mv1.there p hp) (er1.sub.free hp) (Ow.ne_of_free er1 hp) ⟨vs, upd_same, hvs⟩
    · cases hd
  · exact h1.elim
end
end Sr
namespace Sr
open PySem PySem.Spec L2
open PyProof.Rows hiding St
section
variable {K : PySem.W.Frag} {mg : Str → Option Value} {F H : Hp}
theorem rp_int {i : Int} {v : V} : Rp K mg F (.int i) v ↔ v = .int i := by unfold Rp; exact Iff.rfl
theorem rp_str {x : Str} {v : V} : Rp K mg F (.str x) v ↔ v = .str x := by unfold Rp; exact Iff.rfl
theorem rp_bl {x : Bool} {v : V} : Rp K mg F (.bl x) v ↔ v = .bl x := by unfold Rp; exact Iff.rfl
theorem rp_non {v : V} : Rp K mg F .non v ↔ v = .non := by unfold Rp; exact Iff.rfl
theorem rp_byt {x : Array UInt8} {v : V} : Rp K mg F (.byt x) v ↔ v = .byt x := by unfold Rp; exact Iff.rfl
theorem rq_int {i : Int} {v : V} : Rq K mg H F (.int i) v ↔ v = .int i := by unfold Rq Rp; exact Iff.rfl
theorem rq_str {x : Str} {v : V} : Rq K mg H F (.str x) v ↔ v = .str x := by unfold Rq Rp; exact Iff.rfl
theorem rq_bl {x : Bool} {v : V} : Rq K mg H F (.bl x) v ↔ v = .bl x := by unfold Rq Rp; exact Iff.rfl
theorem rq_non {v : V} : Rq K mg H F .non v ↔ v = .non := by unfold Rq Rp; exact Iff.rfl
theorem rq_byt {x : Array UInt8} {v : V} : Rq K mg H F (.byt x) v ↔ v = .byt x := by unfold Rq Rp; exact Iff.rfl
theorem rq_tup {ds : List D} {v : V} : Rq K mg H F (.tup ds) v ↔ ∃ a xs, v = .ref a ∧ SqT K F a xs ∧ RpL K mg F ds xs := by
  show Rp K mg F (.tup ds) v ↔ _
  rw [Rp]
theorem rq_scr {ns : List Int} {v : V} : Rq K mg H F (.scr ns) v ↔ ∃ a, v = .ref a ∧ SqL K F a (ns.map V.int) := by
  show Rp K mg F (.scr ns) v ↔ _
  rw [Rp]
theorem rp_lst {ds : List D} {v : V} : Rp K mg F (.lst ds) v ↔ ∃ a xs, v = .ref a ∧ F a = some (.lst xs) ∧ RpL K mg F ds xs := by rw [Rp]
theorem rp_tup {ds : List D} {v : V} : Rp K mg F (.tup ds) v ↔ ∃ a xs, v = .ref a ∧ SqT K F a xs ∧ RpL K mg F ds xs := by rw [Rp]
theorem rp_dk {ds : List (Key × D)} {v : V} : Rp K mg F (.dk ds) v ↔ ∃ a xs, v = .ref a ∧ F a = some (.dK xs) ∧ RpK K mg F ds xs := by rw [Rp]
theorem rp_obj {c : Str} {fs : List (Str × D)} {v : V} : Rp K mg F (.obj c fs) v ↔ ∃ a C dx gs, v = .ref a ∧ mg c = some (.ref C) ∧ F a = some (.ins C dx gs) ∧ RpF K mg F fs gs := by rw [Rp]
theorem rp_scr {ns : List Int} {v : V} : Rp K mg F (.scr ns) v ↔ ∃ a, v = .ref a ∧ SqL K F a (ns.map V.int) := by rw [Rp]
theorem rl_nil {xs : List V} : RpL K mg F [] xs ↔ xs = [] := by rw [RpL]
theorem rl_cons {d : D} {ds : List D} {xs : List V} : RpL K mg F (d :: ds) xs ↔ ∃ v vs, xs = v :: vs ∧ Rp K mg F d v ∧ RpL K mg F ds vs := by rw [RpL]
theorem RpL.get : ∀ {ds : List D} {xs : List V} {i : Nat} {d : D}, RpL K mg F ds xs → ds[i]? = some d → ∃ v, xs[i]? = some v ∧ Rp K mg F d v
  | [], _, _, _, _, e => by simp at e
  | d :: ds, xs, 0, d', h, e => by
    rw [rl_cons] at h
    obtain ⟨v, vs, rfl, r, _⟩ := h
    simp at e; subst e
    exact ⟨v, rfl, r⟩
  | d :: ds, xs, i + 1, d', h, e => by
    rw [rl_cons] at h
    obtain ⟨v, vs, rfl, _, q⟩ := h
    simp at e
    obtain ⟨w, h1, h2⟩ := RpL.get (i := i) q e
    exact ⟨w, by simpa using h1, h2⟩
theorem RpL.append : ∀ {ds es : List D} {xs ys : List V}, RpL K mg F ds xs → RpL K mg F es ys → RpL K mg F (ds ++ es) (xs ++ ys)
  | [], es, xs, ys, h, q => by rw [rl_nil] at h; subst h; exact q
  | d :: ds, es, xs, ys, h, q => by
    rw [rl_cons] at h
    obtain ⟨v, vs, rfl, r, h⟩ := h
    rw [List.cons_append, rl_cons]
    exact ⟨v, vs ++ ys, rfl, r, RpL.append h q⟩
theorem RpL.take : ∀ (n : Nat) {ds : List D} {xs : List V}, RpL K mg F ds xs → RpL K mg F (ds.take n) (xs.take n)
  | 0, ds, xs, h => by simp [rl_nil]
  | n + 1, [], xs, h => by rw [rl_nil] at h; subst h; simp [rl_nil]
  | n + 1, d :: ds, xs, h => by
    rw [rl_cons] at h
    obtain ⟨v, vs, rfl, r, h⟩ := h
    rw [List.take_succ_cons, rl_cons]
    exact ⟨v, vs.take n, by simp, r, RpL.take n h⟩
theorem RpL.drop : ∀ (n : Nat) {ds : List D} {xs : List V}, RpL K mg F ds xs → RpL K mg F (ds.drop n) (xs.drop n)
  | 0, ds, xs, h => h
  | n + 1, [], xs, h => by rw [rl_nil] at h; subst h; simp [rl_nil]
  | n + 1, d :: ds, xs, h => by
    rw [rl_cons] at h
    obtain ⟨v, vs, rfl, r, h⟩ := h
    simp only [List.drop_succ_cons]
    exact RpL.drop n h
theorem RpL.set {d : D} {v : V} (r : Rp K mg F d v) : ∀ (i : Nat) {ds : List D} {xs : List V}, RpL K mg F ds xs → RpL K mg F (ds.set i d) (xs.set i v)
  | _, [], xs, h => by rw [rl_nil] at h; subst h; simp [rl_nil]
  | 0, d' :: ds, xs, h => by
    rw [rl_cons] at h
    obtain ⟨w, vs, rfl, _, h⟩ := h
    rw [List.set_cons_zero, List.set_cons_zero, rl_cons]
    exact ⟨v, vs, rfl, r, h⟩
  | i + 1, d' :: ds, xs, h => by
    rw [rl_cons] at h
    obtain ⟨w, vs, rfl, r', h⟩ := h
    rw [List.set_cons_succ, List.set_cons_succ, rl_cons]
    exact ⟨w, vs.set i v, rfl, r', RpL.set r i h⟩
theorem RpL.ints : ∀ {ns : List Int} {xs : List V}, RpL K mg F (ns.map D.int) xs → xs = ns.map V.int
  | [], xs, h => by simpa [rl_nil] using h
  | n :: ns, xs, h => by
    rw [List.map_cons, rl_cons] at h
    obtain ⟨v, vs, rfl, r, h⟩ := h
    rw [rp_int] at r; subst r
    rw [RpL.ints h, List.map_cons]
end
section
variable {X : Cx}
def gI (c : Int → Int → Bool) (f : Int → Int → D) : D → D → Option D
  | .int i, .int j => if c i j = true then some (f i j) else none
  | _, _ => none
def gI0 (f : Int → Int → D) : D → D → Option D
  | .int i, .int j => some (f i j)
  | _, _ => none
theorem op2_i {f : Value → Value → Sem Value} {C : Int → Int → Prop} {c : Int → Int → Bool} {g : Int → Int → V} {g' : Int → Int → D} (ho : OpR X f (rI C g)) (hc : ∀ i j, c i j = true → C i j) (hg : ∀ i j F, Rp X.K X.mg F (g' i j) (g i j)) : Op2 X f (gI c g') := by
  intro H F x y d1 d2 d s r1 r2 e
  unfold gI at e
  split at e
  · rename_i i j
    split at e
    · rename_i hcc
      cases e
      rw [rq_int] at r1 r2
      exact ⟨_, ho, fun Q q => ⟨i, j, r1, r2, hc i j hcc, q H F _ Al.refl (hg i j F)⟩⟩
    · cases e
  · cases e
theorem op2_i0 {f : Value → Value → Sem Value} {g : Int → Int → V} {g' : Int → Int → D} (ho : OpR X f (rI0 g)) (hg : ∀ i j F, Rp X.K X.mg F (g' i j) (g i j)) : Op2 X f (gI0 g') := by
  intro H F x y d1 d2 d s r1 r2 e
  unfold gI0 at e
  split at e
  · rename_i i j
    cases e
    rw [rq_int] at r1 r2
    exact ⟨_, ho, fun Q q => ⟨i, j, r1, r2, q H F _ Al.refl (hg i j F)⟩⟩
  · cases e
def gSub : D → D → Option D := gI0 fun i j => .int (i - j)
def cMul (i j : Int) : Bool := (decide (-(2 ^ 64) < i) && decide (i < 2 ^ 64)) || (decide (-(2 ^ 64) < j) && decide (j < 2 ^ 64))
def gMulI : D → D → Option D := gI cMul fun i j => .int (i * j)
def cDiv (_ j : Int) : Bool := decide (0 < j) && decide (j < 1073741824)
def gDiv : D → D → Option D := gI cDiv fun i j => .int (i / j)
def gMod : D → D → Option D := gI (fun _ j => decide (0 < j)) fun i j => .int (i % j)
def cPow (i j : Int) : Bool := decide (0 ≤ j) && decide (j ≤ 1000000) && decide (i.natAbs < 2 ^ 64)
def gPow : D → D → Option D := gI cPow fun i j => .int (i ^ j.toNat)
def gShl : D → D → Option D := gI cPow fun i j => .int (i * 2 ^ j.toNat)
def gShr : D → D → Option D := gI (fun _ j => decide (0 ≤ j)) fun i j => .int (i / 2 ^ j.toNat)
def gAndI : D → D → Option D := gI0 fun i j => .int (Builtin.bitAnd i j)
theorem o_sub : Op2 X (binaryOp .Sub) gSub := op2_i0 op_sub fun _ _ _ => by rw [rp_int]
theorem o_mulI : Op2 X (binaryOp .Mult) gMulI := op2_i op_mul (fun i j h => by
  unfold cMul at h
  simp only [Bool.or_eq_true, Bool.and_eq_true, decide_eq_true_eq] at h
  exact h) fun _ _ _ => by rw [rp_int]
theorem o_div : Op2 X (binaryOp .FloorDiv) gDiv := op2_i op_fdiv (fun i j h => by
  unfold cDiv at h
  simp only [Bool.and_eq_true, decide_eq_true_eq] at h
  exact h) fun _ _ _ => by rw [rp_int]
theorem o_mod : Op2 X (binaryOp .Mod) gMod := op2_i op_mod (fun i j h => of_decide_eq_true h) fun _ _ _ => by rw [rp_int]
theorem o_pow : Op2 X (binaryOp .Pow) gPow := op2_i op_pow (fun i j h => by
  unfold cPow at h
  simp only [Bool.and_eq_true, decide_eq_true_eq] at h
  exact ⟨h.1.1, h.1.2, h.2⟩) fun _ _ _ => by rw [rp_int]
theorem o_shl : Op2 X (binaryOp .LShift) gShl := op2_i op_shl (fun i j h => by
  unfold cPow at h
  simp only [Bool.and_eq_true, decide_eq_true_eq] at h
  exact ⟨h.1.1, h.1.2, h.2⟩) fun _ _ _ => by rw [rp_int]
theorem o_shr : Op2 X (binaryOp .RShift) gShr := op2_i op_shr (fun i j h => of_decide_eq_true h) fun _ _ _ => by rw [rp_int]
theorem o_andI : Op2 X (binaryOp .BitAnd) gAndI := op2_i0 op_and fun _ _ _ => by rw [rp_int]
theorem o_lt : Op2 X (compareOp .Lt) (gI0 fun i j => .bl (decide (i < j))) := op2_i0 op_lt fun _ _ _ => by rw [rp_bl]
theorem o_le : Op2 X (compareOp .LtE) (gI0 fun i j => .bl (decide (i ≤ j))) := op2_i0 op_le fun _ _ _ => by rw [rp_bl]
theorem o_gt : Op2 X (compareOp .Gt) (gI0 fun i j => .bl (decide (j < i))) := op2_i0 op_gt fun _ _ _ => by rw [rp_bl]
theorem o_ge : Op2 X (compareOp .GtE) (gI0 fun i j => .bl (decide (j ≤ i))) := op2_i0 op_ge fun _ _ _ => by rw [rp_bl]
def gAddI : D → D → Option D := gI0 fun i j => .int (i + j)
def gAddS : D → D → Option D
  | .str x, .str y => if x.length + y.length ≤ sizeLine then some (.str (x ++ y)) else none
  | _, _ => none
def gAddT : D → D → Option D
  | .tup xs, .tup ys => if xs.length + ys.length ≤ sizeLine then some (.tup (xs ++ ys)) else none
  | _, _ => none
def gAddL : D → D → Option D
  | .lst xs, .lst ys => if xs.length + ys.length ≤ sizeLine then some (.lst (xs ++ ys)) else none
  | _, _ => none
theorem o_addI : Op2 X (binaryOp .Add) gAddI := op2_i0 op_add fun _ _ _ => by rw [rp_int]
theorem o_addS : Op2 X (binaryOp .Add) gAddS := by
  intro H F x y d1 d2 d s r1 r2 e
  unfold gAddS at e
  split at e
  · split at e
    · rename_i hz
      cases e
      rw [rq_str] at r1 r2
      exact ⟨_, op_add_str, fun Q q => ⟨_, _, r1, r2, hz, q H F _ Al.refl (by rw [rp_str])⟩⟩
    · cases e
  · cases e
theorem o_addT : Op2 X (binaryOp .Add) gAddT := by
  intro H F x y d1 d2 d s r1 r2 e
  unfold gAddT at e
  split at e
  · split at e
    · rename_i ds es hz
      cases e
      rw [rq_tup] at r1 r2
      obtain ⟨a, xs, rfl, q1, l1⟩ := r1
      obtain ⟨b, ys, rfl, q2, l2⟩ := r2
      have hT : ∀ p, H p = none → Rp X.K X.mg (upd F p (.tup (xs ++ ys))) (.tup (ds ++ es)) (.ref p) := fun p hp => by
        rw [rp_tup]
        exact ⟨p, _, rfl, SqT.of upd_same, RpL.mono (same_upd (s.free hp)) _ _ (l1.append l2)⟩
      refine ⟨_, op_catA, fun Q q => ⟨a, b, xs, ys, rfl, rfl, seqT_mono s q1, seqT_mono s q2, by rw [← l1.len, ← l2.len]; exact hz, fun e0 => ?_, fun _ e0 => ?_, fun _ _ p hp => q _ _ _ (Al.one hp) (hT p hp)⟩⟩
      · subst e0
        have e1 : ds = [] := List.length_eq_zero_iff.mp (by rw [l1.len]; rfl)
        subst e1
        refine q H F _ Al.refl ?_
        rw [rp_tup]
        exact ⟨b, ys, rfl, q2, l2⟩
      · subst e0
        have e1 : es = [] := List.length_eq_zero_iff.mp (by rw [l2.len]; rfl)
        subst e1
        rw [List.append_nil] at q
        refine q H F _ Al.refl ?_
        rw [rp_tup]
        exact ⟨a, xs, rfl, q1, l1⟩
    · cases e
  · cases e
theorem o_addL : Op2 X (binaryOp .Add) gAddL := by
  intro H F x y d1 d2 d s r1 r2 e
  unfold gAddL at e
  split at e
  · split at e
    · rename_i ds es hz
      cases e
      obtain ⟨a, xs, rfl, q1, l1⟩ := r1
      obtain ⟨b, ys, rfl, q2, l2⟩ := r2
      refine ⟨_, op_cat, fun Q q => ⟨a, b, xs, ys, rfl, rfl, q1, q2, by rw [← l1.len, ← l2.len]; exact hz, fun p hp => q _ _ _ (Al.one hp) ?_⟩⟩
      rw [rp_lst]
      exact ⟨p, _, rfl, upd_same, RpL.mono (same_upd (s.free hp)) _ _ (l1.append l2)⟩
    · cases e
  · cases e
def gAdd : D → D → Option D := fun a b => (gAddI a b).or ((gAddS a b).or ((gAddT a b).or (gAddL a b)))
theorem o_add : Op2 X (binaryOp .Add) gAdd := o_addI.or (o_addS.or (o_addT.or o_addL))
mutual
def toP : D → Option PyData
  | .non => some .none
  | .bl b => some (.bool b)
  | .int i => some (.int i)
  | .str x => some (.str x)
  | .lst ds => (toPL ds).map PyData.list
  | .tup ds => (toPL ds).map PyData.tuple
  | _ => none
def toPL : List D → Option (List PyData)
  | [] => some []
  | d :: ds => (toP d).bind fun p => (toPL ds).map fun ps => p :: ps
end
section
variable {K : PySem.W.Frag} {mg : Str → Option Value} {F H : Hp}
mutual
theorem Rp.dp (s : Same F H) : ∀ (d : D) (v : V) (p : PyData), toP d = some p → Rp K mg F d v → Dp K H v p
  | .non, v, p, e, h => by rw [rp_non] at h; subst h; simp only [toP, Option.some.injEq] at e; subst e; exact .non
  | .bl b, v, p, e, h => by rw [rp_bl] at h; subst h; simp only [toP, Option.some.injEq] at e; subst e; exact .bl b
  | .int i, v, p, e, h => by rw [rp_int] at h; subst h; simp only [toP, Option.some.injEq] at e; subst e; exact .int i
  | .str x, v, p, e, h => by rw [rp_str] at h; subst h; simp only [toP, Option.some.injEq] at e; subst e; exact .str x
  | .lst ds, v, p, e, h => by
    rw [rp_lst] at h
    obtain ⟨a, xs, rfl, q, l⟩ := h
    simp only [toP, Option.map_eq_some_iff] at e
    obtain ⟨ps, e, rfl⟩ := e
    exact .lst (SqL.of (s _ _ q)) (RpL.dp s ds xs ps e l)
  | .tup ds, v, p, e, h => by
    rw [rp_tup] at h
    obtain ⟨a, xs, rfl, q, l⟩ := h
    simp only [toP, Option.map_eq_some_iff] at e
    obtain ⟨ps, e, rfl⟩ := e
    exact .tup (seqT_mono s q) (RpL.dp s ds xs ps e l)
  | .byt _, v, p, e, h => by simp [toP] at e
  | .dk _, v, p, e, h => by simp [toP] at e
  | .dt _, v, p, e, h => by simp [toP] at e
  | .obj _ _, v, p, e, h => by simp [toP] at e
  | .scr _, v, p, e, h => by simp [toP] at e
theorem RpL.dp (s : Same F H) : ∀ (ds : List D) (xs : List V) (ps : List PyData), toPL ds = some ps → RpL K mg F ds xs → DpAll K H xs ps
  | [], xs, ps, e, h => by rw [rl_nil] at h; subst h; simp only [toPL, Option.some.injEq] at e; subst e; exact .nil
  | d :: ds, xs, ps, e, h => by
    rw [rl_cons] at h
    obtain ⟨v, vs, rfl, r, l⟩ := h
    simp only [toPL, Option.bind_eq_some_iff, Option.map_eq_some_iff] at e
    obtain ⟨p, e1, qs, e2, rfl⟩ := e
    exact .cons (Rp.dp s d v p e1 r) (RpL.dp s ds vs qs e2 l)
end
theorem Rq.dp (s : Same F H) {d : D} {v : V} {p : PyData} (e : toP d = some p) (h : Rq K mg H F d v) : Dp K H v p := by
  cases d with
  | lst ds =>
    obtain ⟨a, xs, rfl, q, l⟩ := h
    simp only [toP, Option.map_eq_some_iff] at e
    obtain ⟨ps, e, rfl⟩ := e
    exact .lst (SqL.of q) (RpL.dp s ds xs ps e l)
  | dk ds => simp [toP] at e
  | dt ds => simp [toP] at e
  | obj c fs => simp [toP] at e
  | _ => exact Rp.dp (mg := mg) s _ _ _ e h
end
def eqS : D → D → Option Bool
  | .int i, .int j => some (decide (i = j))
  | .str i, .str j => some (decide (i = j))
  | .bl i, .bl j => some (decide (i = j))
  | .non, .non => some true
  | .byt i, .byt j => some (decide (i = j))
  | _, _ => none
def eqDeep (a b : D) : Option Bool := match toP a, toP b with
  | some p, some q => if (SeqAt.shaped p && SeqAt.shaped q) = true then some (PyData.eqv p q) else none
  | _, _ => none
def dEq (a b : D) : Option Bool := (eqS a b).or (eqDeep a b)
def gEq (a b : D) : Option D := (dEq a b).map D.bl
def gNe (a b : D) : Option D := (dEq a b).map fun k => D.bl (!k)
theorem eqS_ok {K : PySem.W.Frag} {mg : Str → Option Value} {F H : Hp} {d1 d2 : D} {x y : V} {k : Bool} (r1 : Rq K mg H F d1 x) (r2 : Rq K mg H F d2 y) (e : eqS d1 d2 = some k) : scal x y = true ∧ decide (x = y) = k := by
  unfold eqS at e
  split at e
  · rw [rq_int] at r1 r2; subst r1 r2; cases e; exact ⟨rfl, by simp⟩
  · rw [rq_str] at r1 r2; subst r1 r2; cases e; exact ⟨rfl, by simp⟩
  · rw [rq_bl] at r1 r2; subst r1 r2; cases e; exact ⟨rfl, by simp⟩
  · rw [rq_non] at r1 r2; subst r1 r2; cases e; exact ⟨rfl, by simp⟩
  · rw [rq_byt] at r1 r2; subst r1 r2; cases e; exact ⟨rfl, by simp⟩
  · cases e
theorem eqDeep_ok {K : PySem.W.Frag} {mg : Str → Option Value} {F H : Hp} (s : Same F H) {d1 d2 : D} {x y : V} {k : Bool} (r1 : Rq K mg H F d1 x) (r2 : Rq K mg H F d2 y) (e : eqDeep d1 d2 = some k) : ∃ p q, Dp K H x p ∧ Dp K H y q ∧ SeqAt.shaped p = true ∧ SeqAt.shaped q = true ∧ PyData.eqv p q = k := by
  unfold eqDeep at e
  split at e
  · rename_i p q e1 e2
    split at e
    · rename_i hs
      rw [Bool.and_eq_true] at hs
      exact ⟨p, q, Rq.dp s e1 r1, Rq.dp s e2 r2, hs.1, hs.2, by cases e; rfl⟩
    · cases e
  · cases e
theorem o_eq (hu : X.A.units + 64 < cLine) : Op2 X (compareOp .Eq) gEq := by
  intro H F x y d1 d2 d s r1 r2 e
  simp only [gEq, Option.map_eq_some_iff] at e
  obtain ⟨k, e, rfl⟩ := e
  unfold dEq at e
  cases q : eqS d1 d2 with
  | some k' =>
    rw [q, Option.some_or] at e; cases e
    obtain ⟨h1, h2⟩ := eqS_ok r1 r2 q
    exact ⟨_, op_eq, fun Q q => ⟨h1, by rw [h2]; exact q H F _ Al.refl (by rw [rp_bl])⟩⟩
  | none =>
    rw [q, Option.none_or] at e
    obtain ⟨p, q, h1, h2, h3, h4, h5⟩ := eqDeep_ok s r1 r2 e
    exact ⟨_, op_eqD hu, fun Q qq => ⟨p, q, h1, h2, h3, h4, by rw [h5]; exact qq H F _ Al.refl (by rw [rp_bl])⟩⟩
theorem o_ne (hu : X.A.units + 64 < cLine) : Op2 X (compareOp .NotEq) gNe := by
  intro H F x y d1 d2 d s r1 r2 e
  simp only [gNe, Option.map_eq_some_iff] at e
  obtain ⟨k, e, rfl⟩ := e
  unfold dEq at e
  cases q : eqS d1 d2 with
  | some k' =>
    rw [q, Option.some_or] at e; cases e
    obtain ⟨h1, h2⟩ := eqS_ok r1 r2 q
    exact ⟨_, op_ne, fun Q q => ⟨h1, by rw [h2]; exact q H F _ Al.refl (by rw [rp_bl])⟩⟩
  | none =>
    rw [q, Option.none_or] at e
    obtain ⟨p, q, h1, h2, h3, h4, h5⟩ := eqDeep_ok s r1 r2 e
    exact ⟨_, op_neD hu, fun Q qq => ⟨p, q, h1, h2, h3, h4, by rw [h5]; exact qq H F _ Al.refl (by rw [rp_bl])⟩⟩
def dInts : List D → Option (List Int)
  | [] => some []
  | .int i :: ds => (dInts ds).map fun ns => i :: ns
  | _ => none
theorem dInts_eq : ∀ {ds : List D} {ns : List Int}, dInts ds = some ns → ds = ns.map D.int
  | [], ns, h => by simp only [dInts, Option.some.injEq] at h; subst h; rfl
  | .int i :: ds, ns, h => by
    simp only [dInts, Option.map_eq_some_iff] at h
    obtain ⟨ms, h, rfl⟩ := h
    rw [dInts_eq h]; rfl
  | .non :: _, _, h => by simp [dInts] at h
  | .bl _ :: _, _, h => by simp [dInts] at h
  | .str _ :: _, _, h => by simp [dInts] at h
  | .byt _ :: _, _, h => by simp [dInts] at h
  | .lst _ :: _, _, h => by simp [dInts] at h
  | .tup _ :: _, _, h => by simp [dInts] at h
  | .dk _ :: _, _, h => by simp [dInts] at h
  | .dt _ :: _, _, h => by simp [dInts] at h
  | .obj _ _ :: _, _, h => by simp [dInts] at h
  | .scr _ :: _, _, h => by simp [dInts] at h
def gLtT : D → D → Option D
  | .tup xs, .tup ys => match dInts xs, dInts ys with
    | some ns, some ms => some (.bl (HT.lexLt ns ms))
    | _, _ => none
  | _, _ => none
theorem o_ltT (hu : X.A.units < cLine) : Op2 X (compareOp .Lt) gLtT := by
  intro H F x y d1 d2 d s r1 r2 e
  unfold gLtT at e
  split at e
  · split at e
    · rename_i xs ys ns ms e1 e2
      cases e
      rw [rq_tup] at r1 r2
      obtain ⟨a, xs, rfl, q1, l1⟩ := r1
      obtain ⟨b, ys, rfl, q2, l2⟩ := r2
      rw [dInts_eq e1] at l1
      rw [dInts_eq e2] at l2
      have l1 := l1.ints
      have l2 := l2.ints
      subst l1 l2
      exact ⟨_, op_ltT hu, fun Q q => ⟨a, b, ns, ms, rfl, rfl, seqT_mono s q1, seqT_mono s q2, q H F _ Al.refl (by rw [rp_bl])⟩⟩
    · cases e
  · cases e
def isNon : D → Bool
  | .non => true
  | _ => false
theorem isNon_ok {K : PySem.W.Frag} {mg : Str → Option Value} {F : Hp} {d : D} {v : V} (h : Rp K mg F d v) : decide (v = .non) = isNon d := by
  cases d <;> unfold Rp at h
  · subst h; rfl
  · subst h; rfl
  · subst h; rfl
  · subst h; rfl
  · subst h; rfl
  · obtain ⟨a, xs, rfl, _⟩ := h; rfl
  · obtain ⟨a, xs, rfl, _⟩ := h; rfl
  · obtain ⟨a, xs, rfl, _⟩ := h; rfl
  · obtain ⟨a, xs, rfl, _⟩ := h; rfl
  · obtain ⟨a, C, dx, xs, rfl, _⟩ := h; rfl
  · obtain ⟨a, rfl, _⟩ := h; rfl
end
section
variable {X : Cx} {T : Pn} {W : WX} {pos : Pos} {a b c : Expr} {ma mb mc : M D}
def mIsN (m : M D) : M D := bnd m fun d => ret (.bl (isNon d))
def mNotN (m : M D) : M D := bnd m fun d => ret (.bl (!isNon d))
theorem jv_isN {j pos'} (ha : JV X T W a ma) : JV X T W (.Compare a [.Is] [.Constant .none j pos'] pos) (mIsN ma) :=
  PEimp (pe_cmp (pc_isN ha)) fun σ H Q ⟨e, F, er, h⟩ => ⟨e, F, er, h.bind.mono fun d e1 H1 F1 er1 mv1 h1 v hv => by
    dsimp only; rw [isNon_ok hv]; exact h1.rfin er1 H1 F1 Al.refl _ (by rw [rp_bl])⟩
theorem jv_notN {j pos'} (ha : JV X T W a ma) : JV X T W (.Compare a [.IsNot] [.Constant .none j pos'] pos) (mNotN ma) :=
  PEimp (pe_cmp (pc_notN ha)) fun σ H Q ⟨e, F, er, h⟩ => ⟨e, F, er, h.bind.mono fun d e1 H1 F1 er1 mv1 h1 v hv => by
    dsimp only; rw [isNon_ok hv]; exact h1.rfin er1 H1 F1 Al.refl _ (by rw [rp_bl])⟩
theorem jt_isN {j pos'} (ha : JV X T W a ma) : JT X T W (.Compare a [.Is] [.Constant .none j pos'] pos) (mT (mIsN ma)) := by
  refine PTimp (pt_cmp (pc_isN ha)) fun σ H Q h => ?_
  obtain ⟨e, F, er, h⟩ := runT h
  exact ⟨e, F, er, h.bind.mono fun d e1 H1 F1 er1 mv1 h1 v hv => by
    dsimp only; rw [isNon_ok hv]; exact h1.rfin er1 H1 F1 Al.refl _ (by rw [rp_bl])⟩
theorem jt_notN {j pos'} (ha : JV X T W a ma) : JT X T W (.Compare a [.IsNot] [.Constant .none j pos'] pos) (mT (mNotN ma)) := by
  refine PTimp (pt_cmp (pc_notN ha)) fun σ H Q h => ?_
  obtain ⟨e, F, er, h⟩ := runT h
  exact ⟨e, F, er, h.bind.mono fun d e1 H1 F1 er1 mv1 h1 v hv => by
    dsimp only; rw [isNon_ok hv]; exact h1.rfin er1 H1 F1 Al.refl _ (by rw [rp_bl])⟩
def m1 (g : D → Option D) (m : M D) : M D := bnd m fun d => opt (g d)
def gNeg : D → Option D
  | .int i => some (.int (-i))
  | _ => none
theorem jv_neg (ha : JV X T W a ma) : JV X T W (.UnaryOp .USub a pos) (m1 gNeg ma) := by
  refine PEimp (pe_un un_neg ha) fun σ H Q ⟨e, F, er, h⟩ => ⟨e, F, er, h.bind.mono fun d e1 H1 F1 er1 mv1 h1 v hv => ?_⟩
  obtain ⟨z, hz, fin⟩ := h1.fin er1
  cases d <;> cases hz
  rw [rp_int] at hv
  exact ⟨_, hv, fin H1 F1 Al.refl _ (by rw [rp_int])⟩
def Cal (X : Cx) (f : Value) (g : List D → Option D) : Prop :=
  ∀ (H F : Hp) (xs : List V) (ds : List D) (d : D), Same F H → RpL X.K X.mg F ds xs → g ds = some d →
    ∃ r, CallR X f r ∧ ∀ Q : VK, (∀ H' F' z, Al H F H' F' → Rp X.K X.mg F' d z → Q z H') → r xs H Q
def Cal1 (X : Cx) (f : Value) (g : D → Option D) : Prop :=
  ∀ (H F : Hp) (x : V) (d d' : D), Same F H → Rq X.K X.mg H F d x → g d = some d' →
    ∃ r, CallR X f r ∧ ∀ Q : VK, (∀ H' F' z, Al H F H' F' → Rp X.K X.mg F' d' z → Q z H') → r [x] H Q
def rAnyC (X : Cx) (f : Value) : List V → Hp → VK → Prop := fun xs H Q => ∃ r, CallR X f r ∧ r xs H Q
theorem callAny {f : Value} : CallR X f (rAnyC X f) := fun pins s σ H xs us Q I rx ⟨r, hr, q⟩ => hr pins s σ H xs us Q I rx q
def mCal (g : List D → Option D) (ms : M (List D)) : M D := bnd ms fun ds => opt (g ds)
def mCal1 (g : D → Option D) (m : M Bv) : M D := bnd m fun b => bnd (der b) fun d => opt (g d)
theorem runCal {f : Value} {g : List D → Option D} {ms : M (List D)} {σ : St} {H : Hp} {Q : VK} (hc : Cal X f g) (h : TV X.K X.mg T W (mCal g ms) σ H Q) : TAs X.K X.mg T W ms σ H fun vs H1 => rAnyC X f vs H1 Q := by
  obtain ⟨e, F, er, h⟩ := h
  refine ⟨e, F, er, h.bind.mono fun ds e1 H1 F1 er1 mv1 h1 vs hvs => ?_⟩
  obtain ⟨z, hz, fin⟩ := h1.fin er1
  obtain ⟨r, hr, q⟩ := hc H1 F1 vs ds z er1.sub hvs hz
  exact ⟨r, hr, q Q fun H' F' z al hz => fin H' F' al z hz⟩
theorem runCal1 {f : Value} {g : D → Option D} {m : M Bv} {σ : St} {H : Hp} {Q : VK} (hc : Cal1 X f g) (h : TV X.K X.mg T W (mCal1 g m) σ H Q) : TBw X.K X.mg T W m σ H fun v H1 => rAnyC X f [v] H1 Q := by
  obtain ⟨e, F, er, h⟩ := h
  refine ⟨e, F, er, h.bind.mono fun b e1 H1 F1 er1 mv1 h1 v hv => ?_⟩
  obtain ⟨d, r1, h3⟩ := der_fin h1.bind er1 hv
  obtain ⟨z, hz, fin⟩ := h3.fin er1
  obtain ⟨r, hr, q⟩ := hc H1 F1 v d z er1.sub r1 hz
  exact ⟨r, hr, q Q fun H' F' z al hz => fin H' F' al z hz⟩
section
variable {x : Str} {p : Pos} {e : Expr} {es : List Expr} {id : String} {ms : M (List D)} {g : List D → Option D} {g1 : D → Option D} {mb1 : M Bv}
theorem jv_callB (hc : Cal X (.builtin id) g) (hg : Gl X x) (hm : X.mg x = none) (hv : bootBuiltins x = some (.builtin id)) (ha : JA X T W (e :: es) ms) (hn : x ≠ "__name__" := by decide) (hdb : (x == ("__debug__" : Str)) = false := by decide)
    (he : starEach (e :: es) X.env = (false, eval e X.env) :: starEach es X.env := by rfl) (hpl : (backTo pos (starEach es X.env)).any (·.1) = false := by rfl) : JV X T W (.Call (.Name x p) (e :: es) [] pos) (mCal g ms) :=
  PEimp (pe_callB callAny hg hm hv ha hn hdb he hpl) fun σ H Q h => runCal hc h
theorem jv_callTy (hc : Cal X (.type id) g) (hg : Gl X x) (hm : X.mg x = none) (hv : bootBuiltins x = some (.type id)) (ha : JA X T W (e :: es) ms) (hn : x ≠ "__name__" := by decide) (hdb : (x == ("__debug__" : Str)) = false := by decide)
    (he : starEach (e :: es) X.env = (false, eval e X.env) :: starEach es X.env := by rfl) (hpl : (backTo pos (starEach es X.env)).any (·.1) = false := by rfl) : JV X T W (.Call (.Name x p) (e :: es) [] pos) (mCal g ms) :=
  PEimp (pe_callTy callAny hg hm hv ha hn hdb he hpl) fun σ H Q h => runCal hc h
theorem jv_callB1 (hc : Cal1 X (.builtin id) g1) (hg : Gl X x) (hm : X.mg x = none) (hv : bootBuiltins x = some (.builtin id)) (ha : JB X T W e mb1) (hn : x ≠ "__name__" := by decide) (hdb : (x == ("__debug__" : Str)) = false := by decide)
    (he : starEach [e] X.env = (false, eval e X.env) :: starEach [] X.env := by rfl) : JV X T W (.Call (.Name x p) [e] [] pos) (mCal1 g1 mb1) :=
  PEimp (pe_callB callAny hg hm hv (pa_cons ha pa_nil he) hn hdb he rfl) fun σ H Q h => runCal1 hc h
theorem jv_callTy1 (hc : Cal1 X (.type id) g1) (hg : Gl X x) (hm : X.mg x = none) (hv : bootBuiltins x = some (.type id)) (ha : JB X T W e mb1) (hn : x ≠ "__name__" := by decide) (hdb : (x == ("__debug__" : Str)) = false := by decide)
    (he : starEach [e] X.env = (false, eval e X.env) :: starEach [] X.env := by rfl) : JV X T W (.Call (.Name x p) [e] [] pos) (mCal1 g1 mb1) :=
  PEimp (pe_callTy callAny hg hm hv (pa_cons ha pa_nil he) hn hdb he rfl) fun σ H Q h => runCal1 hc h
end
def gLen : D → Option D
  | .str y => if y.length ≤ sizeLine then some (.int y.length) else none
  | .byt y => if y.size ≤ sizeLine then some (.int y.size) else none
  | .lst ds => some (.int ds.length)
  | .tup ds => some (.int ds.length)
  | .dk ds => some (.int ds.length)
  | .scr ns => some (.int ns.length)
  | _ => none
theorem RpK.len {K : PySem.W.Frag} {mg : Str → Option Value} {F : Hp} : ∀ {ds : List (Key × D)} {xs : List (Key × V)}, RpK K mg F ds xs → ds.length = xs.length
  | [], xs, h => by unfold RpK at h; subst h; rfl
  | (k, d) :: ds, xs, h => by unfold RpK at h; obtain ⟨v, vs, rfl, _, q⟩ := h; rw [List.length_cons, List.length_cons, q.len]
theorem c_len : Cal1 X (.builtin "len") gLen := by
  intro H F x d d' s r e
  cases d <;> simp only [gLen, reduceCtorEq] at e
  · rw [rq_str] at r; subst r
    split at e
    · rename_i hz; cases e
      exact ⟨_, call_len, fun Q q => ⟨_, _, rfl, ⟨hz, rfl⟩, q H F _ Al.refl (by rw [rp_int])⟩⟩
    · cases e
  · rw [rq_byt] at r; subst r
    split at e
    · rename_i hz; cases e
      exact ⟨_, call_len, fun Q q => ⟨_, _, rfl, ⟨hz, rfl⟩, q H F _ Al.refl (by rw [rp_int])⟩⟩
    · cases e
  · obtain ⟨a, xs, rfl, q, l⟩ := r
    cases e
    exact ⟨_, call_len, fun Q qq => ⟨_, _, rfl, .inl ⟨xs, SqL.of q, rfl⟩, qq H F _ Al.refl (by rw [rp_int, l.len])⟩⟩
  · rw [rq_tup] at r
    obtain ⟨a, xs, rfl, q, l⟩ := r
    cases e
    exact ⟨_, call_len, fun Q qq => ⟨_, _, rfl, .inr ⟨xs, seqT_mono s q, rfl⟩, qq H F _ Al.refl (by rw [rp_int, l.len])⟩⟩
  · obtain ⟨a, xs, rfl, q, l⟩ := r
    cases e
    exact ⟨_, call_lenD, fun Q qq => ⟨a, xs, rfl, q, qq H F _ Al.refl (by rw [rp_int, l.len])⟩⟩
  · rw [rq_scr] at r
    obtain ⟨a, rfl, q⟩ := r
    cases e
    exact ⟨_, call_len, fun Q qq => ⟨_, _, rfl, .inl ⟨_, s.seq q, rfl⟩, qq H F _ Al.refl (by rw [rp_int, List.length_map])⟩⟩
def gInt1 : List D → Option D
  | [.int i] => some (.int i)
  | [.bl k] => some (.int (if k then 1 else 0))
  | _ => none
theorem rl_one {K : PySem.W.Frag} {mg : Str → Option Value} {F : Hp} {d : D} {xs : List V} (h : RpL K mg F [d] xs) : ∃ v, xs = [v] ∧ Rp K mg F d v := by
  rw [rl_cons] at h
  obtain ⟨v, vs, rfl, r, h⟩ := h
  rw [rl_nil] at h; subst h
  exact ⟨v, rfl, r⟩
theorem rl_two {K : PySem.W.Frag} {mg : Str → Option Value} {F : Hp} {d d' : D} {xs : List V} (h : RpL K mg F [d, d'] xs) : ∃ v w, xs = [v, w] ∧ Rp K mg F d v ∧ Rp K mg F d' w := by
  rw [rl_cons] at h
  obtain ⟨v, vs, rfl, r, h⟩ := h
  obtain ⟨w, rfl, r'⟩ := rl_one h
  exact ⟨v, w, rfl, r, r'⟩
theorem c_int : Cal X (.type "int") gInt1 := by
  intro H F xs ds d s r e
  unfold gInt1 at e
  split at e
  · cases e
    obtain ⟨v, rfl, r0⟩ := rl_one r
    rw [rp_int] at r0; subst r0
    exact ⟨_, call_int1, fun Q q => .inl ⟨_, rfl, q H F _ Al.refl (by rw [rp_int])⟩⟩
  · cases e
    obtain ⟨v, rfl, r0⟩ := rl_one r
    rw [rp_bl] at r0; subst r0
    exact ⟨_, call_int1, fun Q q => .inr ⟨_, rfl, q H F _ Al.refl (by rw [rp_int])⟩⟩
  · cases e
def gMax2 : List D → Option D
  | [.int i, .int j] => some (.int (if j > i then j else i))
  | _ => none
def gMin2 : List D → Option D
  | [.int i, .int j] => some (.int (if j < i then j else i))
  | _ => none
def gAbs : List D → Option D
  | [.int i] => some (.int (if i < 0 then -i else i))
  | _ => none
theorem c_max (hc : X.calm = true) : Cal X (.builtin "max") gMax2 := by
  intro H F xs ds d s r e
  unfold gMax2 at e
  split at e
  · cases e
    obtain ⟨v, w, rfl, r0, r'⟩ := rl_two r
    rw [rp_int] at r0 r'; subst r0 r'
    exact ⟨_, call_max2 hc, fun Q q => ⟨_, _, rfl, q H F _ Al.refl (by rw [rp_int])⟩⟩
  · cases e
theorem c_min (hc : X.calm = true) : Cal X (.builtin "min") gMin2 := by
  intro H F xs ds d s r e
  unfold gMin2 at e
  split at e
  · cases e
    obtain ⟨v, w, rfl, r0, r'⟩ := rl_two r
    rw [rp_int] at r0 r'; subst r0 r'
    exact ⟨_, call_min2 hc, fun Q q => ⟨_, _, rfl, q H F _ Al.refl (by rw [rp_int])⟩⟩
  · cases e
theorem c_abs : Cal X (.builtin "abs") gAbs := by
  intro H F xs ds d s r e
  unfold gAbs at e
  split at e
  · cases e
    obtain ⟨v, rfl, r0⟩ := rl_one r
    rw [rp_int] at r0; subst r0
    exact ⟨_, call_abs, fun Q q => ⟨_, rfl, q H F _ Al.refl (by rw [rp_int])⟩⟩
  · cases e
def gIx : D → D → Option D
  | .lst ds, .int i => atI ds i
  | .tup ds, .int i => atI ds i
  | .str z, .int i => if z.length ≤ sizeLine then (atI z.cps.toList i).map fun c => .str ⟨#[c]⟩ else none
  | .scr ns, .int i => (atI ns i).map D.int
  | _, _ => none
theorem RpL.atI {K : PySem.W.Frag} {mg : Str → Option Value} {F : Hp} {ds : List D} {xs : List V} {i : Int} {d : D} (l : RpL K mg F ds xs) (h : L2.atI ds i = some d) : ∃ v, L2.atI xs i = some v ∧ Rp K mg F d v := by
  unfold L2.atI at h ⊢
  rw [← l.len]
  cases q : ixN ds.length i with
  | none => rw [q] at h; cases h
  | some j => rw [q] at h; exact l.get h
theorem atI_map {A B : Type} (f : A → B) (xs : List A) (i : Int) : L2.atI (xs.map f) i = (L2.atI xs i).map f := by
  unfold L2.atI
  rw [List.length_map]
  cases ixN xs.length i with
  | none => rfl
  | some j => simp
theorem ix_data {H F : Hp} {d1 d2 d : D} {x y : V} (s : Same F H) (r1 : Rq X.K X.mg H F d1 x) (r2 : Rq X.K X.mg H F d2 y) (e : gIx d1 d2 = some d) (Q : VK) (q : ∀ z, Rp X.K X.mg F d z → Q z H) : L2.rIx X.K x y H Q := by
  unfold gIx at e
  split at e
  · obtain ⟨a, xs, rfl, h, l⟩ := r1
    rw [rq_int] at r2
    obtain ⟨v, h1, h2⟩ := l.atI e
    exact .inl ⟨a, xs, _, v, rfl, r2, SqL.of h, h1, q v h2⟩
  · rw [rq_tup] at r1
    obtain ⟨a, xs, rfl, h, l⟩ := r1
    rw [rq_int] at r2
    obtain ⟨v, h1, h2⟩ := l.atI e
    exact .inr (.inl ⟨a, xs, _, v, rfl, r2, seqT_mono s h, h1, q v h2⟩)
  · split at e
    · rename_i hz
      rw [Option.map_eq_some_iff] at e
      obtain ⟨c, e, rfl⟩ := e
      rw [rq_str] at r1
      rw [rq_int] at r2
      exact .inr (.inr ⟨_, _, c, r1, r2, hz, e, q _ (by rw [rp_str])⟩)
    · cases e
  · rw [rq_scr] at r1
    obtain ⟨a, rfl, h⟩ := r1
    rw [rq_int] at r2
    rw [Option.map_eq_some_iff] at e
    obtain ⟨n, e, rfl⟩ := e
    exact .inl ⟨a, _, _, .int n, rfl, r2, s.seq h, by rw [atI_map, e]; rfl, q _ (by rw [rp_int])⟩
  · cases e
theorem jv_ixB {m1 : M Bv} (ha : JB X T W a m1) (hb : JV X T W b mb) (hs : PlainIx b := by intro _ _; rfl) : JV X T W (.Subscript a b pos) (m2b gIx m1 mb) := by
  refine PEimp (pe_ix ix_seq ha hb hs) fun σ H Q ⟨e, F, er, h⟩ => ⟨e, F, er, h.bind.mono fun b1 e1 H1 F1 er1 mv1 h1 v hv => ⟨e1, F1, er1, h1.bind.mono fun d2 e2 H2 F2 er2 mv2 h2 w hw => ?_⟩⟩
  obtain ⟨d1, r1, h3⟩ := der_fin h2.bind er2 (hv.mono mv2.sub)
  obtain ⟨d, hd, fin⟩ := h3.fin er2
  exact ix_data er2.sub r1 (Rp.rq er2.sub hw) hd Q fun z hz => fin H2 F2 Al.refl z hz
theorem jv_ix (ha : JV X T W a ma) (hb : JV X T W b mb) (hs : PlainIx b := by intro _ _; rfl) : JV X T W (.Subscript a b pos) (m2 gIx ma mb) := by
  refine PEimp (pe_ix ix_seq ha hb hs) fun σ H Q ⟨e, F, er, h⟩ => ⟨e, F, er, h.bind.mono fun d1 e1 H1 F1 er1 mv1 h1 v hv => ⟨e1, F1, er1, h1.bind.mono fun d2 e2 H2 F2 er2 mv2 h2 w hw => ?_⟩⟩
  obtain ⟨d, hd, fin⟩ := h2.fin er2
  exact ix_data er2.sub (Rp.rq er2.sub (Rp.mono mv2.sub _ _ hv)) (Rp.rq er2.sub hw) hd Q fun z hz => fin H2 F2 Al.refl z hz
end
end Sr
namespace Sr
open PySem PySem.Spec L2
open PyProof.Rows hiding St
inductive Fl where
  | nx
  | rt (d : D)
  | ro (d : D)
  | bk
  | ct
section
variable (K : PySem.W.Frag) (mg : Str → Option Value) (T : Pn) (W : WX)
def RunS (e : En) (F : Hp) (s : M Fl) (σ : St) (H : Hp) (Dn : Ends) : Prop :=
  match s e with
  | .ok .nx e' => ∀ σ' H' F', ER K mg T e' σ' H' F' → Mv e σ H F e' σ' H' F' → Dn.nx σ' H'
  | .ok (.rt d) e' => ∀ σ' H' F' v, ER K mg T e' σ' H' F' → Mv e σ H F e' σ' H' F' → Rp K mg F' d v → Dn.rt v H'
  | .ok (.ro d) e' => ∀ σ' H' F' p, ER K mg T e' σ' H' F' → Mv e σ H F e' σ' H' F' → H p = none → F' p = none → ¬ Ow e' σ' p → OwnAt K mg H' F' p d → Dn.rt (.ref p) H'
  | .ok .bk e' => ∀ σ' H' F', ER K mg T e' σ' H' F' → Mv e σ H F e' σ' H' F' → Dn.bk σ' H'
  | .ok .ct e' => ∀ σ' H' F', ER K mg T e' σ' H' F' → Mv e σ H F e' σ' H' F' → Dn.ct σ' H'
  | .exc x e' => ∀ σ' H' F' cl dd, ER K mg T e' σ' H' F' → Mv e σ H F e' σ' H' F' → XR K mg x cl dd H' F' → W cl dd σ' H'
  | .bad => False
def TSt (s : M Fl) : TS := fun Dn σ H => ∃ e F, ER K mg T e σ H F ∧ RunS K mg T W e F s σ H Dn
end
abbrev JS (X : Cx) (T : Pn) (W : WX) (st : Stmt) (m : M Fl) : Prop := PS X st (TSt X.K X.mg T W m)
abbrev JSs (X : Cx) (T : Pn) (W : WX) (st : List Stmt) (m : M Fl) : Prop := PSs X st (TSt X.K X.mg T W m)
theorem PSimp {X : Cx} {e : Stmt} {t t' : TS} (h : PS X e t) (k : ∀ D σ H, t' D σ H → t D σ H) : PS X e t' := ⟨fun pins s σ H D I q => h.run pins s σ H D I (k D σ H q)⟩
theorem PSsimp {X : Cx} {e : List Stmt} {t t' : TS} (h : PSs X e t) (k : ∀ D σ H, t' D σ H → t D σ H) : PSs X e t' := ⟨fun pins s σ H D I q => h.run pins s σ H D I (k D σ H q)⟩
section
variable {K : PySem.W.Frag} {mg : Str → Option Value} {T : Pn} {W : WX} {e e1 : En} {σ σ1 : St} {H F H1 F1 : Hp} {A : Type}
theorem RunS.after {s s' : M Fl} {Dn : Ends} (h : RunS K mg T W e F s σ H Dn) (hs : s e = s' e1) (mv : Mv e σ H F e1 σ1 H1 F1) : RunS K mg T W e1 F1 s' σ1 H1 Dn := by
  unfold RunS at h ⊢
  rw [hs] at h
  cases q : s' e1 with
  | ok fl e2 =>
    rw [q] at h
    cases fl with
    | nx => exact fun σ' H' F' er mv' => h σ' H' F' er (mv.trans mv')
    | rt d => exact fun σ' H' F' v er mv' => h σ' H' F' v er (mv.trans mv')
    | ro d => exact fun σ' H' F' p er mv' hp => h σ' H' F' p er (mv.trans mv') (mv.there p hp)
    | bk => exact fun σ' H' F' er mv' => h σ' H' F' er (mv.trans mv')
    | ct => exact fun σ' H' F' er mv' => h σ' H' F' er (mv.trans mv')
  | exc x e2 => rw [q] at h; exact fun σ' H' F' cl dd er mv' => h σ' H' F' cl dd er (mv.trans mv')
  | bad => rw [q] at h; exact h
theorem RunS.bind {m : M A} {f : A → M Fl} {Dn : Ends} (h : RunS K mg T W e F (bnd m f) σ H Dn) : RunAt K mg T W e F m σ H fun a e1 H1 F1 => RunS K mg T W e1 F1 (f a) σ H1 Dn := by
  unfold RunAt
  cases q : m e with
  | ok a e1 =>
    intro H1 F1 er1 mv1
    exact h.after (by unfold bnd; rw [q]) mv1
  | exc x e1 =>
    unfold RunS bnd at h
    rw [q] at h
    exact fun H' F' cl dd er mv xr => h σ H' F' cl dd er mv xr
  | bad => unfold RunS bnd at h; rw [q] at h; exact h
end
section
variable {X : Cx} {T : Pn} {W : WX} {pos : Pos} {a b c : Expr} {ma mb mc : M D} {st : Stmt} {rest sa sb : List Stmt} {s u : M Fl}
def skp : M Fl := ret .nx
def sq (s u : M Fl) : M Fl := fun e => match s e with
  | .ok .nx e1 => u e1
  | o => o
theorem js_nil : JSs X T W [] skp := PSsimp pss_nil fun D σ H ⟨e, F, er, h⟩ => h σ H F er Mv.refl
theorem js_cons (h1 : JS X T W st s) (h2 : JSs X T W rest u) : JSs X T W (st :: rest) (sq s u) := by
  refine PSsimp (pss_cons h1 h2) fun D σ H ⟨e, F, er, h⟩ => ⟨e, F, er, ?_⟩
  unfold RunS
  cases q : s e with
  | ok fl e1 =>
    cases fl with
    | nx => exact fun σ' H' F' er' mv => ⟨e1, F', er', h.after (by unfold sq; rw [q]) mv⟩
    | rt d => unfold RunS sq at h; rw [q] at h; exact h
    | ro d => unfold RunS sq at h; rw [q] at h; exact h
    | bk => unfold RunS sq at h; rw [q] at h; exact h
    | ct => unfold RunS sq at h; rw [q] at h; exact h
  | exc x e1 => unfold RunS sq at h; rw [q] at h; exact h
  | bad => unfold RunS sq at h; rw [q] at h; exact h
theorem js_one (h1 : JS X T W st s) : JSs X T W [st] s := pss_one h1
theorem js_pass : JS X T W (.Pass pos) skp := PSimp ps_pass fun D σ H ⟨e, F, er, h⟩ => h σ H F er Mv.refl
theorem js_break : JS X T W (.Break pos) (ret .bk) := PSimp ps_break fun D σ H ⟨e, F, er, h⟩ => h σ H F er Mv.refl
theorem js_continue : JS X T W (.Continue pos) (ret .ct) := PSimp ps_continue fun D σ H ⟨e, F, er, h⟩ => h σ H F er Mv.refl
def sDrop (m : M D) : M Fl := bnd m fun _ => skp
theorem js_expr (ha : JV X T W a ma) (hs : swapsWith a none pos.line X.env = pure false := by rfl) : JS X T W (.Expr a pos) (sDrop ma) :=
  PSimp (ps_expr ha hs) fun D σ H ⟨e, F, er, h⟩ => ⟨e, F, er, h.bind.mono fun d e1 H1 F1 er1 mv1 h1 v hv => h1 σ H1 F1 er1 Mv.refl⟩
def sRet (m : M D) : M Fl := bnd m fun d => ret (.rt d)
def sRetO (m : M D) : M Fl := bnd m fun d => ret (.ro d)
theorem js_ret (ha : JV X T W a ma) : JS X T W (.Return (some a) pos) (sRet ma) :=
  PSimp (ps_ret ha) fun D σ H ⟨e, F, er, h⟩ => ⟨e, F, er, h.bind.mono fun d e1 H1 F1 er1 mv1 h1 v hv => h1 σ H1 F1 v er1 Mv.refl hv⟩
theorem js_retO (ha : JO X T W a ma) : JS X T W (.Return (some a) pos) (sRetO ma) :=
  PSimp (ps_ret ha) fun D σ H ⟨e, F, er, h⟩ => ⟨e, F, er, by
    unfold RunAt
    cases q : ma e with
    | ok d e1 =>
      intro H1 F1 er1 mv1 p hp fp np ow
      unfold RunS sRetO bnd ret at h
      rw [q] at h
      exact h σ H1 F1 p er1 mv1 hp fp np ow
    | exc x e1 => unfold RunS sRetO bnd at h; rw [q] at h; exact fun H' F' cl dd er mv xr => h σ H' F' cl dd er mv xr
    | bad => unfold RunS sRetO bnd at h; rw [q] at h; exact h⟩
theorem js_retN : JS X T W (.Return none pos) (ret (.rt .non)) := PSimp ps_retN fun D σ H ⟨e, F, er, h⟩ => h σ H F .non er Mv.refl (by rw [rp_non])
def sIf (n : M Bool) (s u : M Fl) : M Fl := bnd n fun k => if k = true then s else u
theorem js_if {n : M Bool} (hc : JT X T W c n) (ha : JSs X T W sa s) (hb : JSs X T W sb u) : JS X T W (.If c sa sb pos) (sIf n s u) := by
  refine PSimp (ps_if hc ha hb) fun D σ H ⟨e, F, er, h⟩ => ⟨e, F, er, h.bind.mono fun k e1 H1 F1 er1 mv1 h1 => ?_⟩
  cases k with
  | true => rw [if_pos rfl] at h1 ⊢; exact ⟨e1, F1, er1, h1⟩
  | false => rw [if_neg (by decide)] at h1 ⊢; exact ⟨e1, F1, er1, h1⟩
theorem ER.setV {K : PySem.W.Frag} {mg : Str → Option Value} {e : En} {σ : St} {H F : Hp} {i : Nat} {d : D} {v : V} (er : ER K mg T e σ H F) (hT : NoP T i) (r : Rp K mg F d v) :
    ER K mg T (e.set i (.val d)) (σ.set i (some v)) H F ∧ Mv e σ H F (e.set i (.val d)) (σ.set i (some v)) H F := by
  have ow : ∀ (j : Nat) (x : D), (e.set i (Sl.val d))[j]? = some (.own x) → e[j]? = some (.own x) ∧ j ≠ i := fun j x q => by
    by_cases hj : j = i
    · subst hj
      by_cases hl : j < e.length
      · rw [List.getElem?_set_self hl] at q; cases q
      · rw [List.getElem?_eq_none (by rw [List.length_set]; omega)] at q; cases q
    · rw [List.getElem?_set_ne (Ne.symm hj)] at q; exact ⟨q, hj⟩
  refine ⟨⟨er.sub, fun j x q => ?_, fun j x q => ?_, fun j k p x y q1 q2 q3 q4 => ?_, by rw [List.length_set, List.length_set]; exact er.len, fun p hp => ?_⟩, Same.refl _, fun a o q n => ⟨q, ?_⟩, fun a o q => .inl q, fun a q => q⟩
  · by_cases hj : j = i
    · subst hj
      by_cases hl : j < e.length
      · rw [List.getElem?_set_self hl] at q; cases q
        exact ⟨v, List.getElem?_set_self (by rw [← er.len]; exact hl), r⟩
      · rw [List.getElem?_eq_none (by rw [List.length_set]; omega)] at q; cases q
    · rw [List.getElem?_set_ne (Ne.symm hj)] at q
      obtain ⟨w, h1, h2⟩ := er.val j x q
      exact ⟨w, by rw [List.getElem?_set_ne (Ne.symm hj)]; exact h1, h2⟩
  · obtain ⟨q, hj⟩ := ow j x q
    obtain ⟨p, h1, h2, h3⟩ := er.own j x q
    exact ⟨p, by rw [List.getElem?_set_ne (Ne.symm hj)]; exact h1, h2, h3⟩
  · obtain ⟨q1, hj⟩ := ow j x q1
    obtain ⟨q2, hk⟩ := ow k y q2
    rw [List.getElem?_set_ne (Ne.symm hj)] at q3
    rw [List.getElem?_set_ne (Ne.symm hk)] at q4
    exact er.inj j k p x y q1 q2 q3 q4
  · rw [List.getElem?_set_ne (Ne.symm (hT p hp))]; exact er.pin p hp
  · rintro ⟨j, x, q1, q2⟩
    obtain ⟨q1, hj⟩ := ow j x q1
    rw [List.getElem?_set_ne (Ne.symm hj)] at q2
    exact n ⟨j, x, q1, q2⟩
theorem ER.setO {K : PySem.W.Frag} {mg : Str → Option Value} {e : En} {σ : St} {H F H0 : Hp} {i : Nat} {d : D} {p : Addr} (er : ER K mg T e σ H F) (hT : NoP T i) (fp : F p = none) (np : ¬ Ow e σ p) (ow : OwnAt K mg H F p d) :
    ER K mg T (e.set i (.own d)) (σ.set i (some (.ref p))) H F ∧ ∀ {e0 : En} {σ0 : St} {F0 : Hp}, H0 p = none → Mv e0 σ0 H0 F0 e σ H F → Mv e0 σ0 H0 F0 (e.set i (.own d)) (σ.set i (some (.ref p))) H F := by
  have own : ∀ (j : Nat) (x : D), (e.set i (Sl.own d))[j]? = some (.own x) → (j ≠ i ∧ e[j]? = some (.own x)) ∨ (j = i ∧ x = d ∧ i < e.length) := fun j x q => by
    by_cases hj : j = i
    · subst hj
      by_cases hl : j < e.length
      · rw [List.getElem?_set_self hl] at q; cases q; exact .inr ⟨rfl, rfl, hl⟩
      · rw [List.getElem?_eq_none (by rw [List.length_set]; omega)] at q; cases q
    · rw [List.getElem?_set_ne (Ne.symm hj)] at q; exact .inl ⟨hj, q⟩
  refine ⟨⟨er.sub, fun j x q => ?_, fun j x q => ?_, fun j k p' x y q1 q2 q3 q4 => ?_, by rw [List.length_set, List.length_set]; exact er.len, fun p hp => ?_⟩, fun {e0 σ0 F0} hp mv => ⟨mv.sub, fun a o q n => ?_, mv.new, mv.there⟩⟩
  · have hj : j ≠ i := by
      rintro rfl
      by_cases hl : j < e.length
      · rw [List.getElem?_set_self hl] at q; cases q
      · rw [List.getElem?_eq_none (by rw [List.length_set]; omega)] at q; cases q
    rw [List.getElem?_set_ne (Ne.symm hj)] at q
    obtain ⟨w, h1, h2⟩ := er.val j x q
    exact ⟨w, by rw [List.getElem?_set_ne (Ne.symm hj)]; exact h1, h2⟩
  · rcases own j x q with ⟨hj, q⟩ | ⟨rfl, rfl, hl⟩
    · obtain ⟨p', h1, h2, h3⟩ := er.own j x q
      exact ⟨p', by rw [List.getElem?_set_ne (Ne.symm hj)]; exact h1, h2, h3⟩
    · exact ⟨p, List.getElem?_set_self (by rw [← er.len]; exact hl), fp, ow⟩
  · rcases own j x q1 with ⟨hj, w1⟩ | ⟨hj, _, hl⟩
    · rw [List.getElem?_set_ne (Ne.symm hj)] at q3
      rcases own k y q2 with ⟨hk, w2⟩ | ⟨hk, _, hl⟩
      · rw [List.getElem?_set_ne (Ne.symm hk)] at q4
        exact er.inj j k p' x y w1 w2 q3 q4
      · rw [hk, List.getElem?_set_self (by rw [← er.len]; exact hl)] at q4
        cases q4
        exact (np ⟨j, x, w1, q3⟩).elim
    · rcases own k y q2 with ⟨hk, w2⟩ | ⟨hk, _, hl2⟩
      · rw [List.getElem?_set_ne (Ne.symm hk)] at q4
        rw [hj, List.getElem?_set_self (by rw [← er.len]; exact hl)] at q3
        cases q3
        exact (np ⟨k, y, w2, q4⟩).elim
      · rw [hj, hk]
  · rw [List.getElem?_set_ne (Ne.symm (hT p hp))]; exact er.pin p hp
  · obtain ⟨h1, h2⟩ := mv.keep a o q n
    refine ⟨h1, ?_⟩
    rintro ⟨j, x, q1, q2⟩
    rcases own j x q1 with ⟨hj, q1⟩ | ⟨rfl, rfl, hl⟩
    · rw [List.getElem?_set_ne (Ne.symm hj)] at q2
      exact h2 ⟨j, x, q1, q2⟩
    · rw [List.getElem?_set_self (by rw [← er.len]; exact hl)] at q2
      cases q2
      rw [hp] at q; cases q
def sSet (i : Nat) (m : M D) : M Fl := bnd m fun d e => .ok .nx (e.set i (.val d))
def sSetO (i : Nat) (m : M D) : M Fl := bnd m fun d e => .ok .nx (e.set i (.own d))
theorem run_set {i : Nat} {Dn : Ends} {σ : St} {H : Hp} (hT : NoP T i) (h : TSt X.K X.mg T W (sSet i ma) Dn σ H) : tAsg (TV X.K X.mg T W ma) (gName i) Dn σ H := by
  obtain ⟨e, F, er, h⟩ := h
  refine ⟨e, F, er, h.bind.mono fun d e1 H1 F1 er1 mv1 h1 v hv => ?_⟩
  obtain ⟨er2, mv2⟩ := er1.setV hT hv
  exact h1 _ H1 F1 er2 mv2
theorem run_setO {i : Nat} {Dn : Ends} {σ : St} {H : Hp} (hT : NoP T i) (h : TSt X.K X.mg T W (sSetO i ma) Dn σ H) : tAsg (TO X.K X.mg T W ma) (gName i) Dn σ H := by
  obtain ⟨e, F, er, h⟩ := h
  refine ⟨e, F, er, ?_⟩
  unfold RunAt
  cases q : ma e with
  | ok d e1 =>
    intro H1 F1 er1 mv1 p hp fp np ow
    obtain ⟨er2, mv2⟩ := er1.setO (H0 := H) hT fp np ow
    unfold RunS sSetO bnd at h
    rw [q] at h
    exact h _ H1 F1 er2 (mv2 hp mv1)
  | exc x e1 => unfold RunS sSetO bnd at h; rw [q] at h; exact fun H' F' cl dd er mv xr => h σ H' F' cl dd er mv xr
  | bad => unfold RunS sSetO bnd at h; rw [q] at h; exact h
theorem js_set {i : Nat} {x : Str} {pos' : Pos} (hT : NoP T i) (hN : X.N.Nodup) (hi : X.N[i]? = some x) (hx : Loc X.env.scope x) (ha : JV X T W a ma) (hs : swapsWith a (some (.Name x pos')) pos.line X.env = pure false := by rfl) (hf : X.fn x = true ∨ X.env.scope.names.lookup x = some .local := by first | exact .inl rfl | exact .inr rfl | assumption) :
    JS X T W (.Assign [.Name x pos'] a pos) (sSet i ma) := PSimp (ps_set hN hi hx ha hs hf) fun D σ H h => run_set hT h
theorem js_setO {i : Nat} {x : Str} {pos' : Pos} (hT : NoP T i) (hN : X.N.Nodup) (hi : X.N[i]? = some x) (hx : Loc X.env.scope x) (ha : JO X T W a ma) (hs : swapsWith a (some (.Name x pos')) pos.line X.env = pure false := by rfl) (hf : X.fn x = true ∨ X.env.scope.names.lookup x = some .local := by first | exact .inl rfl | exact .inr rfl | assumption) :
    JS X T W (.Assign [.Name x pos'] a pos) (sSetO i ma) := PSimp (ps_set hN hi hx ha hs hf) fun D σ H h => run_setO hT h
def TG' (K : PySem.W.Frag) (mg : Str → Option Value) (T : Pn) (W : WX) (w : D → M Unit) : TG := fun v σ H Q => ∃ e F d, ER K mg T e σ H F ∧ Rp K mg F d v ∧
  match w d e with
  | .ok _ e' => ∀ σ' H' F', ER K mg T e' σ' H' F' → Mv e σ H F e' σ' H' F' → Q σ' H'
  | _ => False
def TGs' (K : PySem.W.Frag) (mg : Str → Option Value) (T : Pn) (W : WX) (w : List D → M Unit) : TGs := fun vs σ H Q => ∃ e F ds, ER K mg T e σ H F ∧ RpL K mg F ds vs ∧
  match w ds e with
  | .ok _ e' => ∀ σ' H' F', ER K mg T e' σ' H' F' → Mv e σ H F e' σ' H' F' → Q σ' H'
  | _ => False
abbrev JG (X : Cx) (T : Pn) (W : WX) (tg : Expr) (w : D → M Unit) : Prop := PG X tg (TG' X.K X.mg T W w)
abbrev JGs (X : Cx) (T : Pn) (W : WX) (tg : List Expr) (w : List D → M Unit) : Prop := PGs X tg (TGs' X.K X.mg T W w)
def gN (i : Nat) : D → M Unit := fun d e => .ok () (e.set i (.val d))
def gsN : List D → M Unit
  | [] => ret ()
  | _ => fun _ => .bad
def gsC (w : D → M Unit) (ws : List D → M Unit) : List D → M Unit
  | d :: ds => bnd (w d) fun _ => ws ds
  | [] => fun _ => .bad
def gT (n : Nat) (ws : List D → M Unit) : D → M Unit
  | .tup ds => if ds.length = n then ws ds else fun _ => .bad
  | _ => fun _ => .bad
theorem jg_name {i : Nat} {x : Str} (hT : NoP T i) (hN : X.N.Nodup) (hi : X.N[i]? = some x) (hx : Loc X.env.scope x) (hf : X.fn x = true ∨ X.env.scope.names.lookup x = some .local := by first | exact .inl rfl | exact .inr rfl | assumption) : JG X T W (.Name x pos) (gN i) := by
  refine ⟨fun pins s σ H v u Q I r h => (pg_name hN hi hx hf).run pins s σ H v u Q I r ?_⟩
  obtain ⟨e, F, d, er, rd, h⟩ := h
  obtain ⟨er2, mv2⟩ := er.setV hT rd
  exact h _ H F er2 mv2
theorem jgs_nil : JGs X T W [] gsN := by
  refine ⟨fun pins s σ H vs us Q I r h => pgs_nil.run pins s σ H vs us Q I r ?_⟩
  obtain ⟨e, F, ds, er, rd, h⟩ := h
  cases ds with
  | nil => rw [rl_nil] at rd; exact ⟨rd, h σ H F er Mv.refl⟩
  | cons d ds => exact h.elim
theorem jgs_cons {e : Expr} {es : List Expr} {w : D → M Unit} {ws : List D → M Unit} (h1 : JG X T W e w) (h2 : JGs X T W es ws)
    (hs : (assignEach (e :: es) X.env).map (·.2) = assign e X.env :: (assignEach es X.env).map (·.2) := by rfl) : JGs X T W (e :: es) (gsC w ws) := by
  refine ⟨fun pins s σ H vs us Q I r h => (pgs_cons h1 h2 hs).run pins s σ H vs us Q I r ?_⟩
  obtain ⟨e, F, ds, er, rd, h⟩ := h
  cases ds with
  | nil => exact h.elim
  | cons d ds =>
    rw [rl_cons] at rd
    obtain ⟨v, vs, rfl, rd, rl⟩ := rd
    refine ⟨v, vs, rfl, e, F, d, er, rd, ?_⟩
    simp only [gsC, bnd] at h
    cases q : w d e with
    | ok u e1 =>
      rw [q] at h
      dsimp only at h ⊢
      intro σ1 H1 F1 er1 mv1
      refine ⟨e1, F1, ds, er1, RpL.mono mv1.sub _ _ rl, ?_⟩
      cases q2 : ws ds e1 with
      | ok u e2 => rw [q2] at h; exact fun σ' H' F' er' mv' => h σ' H' F' er' (mv1.trans mv')
      | exc x e2 => rw [q2] at h; exact h
      | bad => rw [q2] at h; exact h
    | exc x e1 => rw [q] at h; exact h
    | bad => rw [q] at h; exact h
theorem jg_tup {es : List Expr} {k : Nat} {ws : List D → M Unit} {n : Nat} (hc : X.calm = true) (h : JGs X T W es ws)
    (hn : (assignEach es X.env).length = n := by rfl) (hst : (assignEach es X.env).findIdx? (·.1) = none := by rfl) : JG X T W (.Tuple es k pos) (gT n ws) := by
  refine ⟨fun pins s σ H v u Q I r q => (pg_tup hc h hn hst).run pins s σ H v u Q I r ?_⟩
  obtain ⟨e, F, d, er, rd, q⟩ := q
  unfold gT at q
  split at q
  · rename_i u e' hh
    split at hh
    · rename_i ds
      rw [rp_tup] at rd
      obtain ⟨a, xs, rfl, rd, rl⟩ := rd
      split at hh
      · rename_i hl
        refine ⟨a, xs, rfl, seqT_mono er.sub rd, by rw [← rl.len]; exact hl, e, F, ds, er, rl, ?_⟩
        rw [hh]; exact q
      · cases hh
    · cases hh
  · exact q.elim
def sAsg (m : M D) (w : D → M Unit) : M Fl := bnd m fun d => bnd (w d) fun _ => skp
theorem RunAt.noexc {K : PySem.W.Frag} {mg : Str → Option Value} {e : En} {σ : St} {H F : Hp} {w : M Unit} {Dn : Ends} (h : RunS K mg T W e F (bnd w fun _ => skp) σ H Dn) (hx : ∀ x e', w e ≠ .exc x e') : match w e with
  | .ok _ e' => ∀ σ' H' F', ER K mg T e' σ' H' F' → Mv e σ H F e' σ' H' F' → Dn.nx σ' H'
  | _ => False := by
  unfold RunS bnd at h
  cases q : w e with
  | ok u e' => rw [q] at h; exact h
  | exc x e' => exact (hx x e' q).elim
  | bad => rw [q] at h; exact h
def NoExc (w : D → M Unit) : Prop := ∀ d e x e', w d e ≠ .exc x e'
def NoExcs (w : List D → M Unit) : Prop := ∀ d e x e', w d e ≠ .exc x e'
theorem ne_name {i : Nat} : NoExc (gN i) := fun _ _ _ _ h => by cases h
theorem nes_nil : NoExcs gsN := fun d e x e' h => by cases d <;> cases h
theorem nes_cons {w : D → M Unit} {ws : List D → M Unit} (h1 : NoExc w) (h2 : NoExcs ws) : NoExcs (gsC w ws) := fun d e x e' h => by
  cases d with
  | nil => cases h
  | cons d ds =>
    simp only [gsC, bnd] at h
    cases q : w d e with
    | ok u e1 => rw [q] at h; exact h2 _ _ _ _ h
    | exc x e1 => exact h1 _ _ _ _ q
    | bad => rw [q] at h; cases h
theorem ne_tup {n : Nat} {ws : List D → M Unit} (h2 : NoExcs ws) : NoExc (gT n ws) := fun d e x e' h => by
  unfold gT at h
  split at h
  · split at h
    · exact h2 _ _ _ _ h
    · cases h
  · cases h
theorem js_asg {tg : Expr} {w : D → M Unit} (ha : JV X T W a ma) (hg : JG X T W tg w) (hne : NoExc w) (hs : swapsWithSole [tg] a pos.line X.env = pure false := by rfl) (hw : swappedStores [tg] a X.env = pure none := by rfl)
    (h1 : (assignEach [tg] X.env).map (·.2) = [assign tg X.env] := by rfl) : JS X T W (.Assign [tg] a pos) (sAsg ma w) :=
  PSimp (ps_asg ha hg hs hw h1) fun D σ H ⟨e, F, er, h⟩ => ⟨e, F, er, h.bind.mono fun d e1 H1 F1 er1 mv1 h1 v hv => ⟨e1, F1, d, er1, hv, RunAt.noexc h1 fun x e' => hne d e1 x e'⟩⟩
def sPar (ms : M (List D)) (ws : List D → M Unit) : M Fl := bnd ms fun ds => bnd (ws ds) fun _ => skp
theorem js_par {i j : Nat} {x y : Str} {ms : M (List D)} {px py pt : Pos} {kt k2 pt2} (hT : NoP T i) (hT' : NoP T j) (hc : X.calm = true) (hN : X.N.Nodup) (hi : X.N[i]? = some x) (hj : X.N[j]? = some y) (hij : i ≠ j)
    (hx : X.env.scope.names.lookup x = some .local) (hy : X.env.scope.names.lookup y = some .local) (ha : JA X T W [a, b] ms)
    (hw : swappedStores [.Tuple [.Name x px, .Name y py] kt pt] (.Tuple [a, b] k2 pt2) X.env = pure (some [x, y]) := by rfl)
    (hs : swapsWithSole [.Tuple [.Name x px, .Name y py] kt pt] (.Tuple [a, b] k2 pt2) pos.line X.env = pure false := by rfl) :
    JS X T W (.Assign [.Tuple [.Name x px, .Name y py] kt pt] (.Tuple [a, b] k2 pt2) pos) (sPar ms (gsC (gN i) (gsC (gN j) gsN))) := by
  refine PSimp (ps_par hc hN hi hj hij hx hy ha hw hs) fun D σ H ⟨e, F, er, h⟩ => ⟨e, F, er, h.bind.mono fun ds e1 H1 F1 er1 mv1 h1 vs hvs => ?_⟩
  match ds, hvs with
  | [], _ => exact h1.elim
  | [_], _ => exact h1.elim
  | _ :: _ :: _ :: _, _ => exact h1.elim
  | [d1, d2], hvs =>
    obtain ⟨v, w, rfl, r1, r2⟩ := rl_two hvs
    obtain ⟨er2, mv2⟩ := er1.setV hT r1
    obtain ⟨er3, mv3⟩ := er2.setV hT' r2
    exact ⟨v, w, rfl, h1 _ H1 F1 er3 (mv2.trans mv3)⟩
theorem js_par3 {i j l : Nat} {x y z : Str} {ms : M (List D)} {px py pz pt : Pos} {kt k2 pt2} (hT : NoP T i) (hT' : NoP T j) (hT2 : NoP T l) (hc : X.calm = true) (hN : X.N.Nodup) (hi : X.N[i]? = some x) (hj : X.N[j]? = some y) (hl : X.N[l]? = some z) (hij : i ≠ j) (hil : i ≠ l) (hjl : j ≠ l)
    (hx : X.env.scope.names.lookup x = some .local) (hy : X.env.scope.names.lookup y = some .local) (hz : X.env.scope.names.lookup z = some .local) (ha : JA X T W [a, b, c] ms)
    (hw : swappedStores [.Tuple [.Name x px, .Name y py, .Name z pz] kt pt] (.Tuple [a, b, c] k2 pt2) X.env = pure (some [x, y, z]) := by rfl)
    (hs : swapsWithSole [.Tuple [.Name x px, .Name y py, .Name z pz] kt pt] (.Tuple [a, b, c] k2 pt2) pos.line X.env = pure false := by rfl) :
    JS X T W (.Assign [.Tuple [.Name x px, .Name y py, .Name z pz] kt pt] (.Tuple [a, b, c] k2 pt2) pos) (sPar ms (gsC (gN i) (gsC (gN j) (gsC (gN l) gsN)))) := by
  refine PSimp (ps_par3 hc hN hi hj hl hij hil hjl hx hy hz ha hw hs) fun D σ H ⟨e, F, er, h⟩ => ⟨e, F, er, h.bind.mono fun ds e1 H1 F1 er1 mv1 h1 vs hvs => ?_⟩
  match ds, hvs with
  | [], _ => exact h1.elim
  | [_], _ => exact h1.elim
  | [_, _], _ => exact h1.elim
  | _ :: _ :: _ :: _ :: _, _ => exact h1.elim
  | [d1, d2, d3], hvs =>
    rw [rl_cons] at hvs
    obtain ⟨u, us, rfl, r0, hvs⟩ := hvs
    obtain ⟨v, w, rfl, r1, r2⟩ := rl_two hvs
    obtain ⟨er2, mv2⟩ := er1.setV hT r0
    obtain ⟨er3, mv3⟩ := er2.setV hT' r1
    obtain ⟨er4, mv4⟩ := er3.setV hT2 r2
    exact ⟨u, v, w, rfl, h1 _ H1 F1 er4 ((mv2.trans mv3).trans mv4)⟩
end
end Sr
namespace Sr
open PySem PySem.Spec L2
open PyProof.Rows hiding St
def Walks (K : PySem.W.Frag) (mg : Str → Option Value) (J : It) (ds : List D) (F : Hp) : Prop :=
  ∃ (G : Hp → Prop) (Y : Nat → Hp → V → Hp → Prop), Walk J ds.length G Y ∧ (∀ H, Same F H → G H) ∧
    ∀ i H1 F1 x H2, i < ds.length → Same F F1 → Same F1 H1 → Y i H1 x H2 → ∃ F2 d, Al H1 F1 H2 F2 ∧ ds[i]? = some d ∧ Rp K mg F2 d x
def TIt (K : PySem.W.Frag) (mg : Str → Option Value) (T : Pn) (W : WX) (m : M (List D)) : TI := fun σ H R => ∃ e F, ER K mg T e σ H F ∧ RunAt K mg T W e F m σ H fun ds _ H' F' => ∀ J, Walks K mg J ds F' → R J H'
abbrev JI (X : Cx) (T : Pn) (W : WX) (tg iter : Expr) (m : M (List D)) : Prop := PI X tg iter (TIt X.K X.mg T W m)
theorem PIimp {X : Cx} {tg iter : Expr} {t t' : TI} (h : PI X tg iter t) (k : ∀ σ H R, t' σ H R → t σ H R) : PI X tg iter t' := ⟨fun pins s σ H R I q => h.run pins s σ H R I (k σ H R q)⟩
def lp (b k : M Fl) : M Fl := fun e => match b e with
  | .ok .nx e2 => k e2
  | .ok .ct e2 => k e2
  | .ok .bk e2 => .ok .nx e2
  | o => o
def forL (w : D → M Unit) (b : M Fl) : List D → M Fl
  | [] => skp
  | d :: ds => bnd (w d) fun _ => lp b (forL w b ds)
def sFor (m : M (List D)) (w : D → M Unit) (b : M Fl) : M Fl := bnd m fun ds => forL w b ds
def whl (c : M Bool) (b : M Fl) : Nat → M Fl
  | 0 => fun _ => .bad
  | n + 1 => bnd c fun k => if k = true then lp b (whl c b n) else skp
def wF : Nat := 1000000
def sWhile (c : M Bool) (b : M Fl) : M Fl := whl c b wF
section
variable {X : Cx} {T : Pn} {W : WX} {pos : Pos} {a b c : Expr} {ma mb mc : M D} {body : List Stmt} {s u : M Fl}
theorem RunS.lp {K : PySem.W.Frag} {mg : Str → Option Value} {e : En} {F : Hp} {σ : St} {H : Hp} {Dn : Ends} {b k : M Fl} (h : RunS K mg T W e F (Sr.lp b k) σ H Dn) (N : St → Hp → Prop) (hN : ∀ σ' H' e' F', ER K mg T e' σ' H' F' → RunS K mg T W e' F' k σ' H' Dn → N σ' H') :
    RunS K mg T W e F b σ H { Dn with nx := N, ct := N, bk := Dn.nx } := by
  unfold RunS
  cases q : b e with
  | ok fl e1 =>
    cases fl with
    | nx => exact fun σ' H' F' er mv => hN σ' H' e1 F' er (h.after (by unfold Sr.lp; rw [q]) mv)
    | ct => exact fun σ' H' F' er mv => hN σ' H' e1 F' er (h.after (by unfold Sr.lp; rw [q]) mv)
    | bk => unfold RunS Sr.lp at h; rw [q] at h; exact h
    | rt d => unfold RunS Sr.lp at h; rw [q] at h; exact h
    | ro d => unfold RunS Sr.lp at h; rw [q] at h; exact h
  | exc x e1 => unfold RunS Sr.lp at h; rw [q] at h; exact h
  | bad => unfold RunS Sr.lp at h; rw [q] at h; exact h
theorem js_for {tg iter : Expr} {m : M (List D)} {w : D → M Unit} (hp : PassesOwn (model X.prog X.w) X.A X.env X.xe) (hc : X.calm = true) (hi : JI X T W tg iter m) (hg : JG X T W tg w) (hne : NoExc w) (hb : JSs X T W body s)
    (hs : ∀ x, foldedSetIterable iter X.env x = pure x := by intro _; rfl) : JS X T W (.For tg iter body [] pos) (sFor m w s) := by
  refine PSimp (ps_for hp hc hi hg hb hs) fun Dn σ H ⟨e, F, er, h⟩ => ⟨e, F, er, h.bind.mono fun ds e1 H1 F1 er1 mv1 h1 J wk => ?_⟩
  obtain ⟨G, Y, wlk, hG, hY⟩ := wk
  refine for_it wlk (fun i σ2 H2 => ∃ e2 F2, ER X.K X.mg T e2 σ2 H2 F2 ∧ Same F1 F2 ∧ RunS X.K X.mg T W e2 F2 (forL w s (ds.drop i)) σ2 H2 Dn) ⟨e1, F1, er1, Same.refl _, h1⟩ (fun i σ2 H2 _ ⟨e2, F2, er2, s2, _⟩ => hG H2 (s2.trans er2.sub)) ?_ ?_
  · rintro i x σ2 H2 H3 hi ⟨e2, F2, er2, s2, h2⟩ y
    obtain ⟨F3, d, al, hd, rd⟩ := hY i H2 F2 x H3 hi s2 er2.sub y
    have er3 := er2.al al
    have hdr : ds.drop i = d :: ds.drop (i + 1) := by
      rw [List.drop_eq_getElem_cons hi]
      have : ds[i] = d := by rw [List.getElem?_eq_getElem hi] at hd; exact Option.some.inj hd
      rw [this]
    rw [hdr] at h2
    have h3 := h2.after (s' := forL w s (d :: ds.drop (i + 1))) rfl (Mv.al er2 al)
    refine ⟨e2, F3, d, er3, rd, ?_⟩
    cases q : w d e2 with
    | ok u e3 =>
      intro σ4 H4 F4 er4 mv4
      have h4 := h3.after (s' := Sr.lp s (forL w s (ds.drop (i + 1)))) (by show bnd (w d) _ e2 = _; unfold bnd; rw [q]) mv4
      refine ⟨e3, F4, er4, ?_⟩
      have s4 : Same F1 F4 := (s2.trans (al.same er2.sub).1).trans mv4.sub
      have hh := h4.lp (fun σ' H' => ∃ e5 F5, ER X.K X.mg T e5 σ' H' F5 ∧ RunS X.K X.mg T W e5 F5 (forL w s (ds.drop (i + 1))) σ' H' Dn) fun σ' H' e' F' er' r' => ⟨e', F', er', r'⟩
      unfold RunS at hh ⊢
      cases q2 : s e3 with
      | ok fl e5 =>
        rw [q2] at hh
        cases fl with
        | nx => exact fun σ' H' F' er' mv' => ⟨e5, F', er', s4.trans mv'.sub, h4.after (by unfold Sr.lp; rw [q2]) mv'⟩
        | ct => exact fun σ' H' F' er' mv' => ⟨e5, F', er', s4.trans mv'.sub, h4.after (by unfold Sr.lp; rw [q2]) mv'⟩
        | bk => exact hh
        | rt d => exact hh
        | ro d => exact hh
      | exc x e5 => rw [q2] at hh; exact hh
      | bad => rw [q2] at hh; exact hh
    | exc x e3 => exact (hne d e2 x e3 q).elim
    | bad =>
      have h4 : RunS X.K X.mg T W e2 F3 (bnd (w d) fun _ => Sr.lp s (forL w s (ds.drop (i + 1)))) σ2 H3 Dn := h3
      unfold RunS bnd at h4; rw [q] at h4; exact h4
  · rintro σ2 H2 ⟨e2, F2, er2, s2, h2⟩
    rw [List.drop_length] at h2
    exact h2 σ2 H2 F2 er2 Mv.refl
theorem js_while {n : M Bool} (hp : PassesOwn (model X.prog X.w) X.A X.env X.xe) (hc : JT X T W c n) (hb : JSs X T W body s) : JS X T W (.While c body [] pos) (sWhile n s) := by
  refine PSimp (ps_while hp hc hb) fun Dn σ H ⟨e, F, er, h⟩ => ?_
  refine ⟨fun m σ2 H2 => ∃ e2 F2, ER X.K X.mg T e2 σ2 H2 F2 ∧ RunS X.K X.mg T W e2 F2 (whl n s m) σ2 H2 Dn, ⟨wF, e, F, er, h⟩, ?_⟩
  rintro m σ2 H2 ⟨e2, F2, er2, h2⟩
  cases m with
  | zero => exact h2.elim
  | succ m =>
    refine ⟨e2, F2, er2, h2.bind.mono fun k e3 H3 F3 er3 mv3 h3 => ?_⟩
    cases k with
    | true =>
      rw [if_pos rfl] at h3 ⊢
      exact ⟨fun σ' H' => ∃ e' F', ER X.K X.mg T e' σ' H' F' ∧ RunS X.K X.mg T W e' F' (whl n s m) σ' H' Dn, fun σ' H' z => ⟨m, Nat.lt_succ_self m, z⟩, e3, F3, er3, h3.lp _ fun σ' H' e' F' er' r' => ⟨e', F', er', r'⟩⟩
    | false =>
      rw [if_neg (by decide)] at h3 ⊢
      exact h3 σ2 H3 F3 er3 Mv.refl
def dItems : D → Option (List D)
  | .lst ds => some ds
  | .tup ds => some ds
  | .str z => some (z.cps.toList.map fun c => .str ⟨#[c]⟩)
  | _ => none
def mItems (m : M D) : M (List D) := bnd m fun d => opt (dItems d)
theorem walks_list {K : PySem.W.Frag} {mg : Str → Option Value} {F : Hp} {a : Addr} {xs : List V} {ds : List D} (h : F a = some (.lst xs)) (l : RpL K mg F ds xs) : Walks K mg (Itl K a) ds F := by
  refine ⟨_, _, by rw [l.len]; exact walk_list (xs := xs), fun H s => SqL.of (s _ _ h), fun i H1 F1 x H2 hi s1 s2 y => ?_⟩
  obtain ⟨rfl, y⟩ := y
  obtain ⟨v, h1, h2⟩ := l.get (List.getElem?_eq_getElem hi)
  rw [h1] at y; cases y
  exact ⟨F1, ds[i], Al.refl, List.getElem?_eq_getElem hi, Rp.mono s1 _ _ h2⟩
theorem walks_tup {K : PySem.W.Frag} {mg : Str → Option Value} {F : Hp} {a : Addr} {xs : List V} {ds : List D} (h : SqT K F a xs) (l : RpL K mg F ds xs) : Walks K mg (Itt K a) ds F := by
  refine ⟨_, _, by rw [l.len]; exact walk_tup (xs := xs), fun H s => seqT_mono s h, fun i H1 F1 x H2 hi s1 s2 y => ?_⟩
  obtain ⟨rfl, y⟩ := y
  obtain ⟨v, h1, h2⟩ := l.get (List.getElem?_eq_getElem hi)
  rw [h1] at y; cases y
  exact ⟨F1, ds[i], Al.refl, List.getElem?_eq_getElem hi, Rp.mono s1 _ _ h2⟩
theorem walks_str {K : PySem.W.Frag} {mg : Str → Option Value} {F : Hp} {z : Str} : Walks K mg (Its z) (z.cps.toList.map fun c => .str ⟨#[c]⟩) F := by
  refine ⟨_, _, by rw [List.length_map, Array.length_toList]; exact walk_str (z := z), fun H s => trivial, fun i H1 F1 x H2 hi s1 s2 y => ?_⟩
  obtain ⟨rfl, c, hc, rfl⟩ := y
  refine ⟨F1, .str ⟨#[c]⟩, Al.refl, ?_, by rw [rp_str]⟩
  rw [List.getElem?_map, Array.getElem?_toList, hc]; rfl
theorem RunAt.got {K : PySem.W.Frag} {mg : Str → Option Value} {A : Type} {e e1 : En} {σ : St} {H F : Hp} {m : M A} {x : A} {P : A → En → Hp → Hp → Prop} (h : RunAt K mg T W e F m σ H P) (q : m e = .ok x e1) : RunAt K mg T W e F m σ H fun a e' H' F' => a = x ∧ e' = e1 ∧ P a e' H' F' := by
  unfold RunAt at h ⊢
  rw [q] at h ⊢
  exact fun H' F' er mv => ⟨rfl, rfl, h H' F' er mv⟩
theorem PIor {tg iter : Expr} {t t' : TI} (h : PI X tg iter t) (h' : PI X tg iter t') : PI X tg iter (fun σ H R => t σ H R ∨ t' σ H R) := ⟨fun pins s σ H R I q => q.elim (h.run pins s σ H R I) (h'.run pins s σ H R I)⟩
theorem ji_v {tg : Expr} (ha : JV X T W a ma) : JI X T W tg a (mItems ma) := by
  refine PIimp (PIor (pi_list ha) (PIor (pi_tup ha) (pi_str ha))) fun σ H R ⟨e, F, er, h⟩ => ?_
  cases q : ma e with
  | ok d e1 =>
    cases d with
    | lst ds =>
      refine .inl ⟨e, F, er, (h.bind.got q).mono fun d e1 H1 F1 er1 mv1 h1 v hv => ?_⟩
      obtain ⟨rfl, rfl, h1⟩ := h1
      rw [rp_lst] at hv
      obtain ⟨a, xs, rfl, hv, l⟩ := hv
      exact ⟨a, rfl, ⟨xs, SqL.of (er1.sub _ _ hv)⟩, h1 H1 F1 er1 Mv.refl _ (walks_list hv l)⟩
    | tup ds =>
      refine .inr (.inl ⟨e, F, er, (h.bind.got q).mono fun d e1 H1 F1 er1 mv1 h1 v hv => ?_⟩)
      obtain ⟨rfl, rfl, h1⟩ := h1
      rw [rp_tup] at hv
      obtain ⟨a, xs, rfl, hv, l⟩ := hv
      exact ⟨a, rfl, ⟨xs, seqT_mono er1.sub hv⟩, h1 H1 F1 er1 Mv.refl _ (walks_tup hv l)⟩
    | str z =>
      refine .inr (.inr ⟨e, F, er, (h.bind.got q).mono fun d e1 H1 F1 er1 mv1 h1 v hv => ?_⟩)
      obtain ⟨rfl, rfl, h1⟩ := h1
      rw [rp_str] at hv
      exact ⟨z, hv, h1 H1 F1 er1 Mv.refl _ walks_str⟩
    | _ => unfold RunAt mItems bnd at h; rw [q] at h; exact h.elim
  | exc x e1 =>
    refine .inl ⟨e, F, er, ?_⟩
    unfold RunAt mItems bnd at h; unfold RunAt; rw [q] at h ⊢; exact h
  | bad => unfold RunAt mItems bnd at h; rw [q] at h; exact h.elim
def rngL (lo hi : Int) : List D := (List.range (hi - lo).toNat).map fun (i : Nat) => D.int (lo + i)
def okR (i : Int) : Bool := decide (-(2 ^ 62) ≤ i) && decide (i < 2 ^ 62)
def gRng : List D → Option (List D)
  | [.int n] => if okR n = true then some (rngL 0 n) else none
  | _ => none
def gRng2 : List D → Option (List D)
  | [.int a, .int b] => if (okR a && okR b) = true then some (rngL a b) else none
  | _ => none
def mRng (ms : M (List D)) : M (List D) := bnd ms fun ds => opt (gRng ds)
def mRng2 (ms : M (List D)) : M (List D) := bnd ms fun ds => opt (gRng2 ds)
theorem walks_range {K : PySem.W.Frag} {mg : Str → Option Value} {F : Hp} {lo hi : Int} : Walks K mg (Itr lo (hi - lo).toNat) (rngL lo hi) F := by
  refine ⟨_, _, by unfold rngL; rw [List.length_map, List.length_range]; exact walk_range, fun H s => trivial, fun i H1 F1 x H2 hi s1 s2 y => ?_⟩
  obtain ⟨rfl, rfl⟩ := y
  refine ⟨F1, .int (lo + i), Al.refl, ?_, by rw [rp_int]⟩
  unfold rngL at hi ⊢
  rw [List.length_map, List.length_range] at hi
  rw [List.getElem?_map, List.getElem?_range hi]; rfl
theorem ji_range1 {tg : Expr} {p : Pos} {ms : M (List D)} (hg : Gl X "range") (hm : X.mg "range" = none) (ha : JA X T W [a] ms) (hs : starEach [a] X.env = [(false, eval a X.env)] := by rfl) : JI X T W tg (.Call (.Name "range" p) [a] [] pos) (mRng ms) := by
  refine PIimp (pi_range1 hg hm ha hs) fun σ H R ⟨e, F, er, h⟩ => ⟨e, F, er, h.bind.mono fun ds e1 H1 F1 er1 mv1 h1 vs hvs => ?_⟩
  obtain ⟨z, hz, fin⟩ := h1.fin er1
  unfold gRng at hz
  split at hz
  · rename_i n
    split at hz
    · rename_i ho
      cases hz
      obtain ⟨v, rfl, r⟩ := rl_one hvs
      rw [rp_int] at r; subst r
      unfold okR at ho
      rw [Bool.and_eq_true, decide_eq_true_eq, decide_eq_true_eq] at ho
      refine ⟨n, rfl, ho.1, ho.2, fin H1 F1 Al.refl _ ?_⟩
      have := walks_range (K := X.K) (mg := X.mg) (F := F1) (lo := 0) (hi := n)
      rw [Int.sub_zero] at this
      exact this
    · cases hz
  · cases hz
theorem ji_range2 {tg : Expr} {p : Pos} {ms : M (List D)} (hg : Gl X "range") (hm : X.mg "range" = none) (ha : JA X T W [a, b] ms) (hs : starEach [a, b] X.env = [(false, eval a X.env), (false, eval b X.env)] := by rfl) (hs2 : starEach [b] X.env = [(false, eval b X.env)] := by rfl) : JI X T W tg (.Call (.Name "range" p) [a, b] [] pos) (mRng2 ms) := by
  refine PIimp (pi_range2 hg hm ha hs hs2) fun σ H R ⟨e, F, er, h⟩ => ⟨e, F, er, h.bind.mono fun ds e1 H1 F1 er1 mv1 h1 vs hvs => ?_⟩
  obtain ⟨z, hz, fin⟩ := h1.fin er1
  unfold gRng2 at hz
  split at hz
  · rename_i i j
    split at hz
    · rename_i ho
      cases hz
      obtain ⟨v, w, rfl, r, r'⟩ := rl_two hvs
      rw [rp_int] at r r'; subst r r'
      unfold okR at ho
      simp only [Bool.and_eq_true, decide_eq_true_eq] at ho
      exact ⟨i, j, rfl, ⟨ho.1.1, ho.1.2, ho.2.1, ho.2.2⟩, fin H1 F1 Al.refl _ walks_range⟩
    · cases hz
  · cases hz
theorem ER.put {K : PySem.W.Frag} {mg : Str → Option Value} {e : En} {σ : St} {H F : Hp} {i : Nat} {d d' : D} {p : Addr} {o : HO} (er : ER K mg T e σ H F) (h : e[i]? = some (.own d)) (hp : σ[i]? = some (some (.ref p))) (ow : OwnAt K mg (upd H p o) F p d') :
    ER K mg T (e.set i (.own d')) σ (upd H p o) F ∧ Mv e σ H F (e.set i (.own d')) σ (upd H p o) F := by
  have hi : i < e.length := (List.getElem?_eq_some_iff.mp h).1
  obtain ⟨p', h1, h2, h3⟩ := er.own i d h
  rw [hp] at h1; cases h1
  obtain ⟨o0, ho0⟩ := h3.there
  have own : ∀ (j : Nat) (x : D), (e.set i (Sl.own d'))[j]? = some (.own x) → (j ≠ i ∧ e[j]? = some (.own x)) ∨ (j = i ∧ x = d') := fun j x q => by
    by_cases hj : j = i
    · subst hj
      rw [List.getElem?_set_self hi] at q; cases q; exact .inr ⟨rfl, rfl⟩
    · rw [List.getElem?_set_ne (Ne.symm hj)] at q; exact .inl ⟨hj, q⟩
  have iff : ∀ a, Ow (e.set i (Sl.own d')) σ a → Ow e σ a := fun a ⟨j, x, q1, q2⟩ => by
    rcases own j x q1 with ⟨_, w⟩ | ⟨rfl, _⟩
    · exact ⟨j, x, w, q2⟩
    · exact ⟨j, d, h, q2⟩
  refine ⟨⟨fun b u q => ?_, fun j x q => ?_, fun j x q => ?_, fun j k q x y q1 q2 q3 q4 => ?_, by rw [List.length_set]; exact er.len, er.pin⟩, Same.refl _, fun a u q n => ⟨?_, fun z => n (iff a z)⟩, fun a u q => .inl q, fun a q => ?_⟩
  · rw [upd_ne (ne_of_none q h2)]; exact er.sub b u q
  · have hj : j ≠ i := by rintro rfl; rw [List.getElem?_set_self hi] at q; cases q
    rw [List.getElem?_set_ne (Ne.symm hj)] at q
    exact er.val j x q
  · rcases own j x q with ⟨hj, w⟩ | ⟨rfl, rfl⟩
    · obtain ⟨p', g1, g2, g3⟩ := er.own j x w
      refine ⟨p', g1, g2, g3.keep (Same.refl _) fun o' ho' => ?_⟩
      rw [upd_ne]; exact ho'
      rintro rfl
      exact hj (er.inj j i p' x d w h g1 hp)
    · exact ⟨p, hp, h2, ow⟩
  · rcases own j x q1 with ⟨hj, w1⟩ | ⟨hj, _⟩ <;> rcases own k y q2 with ⟨hk, w2⟩ | ⟨hk, _⟩
    · exact er.inj j k q x y w1 w2 q3 q4
    · rw [hk] at q4 ⊢; exact er.inj j i q x d w1 h q3 q4
    · rw [hj] at q3 ⊢; exact er.inj i k q d y h w2 q3 q4
    · rw [hj, hk]
  · rw [upd_ne]; exact q
    rintro rfl
    exact n ⟨i, d, h, hp⟩
  · by_cases hb : a = p
    · subst hb; rw [upd_same] at q; cases q
    · rw [upd_ne hb] at q; exact q
def chkL (i : Nat) : M Unit := fun e => match e[i]? with
  | some (.own (.lst _)) => .ok () e
  | _ => .bad
def putL (i : Nat) (f : List D → Option (List D)) : M Fl := fun e => match e[i]? with
  | some (.own (.lst ds)) => match f ds with
    | some ds' => .ok .nx (e.set i (.own (.lst ds')))
    | none => .bad
  | _ => .bad
theorem chk_fin {K : PySem.W.Frag} {mg : Str → Option Value} {e : En} {σ : St} {H F : Hp} {i : Nat} {Dn : Ends} {k : M Fl} (h : RunS K mg T W e F (bnd (chkL i) fun _ => k) σ H Dn) (er : ER K mg T e σ H F) : ∃ p xs, σ[i]? = some (some (.ref p)) ∧ H p = some (.lst xs) ∧ RunS K mg T W e F k σ H Dn := by
  cases q : e[i]? with
  | none => unfold RunS bnd chkL at h; rw [q] at h; exact h.elim
  | some sl =>
    cases sl with
    | no => unfold RunS bnd chkL at h; rw [q] at h; exact h.elim
    | val d => unfold RunS bnd chkL at h; rw [q] at h; exact h.elim
    | own d =>
      cases d with
      | lst ds =>
        obtain ⟨p, h1, h2, xs, h3, h4⟩ := er.own i _ q
        exact ⟨p, xs, h1, h3, h.after (by unfold bnd chkL; rw [q]) Mv.refl⟩
      | _ => unfold RunS bnd chkL at h; rw [q] at h; exact h.elim
theorem put_fin {K : PySem.W.Frag} {mg : Str → Option Value} {e : En} {σ : St} {H F : Hp} {i : Nat} {Dn : Ends} {f : List D → Option (List D)} (h : RunS K mg T W e F (putL i f) σ H Dn) (er : ER K mg T e σ H F) : ∃ p ds ds' xs, σ[i]? = some (some (.ref p)) ∧ H p = some (.lst xs) ∧ RpL K mg F ds xs ∧ f ds = some ds' ∧
    ∀ xs', RpL K mg F ds' xs' → Dn.nx σ (upd H p (.lst xs')) := by
  cases q : e[i]? with
  | none => unfold RunS putL at h; rw [q] at h; exact h.elim
  | some sl =>
    cases sl with
    | no => unfold RunS putL at h; rw [q] at h; exact h.elim
    | val d => unfold RunS putL at h; rw [q] at h; exact h.elim
    | own d =>
      cases d with
      | lst ds =>
        obtain ⟨p, h1, h2, xs, h3, h4⟩ := er.own i _ q
        cases qf : f ds with
        | none => unfold RunS putL at h; simp only [q, qf] at h
        | some ds' =>
          refine ⟨p, ds, ds', xs, h1, h3, h4, qf, fun xs' l => ?_⟩
          obtain ⟨er2, mv2⟩ := er.put (o := .lst xs') (d' := .lst ds') q h1 ⟨xs', upd_same, l⟩
          unfold RunS putL at h
          simp only [q, qf] at h
          exact h σ _ F er2 mv2
      | _ => unfold RunS putL at h; rw [q] at h; exact h.elim
def sApp (i : Nat) (m : M D) : M Fl := bnd (chkL i) fun _ => bnd m fun d => putL i fun ds => if ds.length < sizeLine then some (ds ++ [d]) else none
theorem js_append {i : Nat} {x : Str} {pn apos cpos : Pos} (hN : X.N[i]? = some x) (hv : Vis X.env.scope x) (ha : JV X T W a ma)
    (hd : (x == ("__debug__" : Str)) = false := by decide) (hcd : (x == ("__classdict__" : Str)) = false := by decide)
    (hst : swapsWith (.Call (.Attribute (.Name x pn) "append" apos) [a] [] cpos) none pos.line X.env = pure false := by rfl)
    (hbase : attributeBase (.Name x pn) "append" X.env (eval (.Name x pn) X.env) = eval (.Name x pn) X.env := by rfl)
    (hfew : ((backTo cpos (starEach [a] X.env)).all (fun x => !x.1) && (backToKw cpos (keywordEach [] X.env)).all (fun x => x.1.isSome)
      && decide ([a].length + ([] : List Keyword).length + (if ([] : List Keyword).isEmpty then 0 else 1) < 30)) = true := by rfl)
    (hline : (apos.endLine == cpos.line) = true := by rfl) (hs : starEach [a] X.env = (false, eval a X.env) :: starEach [] X.env := by rfl) :
    JS X T W (.Expr (.Call (.Attribute (.Name x pn) "append" apos) [a] [] cpos) pos) (sApp i ma) := by
  refine PSimp (ps_expr (pe_bm PySem.F.plainAttrs_list PySem.F.slot_list_append PySem.F.type_list_append mt_append (pe_var hN hv hd hcd) (pa_cons ha pa_nil hs) hbase hfew hline hs rfl) hst) fun Dn σ H ⟨e, F, er, h⟩ => ?_
  obtain ⟨p, xs, h1, h2, h⟩ := chk_fin h er
  refine ⟨_, h1, .inl ⟨rfl, xs, SqL.of h2⟩, e, F, er, h.bind.mono fun d e1 H1 F1 er1 mv1 h3 v hv => ?_⟩
  obtain ⟨p', ds, ds', ys, g1, g2, g3, g4, g5⟩ := put_fin h3 er1
  rw [h1] at g1; cases g1
  split at g4
  · rename_i hz
    cases g4
    exact ⟨p, ys, v, rfl, rfl, g2, by rw [← g3.len]; exact hz, g5 _ (g3.append (by rw [rl_cons]; exact ⟨v, [], rfl, hv, by rw [rl_nil]⟩))⟩
  · cases g4
def sExt (i : Nat) (m : M D) : M Fl := bnd (chkL i) fun _ => bnd m fun d => putL i fun ds => match d with
  | .lst es => if ds.length + es.length ≤ sizeLine then some (ds ++ es) else none
  | _ => none
theorem js_extend {i : Nat} {x : Str} {pn apos cpos : Pos} (hN : X.N[i]? = some x) (hv : Vis X.env.scope x) (ha : JV X T W a ma)
    (hd : (x == ("__debug__" : Str)) = false := by decide) (hcd : (x == ("__classdict__" : Str)) = false := by decide)
    (hst : swapsWith (.Call (.Attribute (.Name x pn) "extend" apos) [a] [] cpos) none pos.line X.env = pure false := by rfl)
    (hbase : attributeBase (.Name x pn) "extend" X.env (eval (.Name x pn) X.env) = eval (.Name x pn) X.env := by rfl)
    (hfew : ((backTo cpos (starEach [a] X.env)).all (fun x => !x.1) && (backToKw cpos (keywordEach [] X.env)).all (fun x => x.1.isSome)
      && decide ([a].length + ([] : List Keyword).length + (if ([] : List Keyword).isEmpty then 0 else 1) < 30)) = true := by rfl)
    (hline : (apos.endLine == cpos.line) = true := by rfl) (hs : starEach [a] X.env = (false, eval a X.env) :: starEach [] X.env := by rfl) :
    JS X T W (.Expr (.Call (.Attribute (.Name x pn) "extend" apos) [a] [] cpos) pos) (sExt i ma) := by
  refine PSimp (ps_expr (pe_bm PySem.F.plainAttrs_list PySem.F.slot_list_extend PySem.F.type_list_extend mt_extend (pe_var hN hv hd hcd) (pa_cons ha pa_nil hs) hbase hfew hline hs rfl) hst) fun Dn σ H ⟨e, F, er, h⟩ => ?_
  obtain ⟨p, xs, h1, h2, h⟩ := chk_fin h er
  refine ⟨_, h1, .inl ⟨rfl, xs, SqL.of h2⟩, e, F, er, h.bind.mono fun d e1 H1 F1 er1 mv1 h3 v hv => ?_⟩
  obtain ⟨p', ds, ds', ys, g1, g2, g3, g4, g5⟩ := put_fin h3 er1
  rw [h1] at g1; cases g1
  split at g4
  · split at g4
    · rename_i hz
      cases g4
      rw [rp_lst] at hv
      obtain ⟨b, zs, rfl, hb, hl⟩ := hv
      exact ⟨p, b, ys, zs, rfl, rfl, g2, er1.sub _ _ hb, by rw [← g3.len, ← hl.len]; exact hz, g5 _ (g3.append hl)⟩
    · cases g4
  · cases g4
def sPutI (i : Nat) (mi m : M D) : M Fl := bnd m fun d => bnd (chkL i) fun _ => bnd mi fun k => putL i fun ds => match k with
  | .int j => (ixN ds.length j).map fun n => ds.set n d
  | _ => none
theorem js_putI {i : Nat} {x : Str} {pn ps : Pos} {mi : M D} (hN : X.N[i]? = some x) (hv : Vis X.env.scope x) (ha : JV X T W a ma) (hi : JV X T W b mi)
    (hd : (x == ("__debug__" : Str)) = false := by decide) (hcd : (x == ("__classdict__" : Str)) = false := by decide)
    (hs : swapsWithSole [.Subscript (.Name x pn) b ps] a pos.line X.env = pure false := by rfl) (hw : swappedStores [.Subscript (.Name x pn) b ps] a X.env = pure none := by rfl)
    (h1 : (assignEach [.Subscript (.Name x pn) b ps] X.env).map (·.2) = [assign (.Subscript (.Name x pn) b ps) X.env] := by rfl)
    (hb : ∀ v, assign (.Subscript (.Name x pn) b ps) X.env v = (do
      let ov ← holding [v] (eval (.Name x pn) X.env)
      let iv ← holding [v, ov] (eval b X.env)
      standAt ps
      holding [v, ov, iv] (setItem ov iv v)
      release [v, ov, iv] []) := by intro _; rfl) :
    JS X T W (.Assign [.Subscript (.Name x pn) b ps] a pos) (sPutI i mi ma) := by
  refine PSimp (ps_asg ha (pg_sub (pe_var hN hv hd hcd) hi set_list hb) hs hw h1) fun Dn σ H ⟨e, F, er, h⟩ => ⟨e, F, er, h.bind.mono fun d e1 H1 F1 er1 mv1 h3 v hv => ?_⟩
  obtain ⟨p, xs, g1, g2, h4⟩ := chk_fin h3 er1
  refine ⟨_, g1, e1, F1, er1, h4.bind.mono fun k e2 H2 F2 er2 mv2 h5 w hw => ?_⟩
  obtain ⟨p', ds, ds', ys, g3, g4, g5, g6, g7⟩ := put_fin h5 er2
  rw [g1] at g3; cases g3
  split at g6
  · rename_i j
    rw [Option.map_eq_some_iff] at g6
    obtain ⟨n, g6, rfl⟩ := g6
    rw [rp_int] at hw
    exact ⟨p, ys, j, n, rfl, hw, g4, by rw [← g5.len]; exact g6, g7 _ (RpL.set (Rp.mono mv2.sub _ _ hv) n g5)⟩
  · cases g6
end
end Sr
namespace Sr
open PySem hiding start
open PySem.Spec L2
open PyProof.Rows hiding St
inductive Rs where
  | ok (d o : D)
  | exc (x : Ex) (o : D)
  | bad
abbrev Fnc := D → List D → Rs
structure Fr (p : Option Addr) (H F H' F' : Hp) : Prop where
  sub : Same F F'
  fin : Same F' H'
  keep : ∀ a o, H a = some o → p ≠ some a → H' a = some o
  new : ∀ a o, F' a = some o → F a = some o ∨ H a = none
  there : ∀ a, H' a = none → H a = none
section
variable (K : PySem.W.Frag) (mg : Str → Option Value)
def Res (ro : Bool) (p : Option Addr) (d : D) (H : Hp) (Q : VK) (H' F' : Hp) : Prop :=
  if ro = true then ∀ q, H q = none → F' q = none → OwnAt K mg H' F' q d → Q (.ref q) H' else ∀ v, Rp K mg F' d v → Q v H'
def spF0 (ro : Bool) (n : Nat) (f : Fnc) : Sp := fun vs H Q E => ∃ (ds : List D) (F : Hp), Same F H ∧ RpL K mg F ds vs ∧ ds.length = n ∧
  match f .non ds with
  | .ok d _ => ∀ H' F', Fr none H F H' F' → Res K mg ro none d H Q H' F'
  | .exc x _ => ∀ H' F' cl dd, Fr none H F H' F' → XR K mg x cl dd H' F' → E cl dd H'
  | .bad => False
def spF1 (ro : Bool) (n : Nat) (f : Fnc) : Sp := fun vs H Q E => ∃ (p : Addr) (o : D) (ws : List V) (ds : List D) (F : Hp), vs = .ref p :: ws ∧ Same F H ∧ F p = none ∧ OwnAt K mg H F p o ∧ RpL K mg F ds ws ∧ ds.length + 1 = n ∧
  match f o ds with
  | .ok d o' => ∀ H' F', Fr (some p) H F H' F' → F' p = none → OwnAt K mg H' F' p o' → Res K mg ro (some p) d H Q H' F'
  | .exc x o' => ∀ H' F' cl dd, Fr (some p) H F H' F' → F' p = none → OwnAt K mg H' F' p o' → XR K mg x cl dd H' F' → E cl dd H'
  | .bad => False
end
def st0 (nl : Nat) (ds : List D) : En := ds.map Sl.val ++ List.replicate (nl - ds.length) Sl.no
def st1 (nl : Nat) (o : D) (ds : List D) : En := Sl.own o :: st0 (nl - 1) ds
def fin0 (ro : Bool) : Out Fl → Rs
  | .ok .nx _ => if ro = true then .bad else .ok .non .non
  | .ok (.rt d) _ => if ro = true then .bad else .ok d .non
  | .ok (.ro d) _ => .ok d .non
  | .ok _ _ => .bad
  | .exc x _ => .exc x .non
  | .bad => .bad
def fin1 (ro : Bool) : Out Fl → Rs
  | .ok fl e => match (e[0]? : Option Sl) with
    | some (Sl.own o) => match fl with
      | .nx => if ro = true then .bad else .ok .non o
      | .rt d => if ro = true then .bad else .ok d o
      | .ro d => .ok d o
      | _ => .bad
    | _ => .bad
  | .exc x e => match (e[0]? : Option Sl) with
    | some (Sl.own o) => .exc x o
    | _ => .bad
  | .bad => .bad
def mkF0 (nl : Nat) (ro : Bool) (s : M Fl) : Fnc := fun _ ds => fin0 ro (s (st0 nl ds))
def mkF1 (nl : Nat) (ro : Bool) (s : M Fl) : Fnc := fun o ds => fin1 ro (s (st1 nl o ds))
section
variable {K : PySem.W.Frag} {mg : Str → Option Value}
theorem st0_get {nl : Nat} {ds : List D} {i : Nat} {sl : Sl} (h : (st0 nl ds)[i]? = some sl) : (∃ d, ds[i]? = some d ∧ sl = .val d) ∨ sl = .no := by
  unfold st0 at h
  rw [List.getElem?_append] at h
  split at h
  · rw [List.getElem?_map] at h
    cases q : ds[i]? with
    | none => rw [q] at h; cases h
    | some d => rw [q] at h; cases h; exact .inl ⟨d, rfl, rfl⟩
  · rw [List.getElem?_replicate] at h
    split at h
    · cases h; exact .inr rfl
    · cases h
theorem ER.start0 {N : List Str} {vs : List V} {ds : List D} {H F : Hp} (s : Same F H) (l : RpL K mg F ds vs) (hl : vs.length ≤ N.length) : ER K mg [] (st0 N.length ds) (start N vs) H F := by
  refine ⟨s, fun i d h => ?_, fun i d h => ?_, fun i j p d d' h => ?_, ?_, fun p h => nomatch h⟩
  · rcases st0_get h with ⟨d', h1, h2⟩ | h2
    · cases h2
      obtain ⟨v, h3, h4⟩ := l.get h1
      refine ⟨v, ?_, h4⟩
      unfold start
      rw [List.getElem?_append_left (by rw [List.length_map]; exact (List.getElem?_eq_some_iff.mp h3).1), List.getElem?_map, h3]; rfl
    · cases h2
  · rcases st0_get h with ⟨d', h1, h2⟩ | h2 <;> cases h2
  · rcases st0_get h with ⟨d', h1, h2⟩ | h2 <;> cases h2
  · unfold st0 start
    simp only [List.length_append, List.length_map, List.length_replicate, l.len]
theorem ER.start1 {N : List Str} {ws : List V} {ds : List D} {H F : Hp} {p : Addr} {o : D} (s : Same F H) (fp : F p = none) (ow : OwnAt K mg H F p o) (l : RpL K mg F ds ws) (hl : ws.length + 1 ≤ N.length) : ER K mg [(0, p)] (st1 N.length o ds) (start N (.ref p :: ws)) H F := by
  have own : ∀ (i : Nat) (d : D), (st1 N.length o ds)[i]? = some (.own d) → i = 0 ∧ d = o := fun i d h => by
    unfold st1 at h
    cases i with
    | zero => simp at h; exact ⟨rfl, h.symm⟩
    | succ i =>
      rw [List.getElem?_cons_succ] at h
      rcases st0_get h with ⟨d', h1, h2⟩ | h2 <;> cases h2
  refine ⟨s, fun i d h => ?_, fun i d h => ?_, fun i j q d d' h h' => fun _ _ => by rw [(own i d h).1, (own j d' h').1], ?_, fun q h => ?_⟩
  · unfold st1 at h
    cases i with
    | zero => simp at h
    | succ i =>
      rw [List.getElem?_cons_succ] at h
      rcases st0_get h with ⟨d', h1, h2⟩ | h2
      · cases h2
        obtain ⟨v, h3, h4⟩ := l.get h1
        refine ⟨v, ?_, h4⟩
        unfold start
        rw [List.map_cons, List.cons_append, List.getElem?_cons_succ, List.getElem?_append_left (by rw [List.length_map]; exact (List.getElem?_eq_some_iff.mp h3).1), List.getElem?_map, h3]; rfl
      · cases h2
  · obtain ⟨rfl, rfl⟩ := own i d h
    exact ⟨p, rfl, fp, ow⟩
  · unfold st1 st0 start
    simp only [List.length_append, List.length_map, List.length_replicate, List.length_cons, l.len]
    omega
  · rw [List.mem_singleton] at h; subst h; rfl
theorem no_ow0 {nl : Nat} {ds : List D} {σ : St} {a : Addr} : ¬ Ow (st0 nl ds) σ a := by
  rintro ⟨i, d, h, _⟩
  rcases st0_get h with ⟨d', h1, h2⟩ | h2 <;> cases h2
theorem ow1 {N : List Str} {ds : List D} {o : D} {ws : List V} {p a : Addr} (h : Ow (st1 N.length o ds) (start N (.ref p :: ws)) a) : a = p := by
  obtain ⟨i, d, h, h'⟩ := h
  unfold st1 at h
  cases i with
  | zero =>
    have e : (start N (.ref p :: ws))[0]? = some (some (.ref p)) := rfl
    rw [e] at h'; cases h'; rfl
  | succ i =>
    rw [List.getElem?_cons_succ] at h
    rcases st0_get h with ⟨d', h1, h2⟩ | h2 <;> cases h2
theorem Mv.fr0 {nl : Nat} {ds : List D} {e' : En} {σ σ' : St} {H F H' F' : Hp} (er : ER K mg [] e' σ' H' F') (mv : Mv (st0 nl ds) σ H F e' σ' H' F') : Fr none H F H' F' :=
  ⟨mv.sub, er.sub, fun a o h _ => (mv.keep a o h no_ow0).1, fun a o h => by
    rcases mv.new a o h with h | h | h
    · exact .inl h
    · exact .inr h
    · exact (no_ow0 h).elim, mv.there⟩
theorem Mv.fr1 {N : List Str} {ds : List D} {o o' : D} {ws : List V} {p : Addr} {e' : En} {σ' : St} {H F H' F' : Hp} (er : ER K mg [(0, p)] e' σ' H' F') (h0 : e'[0]? = some (.own o')) (mv : Mv (st1 N.length o ds) (start N (.ref p :: ws)) H F e' σ' H' F') : Fr (some p) H F H' F' ∧ F' p = none ∧ OwnAt K mg H' F' p o' := by
  obtain ⟨p', h1, h2, h3⟩ := er.own 0 o' h0
  rw [er.pin (0, p) List.mem_cons_self] at h1; cases h1
  refine ⟨⟨mv.sub, er.sub, fun a u h n => (mv.keep a u h fun z => n (by rw [ow1 z])).1, fun a u h => ?_, mv.there⟩, h2, h3⟩
  rcases mv.new a u h with g | g | g
  · exact .inl g
  · exact .inr g
  · rw [ow1 g, h2] at h; cases h
end
section
variable {P : Program} {w : World} {K : PySem.W.Frag} {mg : Str → Option Value} {base : Heap} {x qual : Str} {params : Arguments} {body : List Stmt} {scope : Scope} {dvs : List V} {kws : List (Str × V)} {f : Addr} {fd : FuncData}
abbrev WE0 (E : XK) : WX := fun cls d _ H => E cls d H
theorem res_v {ro : Bool} {p : Option Addr} {d : D} {H H' F' : Hp} {Q : VK} {v : V} (hr : ro = false) (h : Res K mg ro p d H Q H' F') (r : Rp K mg F' d v) : Q v H' := by
  subst hr; exact h v r
theorem res_o {d : D} {H F H' F' : Hp} {Q : VK} {q : Addr} {p : Option Addr} {ro : Bool} {C : Hp → Hp → Prop} (h : ∀ H' F', Fr p H F H' F' → C H' F' → Res K mg ro p d H Q H' F') (hC : ∀ F'', Same F' F'' → (∀ o, F'' = upd F' q o → C H' F'')) (c0 : C H' F') (fr : Fr p H F H' F') (hq : H q = none) (fq : F' q = none) (ow : OwnAt K mg H' F' q d) : Q (.ref q) H' := by
  cases ro with
  | true => exact h H' F' fr c0 q hq fq ow
  | false =>
    obtain ⟨o, ho⟩ := ow.there
    have s : Same F' (upd F' q o) := same_upd fq
    refine h H' (upd F' q o) ⟨fr.sub.trans s, fun b u e => ?_, fr.keep, fun b u e => ?_, fr.there⟩ (hC _ s o rfl) _ (ow.rp fq ho)
    · by_cases hb : b = q
      · subst hb; rw [upd_same] at e; cases e; exact ho
      · rw [upd_ne hb] at e; exact fr.fin b u e
    · by_cases hb : b = q
      · subst hb; exact .inr hq
      · rw [upd_ne hb] at e; exact fr.new b u e
structure FnG (P : Program) (w : World) (K : PySem.W.Frag) (mg : Str → Option Value) (base : Heap) (k : Nat) (f : Addr) (fd : FuncData) (ps : List Str) (sp : Sp) : Prop where
  len : ∀ vs H Q E, sp vs H Q E → vs.length = ps.length
  run : ∀ (A : Around) (outer : List Env) (s : Shared) (H : Hp) (args : Args) (us : List Value) (vs : List V) (Q : VK) (E : XK),
    Room k A → A.guards = some [] → Env0 P w K mg base A outer s H → BindsTo s fd args (ps.zip us) → Vals vs us → sp vs H Q E →
    codeAny (model P w) A (.call (.ref f) args) (CR (L2.CX P w) outer P w H s Q E) s
theorem FnG.mono {P : Program} {w : World} {K : PySem.W.Frag} {mg : Str → Option Value} {base : Heap} {j k : Nat} {f : Addr} {fd : FuncData} {ps : List Str} {sp : Sp} (F : FnG P w K mg base j f fd ps sp) (h : j ≤ k) : FnG P w K mg base k f fd ps sp :=
  ⟨F.len, fun A outer s H args us vs Q E hr => F.run A outer s H args us vs Q E (hr.mono h)⟩
theorem fnG_of {N ps : List Str} {k : Nat} {sp : Sp} (G : FunD K x qual params body scope dvs kws f fd) (S : FnScope N ps scope) (len : ∀ vs H Q E, sp vs H Q E → vs.length = ps.length)
    (hbody : ∀ (cdv : Value) (A : Around) (outer : List Env) (s : Shared) (H : Hp) (vs : List V) (Q : VK) (E : XK), Room k (A.deeper (envOfC qual scope s.heap.objs.size f cdv)) → A.guards = some [] → sp vs H Q E →
      ∃ t, PSs (cxOf (L2.CX P w) P w K mg base N qual scope f cdv A outer s H E) body t ∧ t { nx := fun _ H' => Q .non H', rt := Q } (start N vs) H) :
    FnG P w K mg base (k + 1) f fd ps sp := by
  obtain ⟨oc, od, dV, kV, doc, pm, an, cdv, ct, osl, rfl, lk, hcd, _, _⟩ := G.ex
  refine ⟨len, fun A outer s H args us vs Q E hr hgu e0 hb r hsp => ?_⟩
  have KX : K.In s.heap := e0.mod.kin.keeps fun b o q => (e0.bs b o q).1
  have lim : s.heap.NoLimit := e0.mod.nolimit.keeps fun b o q => (e0.bs b o q).1
  refine codeAny_call_function hr.depth (KX _ _ lk) rfl S.co S.gen rfl (PySem.W.codeRec_of KX hcd) (hb _ _ _ _ ?_)
  refine wpAny_newFunctionEnv_cells S.kind (fun ⟨n, v⟩ hy => ?_) fun env he s1 y => ?_
  · rcases S.par n (List.of_mem_zip hy).1 with q | q
    · exact .inl q
    · exact .inr ⟨q, PySem.W.cellsFrom_some _ _ _ (.inl q)⟩
  · subst he
    refine ⟨lim.keeps y.toInCall.keep, codeAny_func ?_⟩
    obtain ⟨t, ht, hq⟩ := hbody cdv A outer s H vs Q E (hr.deeper _) hgu hsp
    have I := inv_start (CX := L2.CX P w) (mg := mg) (E := E) S hr.hd e0 (len _ _ _ _ hsp) r y
    refine wpAny_mono (ht.run [] s1 (start N vs) H _ I hq) (fun fl s' hs => ?_) fun _ _ hs => hs
    match fl, hs with
    | .ret u, ⟨v, σ', H', J, rv, q⟩ => exact ⟨v, H', J.os, J.bare, J.base, J.hok, rv, q⟩
    | .next, ⟨σ', H', J, q⟩ => exact ⟨.non, H', J.os, J.bare, J.base, J.hok, rfl, q⟩
    | .brk, ⟨_, _, _, q⟩ => exact q.elim
    | .cont, ⟨_, _, _, q⟩ => exact q.elim
theorem fn0 {N ps : List Str} {k nl np : Nat} {ro : Bool} {s : M Fl} (hnl : N.length = nl) (hnp : ps.length = np) (G : FunD K x qual params body scope dvs kws f fd) (S : FnScope N ps scope)
    (hb : ∀ (cdv : Value) (A : Around) (outer : List Env) (s0 : Shared) (H : Hp) (E : XK), Room k (A.deeper (envOfC qual scope s0.heap.objs.size f cdv)) → A.guards = some [] → JSs (cxOf (L2.CX P w) P w K mg base N qual scope f cdv A outer s0 H E) [] (WE0 E) body s) :
    FnG P w K mg base (k + 1) f fd ps (spF0 K mg ro np (mkF0 nl ro s)) := by
  subst hnl hnp
  refine fnG_of G S (fun vs H Q E h => ?_) (fun cdv A outer s0 H vs Q E hr hgu h => ?_)
  · obtain ⟨ds, F, _, l, hl, _⟩ := h
    rw [← l.len]; exact hl
  · obtain ⟨ds, F, sub, l, hl, h⟩ := h
    have hN : ps.length ≤ N.length := by have := congrArg List.length S.pre; rw [List.length_take] at this; omega
    refine ⟨_, hb cdv A outer s0 H E hr hgu, st0 N.length ds, F, ER.start0 sub l (by rw [← l.len]; omega), ?_⟩
    unfold RunS
    unfold mkF0 at h
    cases q : s (st0 N.length ds) with
    | ok fl e1 =>
      rw [q] at h
      cases fl with
      | nx =>
        cases ro with
        | true => exact h.elim
        | false => exact fun σ' H' F' er mv => res_v rfl (h H' F' (mv.fr0 er)) (by rw [rp_non])
      | rt d =>
        cases ro with
        | true => exact h.elim
        | false => exact fun σ' H' F' v er mv r => res_v rfl (h H' F' (mv.fr0 er)) r
      | ro d => exact fun σ' H' F' p er mv hp fp np ow => res_o (C := fun _ _ => True) (fun H' F' fr _ => h H' F' fr) (fun _ _ _ _ => trivial) trivial (mv.fr0 er) hp fp ow
      | bk => exact h.elim
      | ct => exact h.elim
    | exc x e1 =>
      rw [q] at h
      intro σ' H' F' cl dd er mv xr
      exact h H' F' cl dd (mv.fr0 er) xr
    | bad => rw [q] at h; exact h.elim
theorem fn1 {N ps : List Str} {k nl np : Nat} {ro : Bool} {s : M Fl} (hnl : N.length = nl) (hnp : ps.length = np) (G : FunD K x qual params body scope dvs kws f fd) (S : FnScope N ps scope)
    (hb : ∀ (cdv : Value) (A : Around) (outer : List Env) (s0 : Shared) (H : Hp) (E : XK) (p : Addr), Room k (A.deeper (envOfC qual scope s0.heap.objs.size f cdv)) → A.guards = some [] → JSs (cxOf (L2.CX P w) P w K mg base N qual scope f cdv A outer s0 H E) [(0, p)] (WE0 E) body s) :
    FnG P w K mg base (k + 1) f fd ps (spF1 K mg ro np (mkF1 nl ro s)) := by
  subst hnl hnp
  refine fnG_of G S (fun vs H Q E h => ?_) (fun cdv A outer s0 H vs Q E hr hgu h => ?_)
  · obtain ⟨p, o, ws, ds, F, rfl, _, _, _, l, hl, _⟩ := h
    rw [List.length_cons, ← l.len]; exact hl
  · obtain ⟨p, o, ws, ds, F, rfl, sub, fp, ow, l, hl, h⟩ := h
    have hN : ps.length ≤ N.length := by have := congrArg List.length S.pre; rw [List.length_take] at this; omega
    refine ⟨_, hb cdv A outer s0 H E p hr hgu, st1 N.length o ds, F, ER.start1 sub fp ow l (by rw [← l.len]; omega), ?_⟩
    unfold RunS
    unfold mkF1 at h
    cases q : s (st1 N.length o ds) with
    | ok fl e1 =>
      rw [q] at h
      unfold fin1 at h
      dsimp only at h
      cases q0 : (e1[0]? : Option Sl) with
      | none => rw [q0] at h; exact h.elim
      | some sl =>
        rw [q0] at h
        cases sl with
        | no => exact h.elim
        | val d => exact h.elim
        | own o' =>
          dsimp only at h
          cases fl with
          | nx =>
            cases ro with
            | true => exact h.elim
            | false =>
              intro σ' H' F' er mv
              obtain ⟨f1, f2, f3⟩ := mv.fr1 er q0
              exact res_v rfl (h H' F' f1 f2 f3) (by rw [rp_non])
          | rt d =>
            cases ro with
            | true => exact h.elim
            | false =>
              intro σ' H' F' v er mv r
              obtain ⟨f1, f2, f3⟩ := mv.fr1 er q0
              exact res_v rfl (h H' F' f1 f2 f3) r
          | ro d =>
            intro σ' H' F' pp er mv hp fp' np ow'
            obtain ⟨f1, f2, f3⟩ := mv.fr1 er q0
            obtain ⟨o1, ho1⟩ := ow.there
            have hpp : p ≠ pp := ne_of_none ho1 hp
            refine res_o (ro := ro) (C := fun H'' F'' => F'' p = none ∧ OwnAt K mg H'' F'' p o') (fun H2 F2 fr c => h H2 F2 fr c.1 c.2) (fun F'' sm o e => ⟨?_, f3.keep sm fun _ z => z⟩) ⟨f2, f3⟩ f1 hp fp' ow'
            rw [e, upd_ne hpp]; exact f2
          | bk => exact h.elim
          | ct => exact h.elim
    | exc x e1 =>
      rw [q] at h
      unfold fin1 at h
      dsimp only at h
      cases q0 : (e1[0]? : Option Sl) with
      | none => rw [q0] at h; exact h.elim
      | some sl =>
        rw [q0] at h
        cases sl with
        | no => exact h.elim
        | val d => exact h.elim
        | own o' =>
          intro σ' H' F' cl dd er mv xr
          obtain ⟨f1, f2, f3⟩ := mv.fr1 er q0
          exact h H' F' cl dd f1 f2 f3 xr
    | bad => rw [q] at h; exact h.elim
end
end Sr
namespace Sr
open PySem hiding start
open PySem.Spec L2
open PyProof.Rows hiding St
section
variable {K : PySem.W.Frag} {mg : Str → Option Value} {T : Pn} {W : WX} {e : En} {σ : St} {H F H' F' : Hp}
theorem ER.fr (er : ER K mg T e σ H F) (fr : Fr none H F H' F') : ER K mg T e σ H' F' ∧ Mv e σ H F e σ H' F' := by
  have s : Same H H' := fun a o h => fr.keep a o h (fun z => nomatch z)
  refine ⟨⟨fr.fin, fun i d h => ?_, fun i d h => ?_, er.inj, er.len, er.pin⟩, fr.sub, fun a o h n => ⟨s a o h, n⟩, fun a o h => ?_, fr.there⟩
  · obtain ⟨v, h1, h2⟩ := er.val i d h
    exact ⟨v, h1, Rp.mono fr.sub _ _ h2⟩
  · obtain ⟨p, h1, h2, h3⟩ := er.own i d h
    refine ⟨p, h1, ?_, h3.keep fr.sub (s p)⟩
    obtain ⟨o, ho⟩ := h3.there
    cases q : F' p with
    | none => rfl
    | some u =>
      rcases fr.new p u q with z | z
      · rw [h2] at z; cases z
      · rw [ho] at z; cases z
  · rcases fr.new a o h with z | z
    · exact .inl z
    · exact .inr (.inl z)
theorem ER.fr1 {i : Nat} {o o' : D} {p : Addr} (er : ER K mg T e σ H F) (h0 : e[i]? = some (.own o)) (hp : σ[i]? = some (some (.ref p))) (fr : Fr (some p) H F H' F') (fp : F' p = none) (ow : OwnAt K mg H' F' p o') : ER K mg T (e.set i (.own o')) σ H' F' ∧ Mv e σ H F (e.set i (.own o')) σ H' F' := by
  have hi : i < e.length := (List.getElem?_eq_some_iff.mp h0).1
  have own : ∀ (j : Nat) (x : D), (e.set i (Sl.own o'))[j]? = some (.own x) → (j ≠ i ∧ e[j]? = some (.own x)) ∨ (j = i ∧ x = o') := fun j x q => by
    by_cases hj : j = i
    · subst hj
      rw [List.getElem?_set_self hi] at q; cases q; exact .inr ⟨rfl, rfl⟩
    · rw [List.getElem?_set_ne (Ne.symm hj)] at q; exact .inl ⟨hj, q⟩
  have iff : ∀ a, Ow (e.set i (Sl.own o')) σ a → Ow e σ a := fun a ⟨j, x, q1, q2⟩ => by
    rcases own j x q1 with ⟨_, w⟩ | ⟨rfl, _⟩
    · exact ⟨j, x, w, q2⟩
    · exact ⟨j, o, h0, q2⟩
  refine ⟨⟨fr.fin, fun j d h => ?_, fun j d h => ?_, fun j k q x y q1 q2 q3 q4 => ?_, by rw [List.length_set]; exact er.len, er.pin⟩, fr.sub, fun a u h n => ⟨fr.keep a u h fun z => n ?_, fun z => n (iff a z)⟩, fun a u h => ?_, fr.there⟩
  · have hj : j ≠ i := by rintro rfl; rw [List.getElem?_set_self hi] at h; cases h
    rw [List.getElem?_set_ne (Ne.symm hj)] at h
    obtain ⟨v, h1, h2⟩ := er.val j d h
    exact ⟨v, h1, Rp.mono fr.sub _ _ h2⟩
  · rcases own j d h with ⟨hj, w⟩ | ⟨rfl, rfl⟩
    · obtain ⟨q, h1, h2, h3⟩ := er.own j d w
      have hqp : q ≠ p := by
        rintro rfl
        exact hj (er.inj j i q d o w h0 h1 hp)
      obtain ⟨u, hu⟩ := h3.there
      refine ⟨q, h1, ?_, h3.keep fr.sub fun v hv => fr.keep q v hv fun z => hqp (Option.some.inj z).symm⟩
      cases c : F' q with
      | none => rfl
      | some y =>
        rcases fr.new q y c with z | z
        · rw [h2] at z; cases z
        · rw [hu] at z; cases z
    · exact ⟨p, hp, fp, ow⟩
  · rcases own j x q1 with ⟨hj, w1⟩ | ⟨hj, _⟩ <;> rcases own k y q2 with ⟨hk, w2⟩ | ⟨hk, _⟩
    · exact er.inj j k q x y w1 w2 q3 q4
    · rw [hk] at q4 ⊢; exact er.inj j i q x o w1 h0 q3 q4
    · rw [hj] at q3 ⊢; exact er.inj i k q o y h0 w2 q3 q4
    · rw [hj, hk]
  · cases z; exact ⟨i, o, h0, hp⟩
  · rcases fr.new a u h with z | z
    · exact .inl z
    · exact .inr (.inl z)
end
def ap0 (f : Fnc) (ds : List D) : M D := fun e => match f .non ds with
  | .ok d _ => .ok d e
  | .exc x _ => .exc x e
  | .bad => .bad
def ap1 (f : Fnc) (i : Nat) (ds : List D) : M D := fun e => match e[i]? with
  | some (.own o) => match f o ds with
    | .ok d o' => .ok d (e.set i (.own o'))
    | .exc x o' => .exc x (e.set i (.own o'))
    | .bad => .bad
  | _ => .bad
def mC0 (f : Fnc) (dds : List D) (ms : M (List D)) : M D := bnd ms fun ds => ap0 f (ds ++ dds)
def chkO (i : Nat) : M Unit := fun e => match e[i]? with
  | some (.own _) => .ok () e
  | _ => .bad
def mC1 (f : Fnc) (i : Nat) (dds : List D) (ms : M (List D)) : M D := bnd (chkO i) fun _ => bnd ms fun ds => ap1 f i (ds ++ dds)
section
variable {K : PySem.W.Frag} {mg : Str → Option Value} {T : Pn} {W : WX} {e : En} {σ : St} {H F : Hp} {f : Fnc} {ds : List D} {n : Nat}
theorem ap0_v {vs : List V} {Q : VK} (h : RunAt K mg T W e F (ap0 f ds) σ H fun d _ H' F' => ∀ v, Rp K mg F' d v → Q v H') (er : ER K mg T e σ H F) (l : RpL K mg F ds vs) (hn : ds.length = n) : spF0 K mg false n f vs H Q (fun cl dd H' => W cl dd σ H') := by
  refine ⟨ds, F, er.sub, l, hn, ?_⟩
  unfold RunAt ap0 at h
  cases q : f .non ds with
  | ok d o =>
    simp only [q] at h
    intro H' F' fr
    obtain ⟨er', mv⟩ := er.fr fr
    exact h H' F' er' mv
  | exc x o =>
    simp only [q] at h
    intro H' F' cl dd fr xr
    obtain ⟨er', mv⟩ := er.fr fr
    exact h H' F' cl dd er' mv xr
  | bad => simp only [q] at h
theorem ap0_o {vs : List V} {Q : VK} {H0 : Hp} (h : RunAt K mg T W e F (ap0 f ds) σ H fun d e' H' F' => ∀ p, H0 p = none → F' p = none → ¬ Ow e' σ p → OwnAt K mg H' F' p d → Q (.ref p) H') (hH : ∀ p, H p = none → H0 p = none) (er : ER K mg T e σ H F) (l : RpL K mg F ds vs) (hn : ds.length = n) : spF0 K mg true n f vs H Q (fun cl dd H' => W cl dd σ H') := by
  refine ⟨ds, F, er.sub, l, hn, ?_⟩
  unfold RunAt ap0 at h
  cases q : f .non ds with
  | ok d o =>
    simp only [q] at h
    intro H' F' fr p hp fp ow
    obtain ⟨er', mv⟩ := er.fr fr
    exact h H' F' er' mv p (hH p hp) fp (Ow.ne_of_free er hp) ow
  | exc x o =>
    simp only [q] at h
    intro H' F' cl dd fr xr
    obtain ⟨er', mv⟩ := er.fr fr
    exact h H' F' cl dd er' mv xr
  | bad => simp only [q] at h
theorem ap1_v {i : Nat} {p : Addr} {vs : List V} {Q : VK} (h : RunAt K mg T W e F (ap1 f i ds) σ H fun d _ H' F' => ∀ v, Rp K mg F' d v → Q v H') (er : ER K mg T e σ H F) (hp : σ[i]? = some (some (.ref p))) (l : RpL K mg F ds vs) (hn : ds.length + 1 = n) : spF1 K mg false n f (.ref p :: vs) H Q (fun cl dd H' => W cl dd σ H') := by
  unfold RunAt ap1 at h
  cases q0 : e[i]? with
  | none => simp only [q0] at h
  | some sl =>
    cases sl with
    | no => simp only [q0] at h
    | val d => simp only [q0] at h
    | own o =>
      simp only [q0] at h
      obtain ⟨p', h1, h2, h3⟩ := er.own i o q0
      rw [hp] at h1; cases h1
      refine ⟨p, o, vs, ds, F, rfl, er.sub, h2, h3, l, hn, ?_⟩
      cases q : f o ds with
      | ok d o' =>
        simp only [q] at h
        intro H' F' fr fp ow
        obtain ⟨er', mv⟩ := er.fr1 q0 hp fr fp ow
        exact h H' F' er' mv
      | exc x o' =>
        simp only [q] at h
        intro H' F' cl dd fr fp ow xr
        obtain ⟨er', mv⟩ := er.fr1 q0 hp fr fp ow
        exact h H' F' cl dd er' mv xr
      | bad => simp only [q] at h
theorem ap1_o {i : Nat} {p : Addr} {vs : List V} {Q : VK} {H0 : Hp} (h : RunAt K mg T W e F (ap1 f i ds) σ H fun d e' H' F' => ∀ p, H0 p = none → F' p = none → ¬ Ow e' σ p → OwnAt K mg H' F' p d → Q (.ref p) H') (hH : ∀ p, H p = none → H0 p = none) (er : ER K mg T e σ H F) (hp : σ[i]? = some (some (.ref p))) (l : RpL K mg F ds vs) (hn : ds.length + 1 = n) : spF1 K mg true n f (.ref p :: vs) H Q (fun cl dd H' => W cl dd σ H') := by
  unfold RunAt ap1 at h
  cases q0 : e[i]? with
  | none => simp only [q0] at h
  | some sl =>
    cases sl with
    | no => simp only [q0] at h
    | val d => simp only [q0] at h
    | own o =>
      simp only [q0] at h
      obtain ⟨p', h1, h2, h3⟩ := er.own i o q0
      rw [hp] at h1; cases h1
      refine ⟨p, o, vs, ds, F, rfl, er.sub, h2, h3, l, hn, ?_⟩
      cases q : f o ds with
      | ok d o' =>
        simp only [q] at h
        intro H' F' fr fp ow r hr fr' ow'
        obtain ⟨er', mv⟩ := er.fr1 q0 hp fr fp ow
        refine h H' F' er' mv r (hH r hr) fr' ?_ ow'
        rintro ⟨j, x, q1, q2⟩
        refine Ow.ne_of_free er hr ?_
        by_cases hj : j = i
        · subst hj; exact ⟨j, o, q0, q2⟩
        · rw [List.getElem?_set_ne (Ne.symm hj)] at q1; exact ⟨j, x, q1, q2⟩
      | exc x o' =>
        simp only [q] at h
        intro H' F' cl dd fr fp ow xr
        obtain ⟨er', mv⟩ := er.fr1 q0 hp fr fp ow
        exact h H' F' cl dd er' mv xr
      | bad => simp only [q] at h
theorem chkO_fin {A : Type} {i : Nat} {k : M A} {P : A → En → Hp → Hp → Prop} (h : RunAt K mg T W e F (bnd (chkO i) fun _ => k) σ H P) (er : ER K mg T e σ H F) : ∃ p, σ[i]? = some (some (.ref p)) ∧ RunAt K mg T W e F k σ H P := by
  unfold RunAt bnd chkO at h
  cases q : e[i]? with
  | none => simp only [q] at h
  | some sl =>
    cases sl with
    | no => simp only [q] at h
    | val d => simp only [q] at h
    | own d =>
      simp only [q] at h
      obtain ⟨p, h1, h2, h3⟩ := er.own i d q
      exact ⟨p, h1, h⟩
end
theorem len_nil {e e' : En} {ds : List D} (h : mNil e = .ok ds e') : ds.length = 0 := by cases h; rfl
theorem len_cons {n : Nat} {m : M D} {ms : M (List D)} (hh : ∀ (ds : List D) (e e' : En), ms e = .ok ds e' → ds.length = n) (ds : List D) (e e' : En) (h : mCons m ms e = .ok ds e') : ds.length = n + 1 := by
  unfold mCons bnd at h
  cases q : m e with
  | ok d e1 =>
    simp only [q] at h
    cases q2 : ms e1 with
    | ok d2 e2 => simp only [q2, ret] at h; cases h; rw [List.length_cons, hh _ _ _ q2]
    | exc x e2 => simp only [q2] at h; cases h
    | bad => simp only [q2] at h; cases h
  | exc x e1 => simp only [q] at h; cases h
  | bad => simp only [q] at h; cases h
structure JL (X : Cx) (T : Pn) (W : WX) (es : List Expr) (ms : M (List D)) : Prop where
  ja : JA X T W es ms
  ln : ∀ (ds : List D) (e e' : En), ms e = .ok ds e' → ds.length = es.length
theorem jl_nil {X : Cx} {T : Pn} {W : WX} : JL X T W [] mNil := ⟨ja_nil, fun _ _ _ h => len_nil h⟩
theorem jl_cons {X : Cx} {T : Pn} {W : WX} {e : Expr} {es : List Expr} {m : M D} {ms : M (List D)} (ha : JV X T W e m) (hr : JL X T W es ms) (hs : starEach (e :: es) X.env = (false, eval e X.env) :: starEach es X.env := by rfl) : JL X T W (e :: es) (mCons m ms) :=
  ⟨ja_cons ha hr.ja hs, len_cons hr.ln⟩
structure Fn (X : Cx) (k : Nat) (x : Str) (sp : Sp) (ps : List Str) (dvs : List V) : Prop where
  ex : ∃ f fd ds, FnG X.prog X.w X.K X.mg X.base k f fd ps sp ∧ X.mg x = some (.ref f) ∧ PySem.W.keepIn X.K (.ref f) = true ∧ Binds X.K fd ps ds ∧ Vals dvs ds
section
variable {X : Cx} {k : Nat} {f : Addr} {fd : FuncData} {ps : List Str} {sp : Sp} {dvs : List V} {ds : List Value} {W : WX} {x : Str} {p pos : Pos} {e : Expr} {es : List Expr} {t : TA}
theorem run_g {pins : List (Addr × Obj)} {σ : St} {H : Hp} {s : Shared} {Q : VK} {us : List Value} {vs : List V} (F : FnG X.prog X.w X.K X.mg X.base k f fd ps sp) (hr : Room k X.A) (hgu : X.A.guards = some [])
    (hb : Binds X.K fd ps ds) (hd : Vals dvs ds) (tk : Takes X W) (I : Inv X pins σ H s) (r : Vals vs us) (h : sp (vs ++ dvs) H Q (WE W σ)) : wpAny (model X.prog X.w) X.A (call (.ref f) us) (EP X pins σ Q) X.xe s := by
  have r2 : Vals (vs ++ dvs) (us ++ ds) := r.append hd
  have hl : (us ++ ds).length = ps.length := by rw [← r2.length]; exact F.len _ _ _ _ h
  refine wpAny_call (codeAny_mono (F.run X.A X.stack s H _ _ _ Q _ hr hgu I.env0 (hb s us I.kIn hl) r2 h) ?_)
  intro r s' hq
  match r, hq with
  | .error e, hq => exact passAt tk σ pins H s e s' I hq
  | .ok (.ret u), hq => exact I.after hq
  | .ok .next, hq => exact hq.elim
  | .ok .brk, hq => exact hq.elim
  | .ok .cont, hq => exact hq.elim
theorem pe_callG (F : FnG X.prog X.w X.K X.mg X.base k f fd ps sp) (hr : Room k X.A) (hgu : X.A.guards = some []) (hg : Gl X x) (hm : X.mg x = some (.ref f)) (hk : PySem.W.keepIn X.K (.ref f) = true) (hb : Binds X.K fd ps ds) (hd : Vals dvs ds) (tk : Takes X W)
    (ha : PA X (e :: es) t) (hdb : (x == ("__debug__" : Str)) = false := by decide) (he : starEach (e :: es) X.env = (false, eval e X.env) :: starEach es X.env := by rfl) (hpl : (backTo pos (starEach es X.env)).any (·.1) = false := by rfl) :
    PE X (.Call (.Name x p) (e :: es) [] pos) (tCallSD sp dvs (fun σ => WE W σ) t) := by
  refine ⟨fun pins s σ H Q I h => wpAny_Call_Name_kw (ld_glob I hg hm ?_ hdb)⟩
  refine PySem.W.callWith_K (h₀ := X.base) I.ok.mod.kin hk (thn (ha.run pos pins s σ H _ I h) fun us s1 ⟨vs, H1, I1, r, q⟩ => ⟨I1.kIn, ?_⟩) he hpl
  exact run_g F hr hgu hb hd tk I1 r q
end
section
variable {X : Cx} {T : Pn} {W : WX} {pos p : Pos} {a b : Expr} {es : List Expr} {ma mb : M D} {ms : M (List D)} {f : Fnc} {k n : Nat} {x : Str} {ps : List Str} {dvs : List V} {dds : List D}
theorem jv_call0 (G : Fn X k x (spF0 X.K X.mg false n f) ps dvs) (hr : Room k X.A) (hgu : X.A.guards = some []) (tk : Takes X W) (hdd : ∀ F, RpL X.K X.mg F dds dvs) (hg : Gl X x) (ha : JL X T W (a :: es) ms) (hn : (a :: es).length + dds.length = n := by rfl)
    (hdb : (x == ("__debug__" : Str)) = false := by decide) (he : starEach (a :: es) X.env = (false, eval a X.env) :: starEach es X.env := by rfl) (hpl : (backTo pos (starEach es X.env)).any (·.1) = false := by rfl) :
    JV X T W (.Call (.Name x p) (a :: es) [] pos) (mC0 f dds ms) := by
  obtain ⟨fa, fd, ds0, FO, hm, hk, hb, hd⟩ := G.ex
  refine PEimp (pe_callG FO hr hgu hg hm hk hb hd tk ha.ja hdb he hpl) fun σ H Q ⟨e, F, er, h⟩ => ⟨e, F, er, ?_⟩
  have hb2 := h.bind
  unfold RunAt at hb2 ⊢
  cases q : ms e with
  | ok ds e1 =>
    rw [q] at hb2
    intro H1 F1 er1 mv1 vs hvs
    exact ap0_v (hb2 H1 F1 er1 mv1) er1 (hvs.append (hdd F1)) (by rw [List.length_append, ha.ln ds e e1 q]; exact hn)
  | exc x e1 => rw [q] at hb2; exact hb2
  | bad => rw [q] at hb2; exact hb2
theorem jo_call0 (G : Fn X k x (spF0 X.K X.mg true n f) ps dvs) (hr : Room k X.A) (hgu : X.A.guards = some []) (tk : Takes X W) (hdd : ∀ F, RpL X.K X.mg F dds dvs) (hg : Gl X x) (ha : JL X T W (a :: es) ms) (hn : (a :: es).length + dds.length = n := by rfl)
    (hdb : (x == ("__debug__" : Str)) = false := by decide) (he : starEach (a :: es) X.env = (false, eval a X.env) :: starEach es X.env := by rfl) (hpl : (backTo pos (starEach es X.env)).any (·.1) = false := by rfl) :
    JO X T W (.Call (.Name x p) (a :: es) [] pos) (mC0 f dds ms) := by
  obtain ⟨fa, fd, ds0, FO, hm, hk, hb, hd⟩ := G.ex
  refine PEimp (pe_callG FO hr hgu hg hm hk hb hd tk ha.ja hdb he hpl) fun σ H Q ⟨e, F, er, h⟩ => ⟨e, F, er, ?_⟩
  have hb2 := h.bind
  unfold RunAt at hb2 ⊢
  cases q : ms e with
  | ok ds e1 =>
    rw [q] at hb2
    intro H1 F1 er1 mv1 vs hvs
    exact ap0_o (hb2 H1 F1 er1 mv1) mv1.there er1 (hvs.append (hdd F1)) (by rw [List.length_append, ha.ln ds e e1 q]; exact hn)
  | exc x e1 => rw [q] at hb2; exact hb2
  | bad => rw [q] at hb2; exact hb2
theorem jv_call1 {i : Nat} {y : Str} {py : Pos} (G : Fn X k x (spF1 X.K X.mg false n f) ps dvs) (hr : Room k X.A) (hgu : X.A.guards = some []) (tk : Takes X W) (hdd : ∀ F, RpL X.K X.mg F dds dvs) (hg : Gl X x) (hN : X.N[i]? = some y) (hv : Vis X.env.scope y) (ha : JL X T W es ms) (hn : es.length + dds.length + 1 = n := by rfl)
    (hdb : (x == ("__debug__" : Str)) = false := by decide) (he : starEach (.Name y py :: es) X.env = (false, eval (.Name y py) X.env) :: starEach es X.env := by rfl) (hpl : (backTo pos (starEach es X.env)).any (·.1) = false := by rfl)
    (hd2 : (y == ("__debug__" : Str)) = false := by decide) (hcd : (y == ("__classdict__" : Str)) = false := by decide) :
    JV X T W (.Call (.Name x p) (.Name y py :: es) [] pos) (mC1 f i dds ms) := by
  obtain ⟨fa, fd, ds0, FO, hm, hk, hb, hd⟩ := G.ex
  refine PEimp (pe_callG FO hr hgu hg hm hk hb hd tk (pa_cons (pe_var hN hv hd2 hcd) ha.ja he) hdb he hpl) fun σ H Q ⟨e, F, er, h⟩ => ?_
  obtain ⟨p, hp, h⟩ := chkO_fin h er
  refine ⟨_, hp, e, F, er, ?_⟩
  have hb2 := h.bind
  unfold RunAt at hb2 ⊢
  cases q : ms e with
  | ok ds e1 =>
    rw [q] at hb2
    intro H1 F1 er1 mv1 vs hvs
    exact ap1_v (hb2 H1 F1 er1 mv1) er1 hp (hvs.append (hdd F1)) (by rw [List.length_append, ha.ln ds e e1 q]; exact hn)
  | exc x e1 => rw [q] at hb2; exact hb2
  | bad => rw [q] at hb2; exact hb2
theorem jo_call1 {i : Nat} {y : Str} {py : Pos} (G : Fn X k x (spF1 X.K X.mg true n f) ps dvs) (hr : Room k X.A) (hgu : X.A.guards = some []) (tk : Takes X W) (hdd : ∀ F, RpL X.K X.mg F dds dvs) (hg : Gl X x) (hN : X.N[i]? = some y) (hv : Vis X.env.scope y) (ha : JL X T W es ms) (hn : es.length + dds.length + 1 = n := by rfl)
    (hdb : (x == ("__debug__" : Str)) = false := by decide) (he : starEach (.Name y py :: es) X.env = (false, eval (.Name y py) X.env) :: starEach es X.env := by rfl) (hpl : (backTo pos (starEach es X.env)).any (·.1) = false := by rfl)
    (hd2 : (y == ("__debug__" : Str)) = false := by decide) (hcd : (y == ("__classdict__" : Str)) = false := by decide) :
    JO X T W (.Call (.Name x p) (.Name y py :: es) [] pos) (mC1 f i dds ms) := by
  obtain ⟨fa, fd, ds0, FO, hm, hk, hb, hd⟩ := G.ex
  refine PEimp (pe_callG FO hr hgu hg hm hk hb hd tk (pa_cons (pe_var hN hv hd2 hcd) ha.ja he) hdb he hpl) fun σ H Q ⟨e, F, er, h⟩ => ?_
  obtain ⟨p, hp, h⟩ := chkO_fin h er
  refine ⟨_, hp, e, F, er, ?_⟩
  have hb2 := h.bind
  unfold RunAt at hb2 ⊢
  cases q : ms e with
  | ok ds e1 =>
    rw [q] at hb2
    intro H1 F1 er1 mv1 vs hvs
    exact ap1_o (hb2 H1 F1 er1 mv1) mv1.there er1 hp (hvs.append (hdd F1)) (by rw [List.length_append, ha.ln ds e e1 q]; exact hn)
  | exc x e1 => rw [q] at hb2; exact hb2
  | bad => rw [q] at hb2; exact hb2
end
end Sr
namespace Sr
open PySem hiding start
open PySem.Spec L2
open PyProof.Rows hiding St
def putD (f : Str) (d : D) : List (Str × D) → List (Str × D)
  | [] => [(f, d)]
  | (g, x) :: r => if g = f then (g, d) :: r else (g, x) :: putD f d r
section
variable {K : PySem.W.Frag} {mg : Str → Option Value} {F : Hp}
theorem rf_nil {xs : List (Str × V)} : RpF K mg F [] xs ↔ xs = [] := by rw [RpF]
theorem rf_cons {k : Str} {d : D} {ds : List (Str × D)} {xs : List (Str × V)} : RpF K mg F ((k, d) :: ds) xs ↔ ∃ v vs, xs = (k, v) :: vs ∧ Rp K mg F d v ∧ RpF K mg F ds vs := by rw [RpF]
theorem RpF.get {f : Str} {d : D} : ∀ {fs : List (Str × D)} {gs : List (Str × V)}, RpF K mg F fs gs → fs.lookup f = some d → ∃ v, gs.lookup f = some v ∧ Rp K mg F d v
  | [], gs, _, e => by cases e
  | (k, x) :: fs, gs, h, e => by
    rw [rf_cons] at h
    obtain ⟨v, vs, rfl, r, h⟩ := h
    rw [List.lookup_cons] at e ⊢
    split at e
    · cases e; exact ⟨v, rfl, r⟩
    · exact RpF.get h e
theorem RpF.put {f : Str} {d : D} {v : V} (r : Rp K mg F d v) : ∀ {fs : List (Str × D)} {gs : List (Str × V)}, RpF K mg F fs gs → RpF K mg F (putD f d fs) (putF f v gs)
  | [], gs, h => by
    rw [rf_nil] at h; subst h
    unfold putD putF
    rw [rf_cons]; exact ⟨v, [], rfl, r, by rw [rf_nil]⟩
  | (k, x) :: fs, gs, h => by
    rw [rf_cons] at h
    obtain ⟨w, vs, rfl, q, h⟩ := h
    unfold putD putF
    split
    · rw [rf_cons]; exact ⟨v, vs, rfl, r, h⟩
    · rw [rf_cons]; exact ⟨w, _, rfl, q, RpF.put r h⟩
theorem RpF.len : ∀ {fs : List (Str × D)} {gs : List (Str × V)}, RpF K mg F fs gs → fs.length = gs.length
  | [], gs, h => by rw [rf_nil] at h; subst h; rfl
  | (k, x) :: fs, gs, h => by rw [rf_cons] at h; obtain ⟨v, vs, rfl, r, h⟩ := h; rw [List.length_cons, List.length_cons, h.len]
end
structure ClK (K : PySem.W.Frag) (mg : Str → Option Value) (c : Str) (C : Addr) : Prop where
  mg : mg c = some (.ref C)
  cl : Cls K C
abbrev Cl (X : Cx) (c : Str) (C : Addr) : Prop := ClK X.K X.mg c C
def gFld (c f : Str) : D → Option D
  | .obj c' fs => if c' = c then fs.lookup f else none
  | _ => none
def mFldB (c f : Str) (m : M Bv) : M D := bnd m fun b => bnd (der b) fun d => opt (gFld c f d)
section
variable {X : Cx} {T : Pn} {W : WX} {pos : Pos} {a b : Expr} {es : List Expr} {ma mb : M D} {m1 : M Bv} {ms : M (List D)} {f : Fnc} {k n : Nat} {x c g : Str} {C : Addr}
theorem fld_ok {H F : Hp} {d z : D} {v : V} (s : Same F H) (r : Rq X.K X.mg H F d v) (hc : Cl X c C) (e : gFld c g d = some z) : ∃ a dx fs w, v = .ref a ∧ H a = some (.ins C dx fs) ∧ fs.lookup g = some w ∧ Rp X.K X.mg F z w := by
  cases d <;> simp only [gFld, reduceCtorEq] at e
  split at e
  · rename_i hcc
    subst hcc
    obtain ⟨a, C', dx, gs, rfl, h1, h2, h3⟩ := r
    rw [hc.mg] at h1; cases h1
    obtain ⟨w, h4, h5⟩ := h3.get e
    exact ⟨a, dx, gs, w, rfl, h2, h4, h5⟩
  · cases e
theorem jv_fld (hc : Cl X c C) (hn : NoAttr X.K C g) (ha : JB X T W a m1) (hb : attributeBase a g X.env (eval a X.env) = eval a X.env := by rfl) : JV X T W (.Attribute a g pos) (mFldB c g m1) := by
  refine PEimp (pe_fld ha hb) fun σ H Q ⟨e, F, er, h⟩ => ⟨e, F, er, h.bind.mono fun b e1 H1 F1 er1 mv1 h1 v hv => ?_⟩
  obtain ⟨d, r1, h3⟩ := der_fin h1.bind er1 hv
  obtain ⟨z, hz, fin⟩ := h3.fin er1
  obtain ⟨a, dx, fs, w, rfl, h4, h5, h6⟩ := fld_ok er1.sub r1 hc hz
  exact ⟨a, C, dx, fs, w, rfl, h4, hc.cl, hn, h5, fin H1 F1 Al.refl w h6⟩
theorem jv_prop {y : Str} {pp ga : Addr} {fd : FuncData} (hc : Cl X c C) (hp : PropOf X.K C y pp ga) (G : FnOk X.prog X.w X.K X.mg X.base CX0 k ga fd ["self"] (getSp C g)) (hr : Room (k + 1) X.A) (hb : Binds X.K fd ["self"] [])
    (ha : JB X T W a m1) (hab : attributeBase a y X.env (eval a X.env) = eval a X.env := by rfl) : JV X T W (.Attribute a y pos) (mFldB c g m1) := by
  refine PEimp (pe_prop (E := E0) (dvs := []) ha hc.cl hp G hr hb .nil pass0 hab) fun σ H Q ⟨e, F, er, h⟩ => ⟨e, F, er, h.bind.mono fun b e1 H1 F1 er1 mv1 h1 v hv => ?_⟩
  obtain ⟨d, r1, h3⟩ := der_fin h1.bind er1 hv
  obtain ⟨z, hz, fin⟩ := h3.fin er1
  obtain ⟨a, dx, fs, w, rfl, h4, h5, h6⟩ := fld_ok er1.sub r1 hc hz
  exact ⟨a, dx, fs, rfl, h4, a, dx, fs, w, rfl, h4, h5, fin H1 F1 Al.refl w h6⟩
def gA (i : Nat) (c f : Str) : D → M Unit := fun d e => match e[i]? with
  | some (.own (.obj c' fs)) => if c' = c ∧ fs.length < 1000 then .ok () (e.set i (.own (.obj c (putD f d fs)))) else .bad
  | _ => .bad
theorem ne_attr {i : Nat} : NoExc (gA i c g) := fun d e x e' h => by
  unfold gA at h
  split at h
  · split at h <;> cases h
  · cases h
theorem jg_attr {i : Nat} {y : Str} {pn : Pos} (hc : Cl X c C) (hn : NoAttr X.K C g) (hN : X.N[i]? = some y) (hv : Vis X.env.scope y) (hd : (y == ("__debug__" : Str)) = false := by decide) (hcd : (y == ("__classdict__" : Str)) = false := by decide) :
    JG X T W (.Attribute (.Name y pn) g pos) (gA i c g) := by
  refine ⟨fun pins s σ H v u Q I r h => ?_⟩
  obtain ⟨e, F, d, er, rd, h⟩ := h
  unfold gA at h
  cases q : e[i]? with
  | none => simp only [q] at h
  | some sl =>
    cases sl with
    | no => simp only [q] at h
    | val z => simp only [q] at h
    | own z =>
      cases z with
      | obj c' fs =>
        simp only [q] at h
        split at h
        · rename_i u' e' hh
          split at hh
          · rename_i hcc
            cases hh
            obtain ⟨p, h1, h2, C', dx, gs, h3, h4, h5⟩ := er.own i _ q
            rw [hcc.1, hc.mg] at h3; cases h3
            rw [assign_Attribute]
            refine wpAny_bind (wpAny_holding (thn ((pe_var (pos := pn) hN hv hd hcd).run pins s σ H (fun x H1 => x = .ref p ∧ H1 = H) I ⟨_, h1, rfl, rfl⟩) fun ov s1 ⟨x, H1, I1, r1, ex, eH⟩ => ?_))
            subst ex eH
            obtain rfl : ov = Value.ref p := r1
            refine wpAny_bind (wpAny_standAt (wpAny_bind (wpAny_holding (setattr_ok I1 h4 hc.cl hn (by rw [← h5.len]; exact hcc.2) r fun s2 I2 => ?_))))
            obtain ⟨er2, mv2⟩ := er.put (o := .ins C dx (putF g v gs)) (d' := .obj c (putD g d fs)) q h1 ⟨C, dx, _, hc.mg, upd_same, h5.put rd⟩
            exact wpAny_release ⟨σ, _, I2, h σ _ F er2 mv2⟩
          · cases hh
        · exact h.elim
      | _ => simp only [q] at h
end
end Sr
namespace Sr
open PySem hiding start
open PySem.Spec L2
open PyProof.Rows hiding St
theorem RunAt.eq {K : PySem.W.Frag} {mg : Str → Option Value} {T : Pn} {W : WX} {A : Type} {e : En} {σ : St} {H F : Hp} {m : M A} {P : A → En → Hp → Hp → Prop} (h : RunAt K mg T W e F m σ H P) : RunAt K mg T W e F m σ H fun a e' H' F' => m e = .ok a e' ∧ P a e' H' F' := by
  unfold RunAt at h ⊢
  cases q : m e with
  | ok a e' => rw [q] at h; exact fun H' F' er mv => ⟨rfl, h H' F' er mv⟩
  | exc x e' => rw [q] at h; exact h
  | bad => rw [q] at h; exact h
def sNever : M Fl := fun _ => .bad
theorem js_never {X : Cx} {T : Pn} {W : WX} {st : Stmt} : JS X T W st sNever := ⟨fun _ _ _ _ _ _ ⟨_, _, _, h⟩ => h.elim⟩
section
variable {X : Cx} {k n : Nat} {f C : Addr} {fd : FuncData} {ps ks : List Str} {sp : Sp} {W : WX} {g : List Value → List Value → List Value} {gV : List V → List V → List V}
theorem run_mk {pins : List (Addr × Obj)} {σ : St} {H : Hp} {s : Shared} {Q : VK} {us ws : List Value} {vs zs : List V} (M0 : Mk X.K C f)
    (F0 : FnG X.prog X.w X.K X.mg X.base k f fd ps sp) (hr : Room (k + 1) X.A) (hgu : X.A.guards = some []) (hb : KBn X.K fd ps (n + 1) ks g gV) (tk : Takes X W)
    (I : Inv X pins σ H s) (r : Vals vs us) (rz : Vals zs ws) (l1 : vs.length = n) (l2 : zs.length = ks.length)
    (h : ∀ x dx, H x = none → H dx = none → dx ≠ x → sp (gV (.ref x :: vs) zs) (upd (upd H dx (.own x)) x (.ins C dx [])) (fun v H2 => v = .non ∧ Q (.ref x) H2) (WE W σ)) :
    wpAny (model X.prog X.w) X.A (call (.ref C) us (ks.zip ws)) (EP X pins σ Q) X.xe s := by
  have f1 : H (s.heap.objs.size + 1) = none := I.hok.fresh (by omega)
  have f0 : H s.heap.objs.size = none := I.hok.fresh (by omega)
  have hq := h _ _ f1 f0 (Nat.ne_of_lt (Nat.lt_succ_self _))
  have I2 := Inv.made (C := C) I
  have r1 : Vals (V.ref _ :: vs) (Value.ref (s.heap.objs.size + 1) :: us) := .cons rfl r
  have n1 : (Value.ref (s.heap.objs.size + 1) :: us).length = n + 1 := by rw [List.length_cons, ← r.length, l1]
  refine wpAny_call (make_map (f := f) I.kIn M0.makes M0.init (beq_iff_eq.mp M0.fn) ?_)
  refine codeAny_mono (F0.run _ X.stack _ _ ⟨_, ks.zip ws⟩ (g _ ws) _ _ (WE W σ) (hr.make C us _) (by simpa [Around.under, Code.guards, Code.isGuard, guardIds, pushGuards] using hgu) (I2.env0.make C us _) (hb.to _ _ ws I2.kIn n1 (rz.length.symm.trans l2)) (hb.rel r1 rz) hq) ?_
  intro r s' hq'
  match r, hq' with
  | .error e, hq' => exact passAt tk σ pins _ _ e s' I2 hq'
  | .ok (.ret u), hq' =>
    obtain ⟨v, H', I3, rv, ev, q3⟩ := I2.after hq'
    subst ev
    exact ⟨rv, V.ref (s.heap.objs.size + 1), H', I3, rfl, q3⟩
  | .ok .next, hq' => exact hq'.elim
  | .ok .brk, hq' => exact hq'.elim
  | .ok .cont, hq' => exact hq'.elim
end
def TKs (K : PySem.W.Frag) (mg : Str → Option Value) (T : Pn) (W : WX) (m : M (List D)) : TA := TAs K mg T W m
structure JK (X : Cx) (T : Pn) (W : WX) (kws : List Keyword) (ms : M (List D)) : Prop where
  pk : PK X kws (TAs X.K X.mg T W ms)
  ln : ∀ (ds : List D) (e e' : En), ms e = .ok ds e' → ds.length = kws.length
theorem PKimp {X : Cx} {es : List Keyword} {t t' : TA} (h : PK X es t) (k : ∀ σ H Q, t' σ H Q → t σ H Q) : PK X es t' := ⟨fun pos pins s σ H Q I q => h.run pos pins s σ H Q I (k σ H Q q)⟩
theorem jk_nil {X : Cx} {T : Pn} {W : WX} : JK X T W [] mNil := ⟨PKimp pk_nil fun σ H Q ⟨e, F, er, h⟩ => h.rfin er H F Al.refl _ (by rw [rl_nil]), fun _ _ _ h => len_nil h⟩
theorem jk_cons {X : Cx} {T : Pn} {W : WX} {e : Expr} {nm : Option Str} {kpos : Pos} {kws : List Keyword} {m : M D} {ms : M (List D)} (ha : JV X T W e m) (hr : JK X T W kws ms) : JK X T W (⟨nm, e, kpos⟩ :: kws) (mCons m ms) := by
  refine ⟨PKimp (pk_cons ha hr.pk) fun σ H Q ⟨e, F, er, h⟩ => ⟨e, F, er, h.bind.mono fun d e1 H1 F1 er1 mv1 h1 v hv => ⟨e1, F1, er1, h1.bind.mono fun ds e2 H2 F2 er2 mv2 h2 vs hvs => ?_⟩⟩, len_cons hr.ln⟩
  exact h2.rfin er2 H2 F2 Al.refl _ (by rw [rl_cons]; exact ⟨v, vs, rfl, Rp.mono mv2.sub _ _ hv, hvs⟩)
structure Mkr (X : Cx) (k : Nat) (c : Str) (C : Addr) (sp : Sp) (ps : List Str) (n : Nat) (ks : List Str) (gV : List V → List V → List V) : Prop where
  cl : Cl X c C
  ex : ∃ f fd g, Mk X.K C f ∧ FnG X.prog X.w X.K X.mg X.base k f fd ps sp ∧ KBn X.K fd ps (n + 1) ks g gV
def apM (c : Str) (f : Fnc) (ds : List D) : M D := fun e => match f (.obj c []) ds with
  | .ok .non o => .ok o e
  | .ok _ _ => .bad
  | .exc x _ => .exc x e
  | .bad => .bad
def mMk (c : Str) (f : Fnc) (gD : List D → List D → List D) (ms mk : M (List D)) : M D := bnd ms fun ds => bnd mk fun es => apM c f (gD ds es)
section
variable {X : Cx} {T : Pn} {W : WX} {pos p : Pos} {a : Expr} {es : List Expr} {kws : List Keyword} {ms mk : M (List D)} {f : Fnc} {k n np : Nat} {c : Str} {C : Addr} {ps ks : List Str} {gV : List V → List V → List V} {gD : List D → List D → List D}
theorem apM_o {K : PySem.W.Frag} {mg : Str → Option Value} {e : En} {σ : St} {H F H0 : Hp} {ds : List D} {vs : List V} {Q : VK} {x dx : Addr}
    (h : RunAt K mg T W e F (apM c f ds) σ H fun d e' H' F' => ∀ p, H0 p = none → F' p = none → ¬ Ow e' σ p → OwnAt K mg H' F' p d → Q (.ref p) H') (hH : ∀ p, H p = none → H0 p = none) (er : ER K mg T e σ H F) (l : RpL K mg F ds vs) (hn : ds.length + 1 = n)
    (hm : mg c = some (.ref C)) (hx : H x = none) (hdx : H dx = none) (hne : dx ≠ x) : spF1 K mg false n f (.ref x :: vs) (upd (upd H dx (.own x)) x (.ins C dx [])) (fun v H2 => v = .non ∧ Q (.ref x) H2) (fun cl dd H' => W cl dd σ H') := by
  have s0 : Same H (upd (upd H dx (.own x)) x (.ins C dx [])) := fun b o q => by
    rw [upd_ne (ne_of_none q hx), upd_ne (ne_of_none q hdx)]; exact q
  refine ⟨x, .obj c [], vs, ds, F, rfl, er.sub.trans s0, er.sub.free hx, ⟨C, dx, [], hm, upd_same, by rw [rf_nil]⟩, l, hn, ?_⟩
  have conv : ∀ H' F', Fr (some x) (upd (upd H dx (.own x)) x (.ins C dx [])) F H' F' → Fr none H F H' F' := fun H' F' fr =>
    ⟨fr.sub, fr.fin, fun b o q _ => fr.keep b o (s0 b o q) fun z => (ne_of_none q hx) (Option.some.inj z).symm, fun b o q => (fr.new b o q).imp id fun z => s0.free z, fun b q => s0.free (fr.there b q)⟩
  unfold RunAt apM at h
  cases q : f (.obj c []) ds with
  | ok d o' =>
    simp only [q] at h
    intro H' F' fr fp ow v hv
    obtain ⟨er', mv⟩ := er.fr (conv H' F' fr)
    cases d with
    | non =>
      rw [rp_non] at hv
      exact ⟨hv, h H' F' er' mv x (hH x hx) fp (Ow.ne_of_free er hx) ow⟩
    | _ => exact h.elim
  | exc x' o' =>
    simp only [q] at h
    intro H' F' cl dd fr fp ow xr
    obtain ⟨er', mv⟩ := er.fr (conv H' F' fr)
    exact h H' F' cl dd er' mv xr
  | bad => simp only [q] at h
theorem jo_make (G : Mkr X k c C (spF1 X.K X.mg false np f) ps n ks gV) (hr : Room (k + 1) X.A) (hgu : X.A.guards = some []) (tk : Takes X W) (hg : Gl X c) (ha : JL X T W (a :: es) ms) (hkw : JK X T W kws mk)
    (hrel : ∀ (ds es : List D) (vs zs : List V) (F : Hp) (x : Addr), RpL X.K X.mg F ds vs → RpL X.K X.mg F es zs → ds.length = n → es.length = ks.length → ∃ ws, gV (.ref x :: vs) zs = .ref x :: ws ∧ RpL X.K X.mg F (gD ds es) ws ∧ (gD ds es).length + 1 = np)
    (hn : (a :: es).length = n := by rfl) (hkl : kws.length = ks.length := by rfl)
    (hall : (backToKw pos (keywordEach kws X.env)).all (·.1.isSome) = true := by rfl) (hks : (backToKw pos (keywordEach kws X.env)).filterMap (·.1) = ks := by rfl) (hdb : (c == ("__debug__" : Str)) = false := by decide)
    (he : starEach (a :: es) X.env = (false, eval a X.env) :: starEach es X.env := by rfl) (hpl : ((backTo pos (starEach (a :: es) X.env)).any (·.1) || (backToKw pos (keywordEach kws X.env)).any (·.1.isNone)) = false := by rfl) :
    JO X T W (.Call (.Name c p) (a :: es) kws pos) (mMk c f gD ms mk) := by
  obtain ⟨fa, fd, g, M0, F0, hb⟩ := G.ex
  refine ⟨fun pins s σ H Q I h => ?_⟩
  obtain ⟨e, F, er, h⟩ := h
  refine wpAny_Call_Name_kw (ld_glob I hg G.cl.mg ?_ hdb)
  refine PySem.W.callWith_KW (h₀ := X.base) I.ok.mod.kin M0.kp hall (thn (ha.ja.run pos pins s σ H (fun vs H1 => TAs X.K X.mg T W mk σ H1 fun zs H2 => vs.length = n ∧ zs.length = ks.length ∧ ∀ x dx, H2 x = none → H2 dx = none → dx ≠ x → spF1 X.K X.mg false np f (gV (.ref x :: vs) zs) (upd (upd H2 dx (.own x)) x (.ins C dx [])) (fun v H3 => v = .non ∧ Q (.ref x) H3) (WE W σ)) I ?_) fun us s1 ⟨vs, H1, I1, r, q⟩ => ?_) hpl he
  · refine ⟨e, F, er, h.bind.eq.mono fun ds e1 H1 F1 er1 mv1 h1 vs hvs => ⟨e1, F1, er1, h1.2.bind.eq.mono fun es e2 H2 F2 er2 mv2 h2 zs hzs => ?_⟩⟩
    have hl1 : ds.length = n := (ha.ln ds e e1 h1.1).trans hn
    have hl2 : es.length = ks.length := (hkw.ln es e1 e2 h2.1).trans hkl
    refine ⟨by rw [← hvs.len]; exact hl1, by rw [← hzs.len]; exact hl2, fun x dx hx hdx hne => ?_⟩
    obtain ⟨ws, e1', e2', e3'⟩ := hrel ds es vs zs F2 x (RpL.mono mv2.sub _ _ hvs) hzs hl1 hl2
    rw [e1']
    exact apM_o h2.2 (fun p hp => mv1.there p (mv2.there p hp)) er2 e2' e3' G.cl.mg hx hdx hne
  · refine thn (hkw.pk.run pos pins s1 σ H1 _ I1 q) fun ws s2 ⟨zs, H2, I2, rz, l1, l2, q2⟩ => ⟨I2.kIn, ?_⟩
    rw [hks]
    exact run_mk M0 F0 hr hgu hb tk I2 r rz l1 l2 q2
end
end Sr
namespace Sr
open PySem hiding start
open PySem.Spec L2
open PyProof.Rows hiding St
section
variable {X : Cx} {T : Pn} {W : WX} {pos : Pos} {a : Expr} {ma : M D}
def rRepr (K : PySem.W.Frag) : List V → Hp → VK → Prop := fun xs H Q => ∃ (q : Addr) (p : PyData), xs = [.ref q] ∧ Dp K H (.ref q) p ∧ p.showable = true ∧ p.hasDict = false ∧ p.depth ≤ 64 ∧ p.shown.length ≤ sizeLine ∧ Q (.str p.shown) H
theorem call_reprD (hgu : X.A.guards = some []) (hu : X.A.units + 100 < cLine) : CallR X (.builtin "repr") (rRepr X.K) := by
  intro pins s σ H xs us Q I r h
  obtain ⟨q, p, rfl, hp, h1, h2, h3, h4, hq⟩ := h
  obtain ⟨u, rfl, ru⟩ := vals1 r
  obtain rfl : u = Value.ref q := ru
  obtain ⟨as, rd⟩ := Dp.reads I p _ _ hp rfl
  exact repr_of_reads' rd h1 (PyData.noDict_hsm h2) hgu (by omega) (fun _ _ e => e) (fun h' u tk hk => ⟨.str _, H, I.kept hk, ⟨_, rfl⟩, hq⟩) h4
def gRepr : D → Option D
  | .lst ds => match toP (.lst ds) with
    | some p => if (p.showable && !p.hasDict && decide (p.depth ≤ 64) && decide (p.shown.length ≤ sizeLine)) = true then some (.str p.shown) else none
    | none => none
  | .tup ds => match toP (.tup ds) with
    | some p => if (p.showable && !p.hasDict && decide (p.depth ≤ 64) && decide (p.shown.length ≤ sizeLine)) = true then some (.str p.shown) else none
    | none => none
  | _ => none
theorem c_repr (hgu : X.A.guards = some []) (hu : X.A.units + 100 < cLine) : Cal1 X (.builtin "repr") gRepr := by
  intro H F x d d' s r e
  unfold gRepr at e
  split at e
  · rename_i ds
    split at e
    · rename_i p hp
      split at e
      · rename_i hh
        cases e
        simp only [Bool.and_eq_true, Bool.not_eq_true', decide_eq_true_eq] at hh
        have hdp := Rq.dp s hp r
        obtain ⟨q, xs, rfl, _⟩ := r
        exact ⟨_, call_reprD hgu hu, fun Q qq => ⟨q, p, rfl, hdp, hh.1.1.1, hh.1.1.2, hh.1.2, hh.2, qq H F _ Al.refl (by rw [rp_str])⟩⟩
      · cases e
    · cases e
  · rename_i ds
    split at e
    · rename_i p hp
      split at e
      · rename_i hh
        cases e
        simp only [Bool.and_eq_true, Bool.not_eq_true', decide_eq_true_eq] at hh
        have hdp := Rq.dp s hp r
        rw [rq_tup] at r
        obtain ⟨q, xs, rfl, _⟩ := r
        exact ⟨_, call_reprD hgu hu, fun Q qq => ⟨q, p, rfl, hdp, hh.1.1.1, hh.1.1.2, hh.1.2, hh.2, qq H F _ Al.refl (by rw [rp_str])⟩⟩
      · cases e
    · cases e
  · cases e
def IsiK (K : PySem.W.Frag) (mg : Str → Option Value) (u : Value) (g : D → Option Bool) : Prop := ∀ (H F : Hp) (d : D) (v : V) (b : Bool), Same F H → Rp K mg F d v → g d = some b → ∃ t, TyX K H v t ∧ PySem.W.kitOne K t u = some b
abbrev Isi (X : Cx) (u : Value) (g : D → Option Bool) : Prop := IsiK X.K X.mg u g
def mIsi (g : D → Option Bool) (m : M D) : M D := bnd m fun d => opt ((g d).map D.bl)
theorem runIsi {g : D → Option Bool} {u : Value} {cv : V} {σ : St} {H : Hp} {Q : VK} (hi : Isi X u g) (hc : ClsV cv u) (h : TV X.K X.mg T W (mIsi g ma) σ H Q) : TV X.K X.mg T W ma σ H fun v H1 => rIsi X.K [v, cv] H1 Q := by
  obtain ⟨e, F, er, h⟩ := h
  refine ⟨e, F, er, h.bind.mono fun d e1 H1 F1 er1 mv1 h1 v hv => ?_⟩
  obtain ⟨z, hz, fin⟩ := h1.fin er1
  rw [Option.map_eq_some_iff] at hz
  obtain ⟨b, hb, rfl⟩ := hz
  obtain ⟨t, h2, h3⟩ := hi H1 F1 d v b er1.sub hv hb
  exact ⟨v, cv, t, u, b, rfl, hc, h2, h3, fin H1 F1 Al.refl _ (by rw [rp_bl])⟩
theorem jv_isiB {g : D → Option Bool} {y : Str} {n : String} {p p2 : Pos} (hi : Isi X (.type n) g) (hg : Gl X "isinstance") (hm : X.mg "isinstance" = none) (hy : Gl X y) (hmy : X.mg y = none) (hv : bootBuiltins y = some (.type n)) (ha : JV X T W a ma)
    (hnn : y ≠ "__name__" := by decide) (hdy : (y == ("__debug__" : Str)) = false := by decide)
    (he : starEach [a, .Name y p2] X.env = (false, eval a X.env) :: starEach [.Name y p2] X.env := by rfl) (he2 : starEach [.Name y p2] X.env = (false, eval (.Name y p2) X.env) :: starEach [] X.env := by rfl) :
    JV X T W (.Call (.Name "isinstance" p) [a, .Name y p2] [] pos) (mIsi g ma) :=
  PEimp (pe_callB call_isi hg hm (by decide +kernel) (pa_cons ha (pa_cons (pe_bltn (v := .ty n) hy hmy hv rfl hnn hdy) pa_nil he2) he) (by decide) (by decide) he (by rfl)) fun σ H Q h => runIsi hi (.ty n) h
theorem jv_isiC {g : D → Option Bool} {y : Str} {C : Addr} {p p2 : Pos} (hi : Isi X (.ref C) g) (hg : Gl X "isinstance") (hm : X.mg "isinstance" = none) (hy : Gl X y) (hmy : X.mg y = some (.ref C)) (ha : JV X T W a ma)
    (hdy : (y == ("__debug__" : Str)) = false := by decide)
    (he : starEach [a, .Name y p2] X.env = (false, eval a X.env) :: starEach [.Name y p2] X.env := by rfl) (he2 : starEach [.Name y p2] X.env = (false, eval (.Name y p2) X.env) :: starEach [] X.env := by rfl) :
    JV X T W (.Call (.Name "isinstance" p) [a, .Name y p2] [] pos) (mIsi g ma) :=
  PEimp (pe_callB call_isi hg hm (by decide +kernel) (pa_cons ha (pa_cons (pe_glob (v := .ref C) hy hmy rfl hdy) pa_nil he2) he) (by decide) (by decide) he (by rfl)) fun σ H Q h => runIsi hi (.own C) h
inductive Kd where
  | non | bool | int | str | bytes | list | tuple | dict
  deriving DecidableEq
def Kd.nm : Kd → String
  | .non => "NoneType"
  | .bool => "bool"
  | .int => "int"
  | .str => "str"
  | .bytes => "bytes"
  | .list => "list"
  | .tuple => "tuple"
  | .dict => "dict"
def dKind : D → Option (Kd ⊕ Str)
  | .non => some (.inl .non)
  | .bl _ => some (.inl .bool)
  | .int _ => some (.inl .int)
  | .str _ => some (.inl .str)
  | .byt _ => some (.inl .bytes)
  | .lst _ => some (.inl .list)
  | .tup _ => some (.inl .tuple)
  | .dk _ => some (.inl .dict)
  | .dt _ => some (.inl .dict)
  | .obj c _ => some (.inr c)
  | .scr _ => none
structure ClI (K : PySem.W.Frag) (mg : Str → Option Value) (c : Str) (C : Addr) : Prop where
  cl : ClK K mg c C
  ha : PySem.W.findIn K (.ref C) "__class__" = some (some (.builtin "object.__class__"))
  hn : PySem.W.specialIn K (.builtin "object.__class__") "__get__" = some (some (.builtin "getset_descriptor.__get__"))
  ht : PySem.W.takesIn K (.builtin "object.__class__") = some true
  hm : PySem.W.mroIn K C (.type "object") = some true
section
variable {K : PySem.W.Frag} {mg : Str → Option Value}
theorem tyx_ok {H F : Hp} {d : D} {v : V} {n : Kd} (s : Same F H) (r : Rp K mg F d v) (h : dKind d = some (.inl n)) : TyX K H v (.type n.nm) := by
  cases d <;> simp only [dKind, Option.some.injEq, Sum.inl.injEq, reduceCtorEq] at h
  · subst h; rw [rp_non] at r; subst r; exact .base .non
  · subst h; rw [rp_bl] at r; subst r; exact .base (.bl _)
  · subst h; rw [rp_int] at r; subst r; exact .base (.int _)
  · subst h; rw [rp_str] at r; subst r; exact .base (.str _)
  · subst h; rw [rp_byt] at r; subst r; exact .byt _
  · subst h; rw [rp_lst] at r; obtain ⟨a, xs, rfl, q, _⟩ := r; exact .base (.lst (s _ _ q))
  · subst h; rw [rp_tup] at r
    obtain ⟨a, xs, rfl, q, _⟩ := r
    rcases q with (q | ⟨o, q⟩) | ⟨o, its, m, q, c, _⟩
    · exact .base (.tup (s _ _ q))
    · exact .fTuple (s _ _ q)
    · exact .kTuple q c
  · subst h; rw [rp_dk] at r; obtain ⟨a, xs, rfl, q, _⟩ := r; exact .base (.dK (s _ _ q))
  · subst h; unfold Rp at r; obtain ⟨a, xs, rfl, q, _⟩ := r; exact .base (.dT (s _ _ q))
theorem tyx_obj {H F : Hp} {c : Str} {C : Addr} {fs : List (Str × D)} {v : V} (s : Same F H) (r : Rp K mg F (.obj c fs) v) (h : ClI K mg c C) : TyX K H v (.ref C) := by
  rw [rp_obj] at r
  obtain ⟨a, C', dx, gs, rfl, h1, h2, _⟩ := r
  rw [h.cl.mg] at h1; cases h1
  exact .base (.ins (s _ _ h2) h.cl.cl h.ha h.hn h.ht h.hm)
def gIsi (tb : Kd → Option Bool) (to : Str → Option Bool) (d : D) : Option Bool := match dKind d with
  | some (.inl n) => tb n
  | some (.inr c) => to c
  | none => none
theorem isi_of {u : Value} {tb : Kd → Option Bool} {to : Str → Option Bool} (h1 : ∀ n b, tb n = some b → PySem.W.kitOne K (.type n.nm) u = some b) (h2 : ∀ c b, to c = some b → ∃ C, ClI K mg c C ∧ PySem.W.kitOne K (.ref C) u = some b) : IsiK K mg u (gIsi tb to) := by
  intro H F d v b s r e
  unfold gIsi at e
  split at e
  · rename_i n hk
    exact ⟨_, tyx_ok s r hk, h1 n b e⟩
  · rename_i c hk
    obtain ⟨C, hC, hb⟩ := h2 c b e
    cases d <;> simp only [dKind, Option.some.injEq, Sum.inr.injEq, reduceCtorEq] at hk
    subst hk
    exact ⟨_, tyx_obj s r hC, hb⟩
  · cases e
def tInt : Kd → Option Bool
  | .bool => some true
  | .int => some true
  | _ => some false
def tOnly (k : Kd) : Kd → Option Bool := fun n => some (decide (n = k))
theorem tInt_ok : ∀ n b, tInt n = some b → PySem.W.kitOne K (.type n.nm) (.type "int") = some b := by
  intro n b h
  cases n <;> cases h <;> exact kit_ty (by decide +kernel)
theorem tBool_ok : ∀ n b, tOnly .bool n = some b → PySem.W.kitOne K (.type n.nm) (.type "bool") = some b := by
  intro n b h
  cases n <;> cases h <;> exact kit_ty (by decide +kernel)
theorem tStr_ok : ∀ n b, tOnly .str n = some b → PySem.W.kitOne K (.type n.nm) (.type "str") = some b := by
  intro n b h
  cases n <;> cases h <;> exact kit_ty (by decide +kernel)
theorem tTuple_ok : ∀ n b, tOnly .tuple n = some b → PySem.W.kitOne K (.type n.nm) (.type "tuple") = some b := by
  intro n b h
  cases n <;> cases h <;> exact kit_ty (by decide +kernel)
theorem tList_ok : ∀ n b, tOnly .list n = some b → PySem.W.kitOne K (.type n.nm) (.type "list") = some b := by
  intro n b h
  cases n <;> cases h <;> exact kit_ty (by decide +kernel)
theorem tBytes_ok : ∀ n b, tOnly .bytes n = some b → PySem.W.kitOne K (.type n.nm) (.type "bytes") = some b := by
  intro n b h
  cases n <;> cases h <;> exact kit_ty (by decide +kernel)
end
end
theorem law_g {P : Program} {w : World} {K : PySem.W.Frag} {mg mb : Str → Option Value} {k : Nat} {fa a : Addr} {fd : FuncData} {x : Str} {sp : Sp} {s : Shared} {vs : List Value} {ns : List Int}
    (KX : K.In s.heap) (hns : s.heap.Ns mainGlobals mg) (hb : s.heap.Ns builtinsNs mb) (hbb : ∀ x : Str, x ≠ "__name__" → mb x = bootBuiltins x) (hlim : s.heap.NoLimit) (hg : s.gens = #[])
    (ha : s.heap.get? a = some { cls := .type "list", data := .seq vs.toArray }) (hi : IntsAre vs ns) (hl : ns.length ≤ sizeLine) (hr : Room k callerA)
    (F : ∀ base : Heap, K.In base → base.Ns mainGlobals mg → FnG P w K mg base k fa fd [x] sp) (hbind : ∀ (s : Shared) (u : Value), BindsTo s fd ⟨[u], []⟩ [(x, u)])
    (hsp : ∀ H : Hp, SqL K H a (ns.map V.int) → sp [.ref a] H (fun v _ => v = .bl true) fun _ _ _ => False) :
    codeAny (model P w) callerA (.call (.ref fa) ⟨[.ref a], []⟩) (fun r s' => r = .ok (.ret (.bool true)) ∧ OldK s.heap s'.heap ∧ s'.os = s.os ∧ AllBare s'.gens) s := by
  have rv := vals_ints hi
  have lenV := hi.length
  have core : ∀ H : Hp, Only H → SqL K H a (ns.map V.int) → HOk P w H s.heap → (∀ b, H b ≠ none → b = a) → (H a ≠ none → K.lookup a = none) →
      codeAny (model P w) callerA (.call (.ref fa) ⟨[.ref a], []⟩) (fun r s' => r = .ok (.ret (.bool true)) ∧ OldK s.heap s'.heap ∧ s'.os = s.os ∧ AllBare s'.gens) s := by
    intro H hO hS hok hA hK
    have onlyA : ∀ {b : Addr} {u : HO}, H b = some u → b = a := fun {b u} q => hA b (by rw [q]; simp)
    have noD : ∀ {b : Addr} {o : Obj} {es : Array DictEntry} {ep : Nat}, s.heap.get? b = some o → o.data = .dict es ep → H b = none := fun {b o es ep} e d => by
      cases q : H b with
      | none => rfl
      | some u => rw [onlyA q, ha] at e; cases e; cases d
    have nsK : ∀ {b : Addr} {m : Str → Option Value}, s.heap.Ns b m → (hidT s.heap H).Ns b m := fun {b m} ⟨o, es, ep, e, d, r⟩ => ⟨o, es, ep, hidT_get e (noD e d), d, r⟩
    have hKb : K.In (hidT s.heap H) := fun b o e => by
      refine hidT_get (KX b o e) ?_
      cases q : H b with
      | none => rfl
      | some u =>
        have e' := onlyA q
        subst e'
        rw [hK (by rw [q]; simp)] at e; cases e
    have hM : Mod K mg (hidT s.heap H) := by
      obtain ⟨mc, h1, h2⟩ := hlim
      exact ⟨hKb, nsK hns, ⟨mb, nsK hb, hbb⟩, ⟨mc, nsK h1, h2⟩⟩
    have e0 : Env0 P w K mg (hidT s.heap H) callerA [] s H := ⟨rfl, hM, fun b o e => of_hidT e, Nat.le_of_eq (hidT_size _ _), trivial, fun b z => (by cases z), hok, .of_eq hg⟩
    refine codeAny_mono ((F _ hKb (nsK hns)).run callerA [] s H _ [.ref a] [.ref a] _ _ hr rfl e0 (hbind s (.ref a)) (.cons rfl .nil) (hsp H hS)) ?_
    intro r s' h
    match r, h with
    | .error e, h => obtain ⟨_, _, _, _, _, _, _, _, _, _, _, _, z⟩ := h; exact z.elim
    | .ok .next, h => exact h.elim
    | .ok .brk, h => exact h.elim
    | .ok .cont, h => exact h.elim
    | .ok (.ret u), ⟨v, H', os, bare, un, hok', r', q⟩ =>
      have q' : v = .bl true := q
      subst q'
      obtain rfl : u = Value.bool true := r'
      refine ⟨rfl, OldK.of_keep fun b o e => ?_, os, bare⟩
      cases q : H b with
      | none => exact un.keep b o e q (fun z => by cases z) (by simp)
      | some u =>
        rcases hO b with z | ⟨ob, xs, z⟩
        · rw [q] at z; cases z
        · obtain ⟨e1, _⟩ := hok b _ z
          obtain ⟨e2, _⟩ := hok' b _ (un.frzs b ob _ z)
          rw [e] at e1; cases e1
          exact e2
  cases hk : K.lookup a with
  | some o =>
    have e := KX a o hk
    rw [ha] at e
    cases e
    refine core (fun _ => none) (fun _ => .inl rfl) (.inr ⟨_, vs.toArray, _, hk, rfl, rfl, rfl, by rw [List.size_toArray, lenV]; exact hl, by simpa using rv⟩) (fun b u z => by cases z) (fun b z => absurd rfl z) fun z => absurd rfl z
  | none =>
    refine core (fun b => if b = a then some (.frz { cls := .type "list", data := .seq vs.toArray } (.lst (ns.map V.int))) else none) (fun b => ?_) (.inl (.inr ⟨_, if_pos rfl⟩)) (fun b u z => ?_) (fun b z => ?_) fun _ => hk
    · by_cases hb : b = a
      · exact .inr ⟨_, _, if_pos hb⟩
      · exact .inl (if_neg hb)
    · by_cases hb : b = a
      · subst hb
        dsimp only at z
        rw [if_pos rfl] at z; cases z
        exact ⟨ha, by rw [List.length_map]; exact hl, vs, _, rv, ha⟩
      · dsimp only at z
        rw [if_neg hb] at z; cases z
    · by_cases hb : b = a
      · exact hb
      · exact absurd (if_neg hb) z
theorem walk_g {l : PySem.W.OpenLaw} {n k : Nat} {q : Program} {loose : List Str} {XP : (Str → Option Value) → Heap → Prop} {YP : World → Heap → Prop} {d : DefRec} {x : Str}
    (hn : l.most = some n) (hn2 : n ≤ sizeLine) (hdf : d.params.defaults = []) (hr : Room k callerA)
    (F : ∀ (w : World) (mg : Str → Option Value) (fa : Addr) (h : Heap), YP w h → h.Ns mainGlobals mg → mg d.name = some (.ref fa) →
      ∃ (K : PySem.W.Frag) (fd : FuncData) (sp : Sp), K.In h ∧ (∀ (s : Shared) (u : Value), BindsTo s fd ⟨[u], []⟩ [(x, u)]) ∧
        (∀ (H : Hp) (a : Addr) (ns : List Int), ns.length ≤ n → SqL K H a (ns.map V.int) → sp [.ref a] H (fun v _ => v = .bl true) fun _ _ _ => False) ∧
        ∀ base : Heap, K.In base → base.Ns mainGlobals mg → FnG l.prog w K mg base k fa fd [x] sp) :
    PySem.W.WalkO q loose XP YP l.row.toRowW d [] (fun f vs => PySem.call f vs) := by
  refine Att.attach_call hn hdf fun w s₀ s₁ mg mb fa o pm cd doc a vs ns G Y ho hd hcd hmg hobj hints hlen hg => ?_
  obtain ⟨K, fd, sp, KX, hb, hsp, hF⟩ := F w mg fa _ Y G.T.g hmg
  exact law_g KX G.T.g G.T.b G.T.builtins G.T.nolimit hg hobj hints (Nat.le_trans hlen hn2) hr hF hb (fun H hS => hsp H a ns hlen hS)
end Sr
namespace Sr
open PySem hiding start
open PySem.Spec L2
open PyProof.Rows hiding St
def gLt (a b : D) : Option D := (gI0 (fun i j => .bl (decide (i < j))) a b).or (gLtT a b)
def gLe : D → D → Option D := gI0 fun i j => .bl (decide (i ≤ j))
def gGt : D → D → Option D := gI0 fun i j => .bl (decide (j < i))
def gGe : D → D → Option D := gI0 fun i j => .bl (decide (j ≤ i))
structure Pl (X : Cx) (k : Nat) : Prop where
  room : Room k X.A
  gu : X.A.guards = some []
section
variable {X : Cx} {k : Nat}
theorem Pl.u64 (h : Pl X k) : X.A.units + 64 < cLine := h.room.units
theorem Pl.u100 (h : Pl X k) : X.A.units + 100 < cLine := by have := h.room.un; omega
theorem Pl.u0 (h : Pl X k) : X.A.units < cLine := h.room.units0
theorem Pl.u1 (h : Pl X k) : X.A.units + 1 < cLine := by have := h.room.un; omega
theorem p_lt (h : Pl X k) : Op2 X (compareOp .Lt) gLt := o_lt.or (o_ltT h.u0)
theorem p_le : Op2 X (compareOp .LtE) gLe := o_le
theorem p_gt : Op2 X (compareOp .Gt) gGt := o_gt
theorem p_ge : Op2 X (compareOp .GtE) gGe := o_ge
end
section
variable {X : Cx} {T : Pn} {W : WX} {pos p : Pos} {a : Expr} {es : List Expr} {ma : M D} {ms : M (List D)} {f : Fnc} {k j n : Nat} {x c g : Str} {ps : List Str} {dvs : List V} {dds : List D} {C : Addr}
theorem jv_gI {i : Int} (hg : Gl X x) (h : ∃ t, X.mg x = some (.int i t)) (hx : (x == ("__debug__" : Str)) = false := by decide) : JV X T W (.Name x pos) (ret (.int i)) := by
  obtain ⟨t, h⟩ := h
  exact jv_glob (v := .int i) hg h ⟨t, rfl⟩ (fun F => by rw [rp_int]) hx
theorem jv_gS {z : Str} (hg : Gl X x) (h : ∃ t, X.mg x = some (.str z t)) (hx : (x == ("__debug__" : Str)) = false := by decide) : JV X T W (.Name x pos) (ret (.str z)) := by
  obtain ⟨t, h⟩ := h
  exact jv_glob (v := .str z) hg h ⟨t, rfl⟩ (fun F => by rw [rp_str]) hx
theorem runCalV {fv : Value} {g1 : D → Option D} {σ : St} {H : Hp} {Q : VK} (hc : Cal1 X fv g1) (h : TV X.K X.mg T W (m1 g1 ma) σ H Q) : TV X.K X.mg T W ma σ H fun v H1 => rAnyC X fv [v] H1 Q := by
  obtain ⟨e, F, er, h⟩ := h
  refine ⟨e, F, er, h.bind.mono fun d e1 H1 F1 er1 mv1 h1 v hv => ?_⟩
  obtain ⟨z, hz, fin⟩ := h1.fin er1
  obtain ⟨r, hr, q⟩ := hc H1 F1 v d z er1.sub (Rp.rq er1.sub hv) hz
  exact ⟨r, hr, q Q fun H' F' z al hz => fin H' F' al z hz⟩
theorem jv_callV1 {id : String} {g1 : D → Option D} (hc : Cal1 X (.builtin id) g1) (hg : Gl X x) (hm : X.mg x = none) (hv : bootBuiltins x = some (.builtin id)) (ha : JV X T W a ma) (hn : x ≠ "__name__" := by decide) (hdb : (x == ("__debug__" : Str)) = false := by decide)
    (he : starEach [a] X.env = (false, eval a X.env) :: starEach [] X.env := by rfl) : JV X T W (.Call (.Name x p) [a] [] pos) (m1 g1 ma) :=
  PEimp (pe_callB callAny hg hm hv (pa_cons ha pa_nil he) hn hdb he rfl) fun σ H Q h => runCalV hc h
theorem jv_callT1 {id : String} {g1 : D → Option D} (hc : Cal1 X (.type id) g1) (hg : Gl X x) (hm : X.mg x = none) (hv : bootBuiltins x = some (.type id)) (ha : JV X T W a ma) (hn : x ≠ "__name__" := by decide) (hdb : (x == ("__debug__" : Str)) = false := by decide)
    (he : starEach [a] X.env = (false, eval a X.env) :: starEach [] X.env := by rfl) : JV X T W (.Call (.Name x p) [a] [] pos) (m1 g1 ma) :=
  PEimp (pe_callTy callAny hg hm hv (pa_cons ha pa_nil he) hn hdb he rfl) fun σ H Q h => runCalV hc h
theorem jv_fldV (hc : Cl X c C) (hn : NoAttr X.K C g) (ha : JV X T W a ma) (hb : attributeBase a g X.env (eval a X.env) = eval a X.env := by rfl) : JV X T W (.Attribute a g pos) (m1 (gFld c g) ma) := by
  refine PEimp (pe_fld ha hb) fun σ H Q ⟨e, F, er, h⟩ => ⟨e, F, er, h.bind.mono fun d e1 H1 F1 er1 mv1 h1 v hv => ?_⟩
  obtain ⟨z, hz, fin⟩ := h1.fin er1
  obtain ⟨a, dx, fs, w, rfl, h4, h5, h6⟩ := fld_ok er1.sub (Rp.rq er1.sub hv) hc hz
  exact ⟨a, C, dx, fs, w, rfl, h4, hc.cl, hn, h5, fin H1 F1 Al.refl w h6⟩
structure Prp (X : Cx) (k : Nat) (c : Str) (C : Addr) (y g : Str) : Prop where
  cl : Cl X c C
  ex : ∃ pp ga fd, PropOf X.K C y pp ga ∧ FnOk X.prog X.w X.K X.mg X.base CX0 k ga fd ["self"] (getSp C g) ∧ Binds X.K fd ["self"] []
theorem jv_propV {y : Str} (G : Prp X k c C y g) (hp : Pl X j) (ha : JV X T W a ma) (hj : k + 1 ≤ j := by decide) (hab : attributeBase a y X.env (eval a X.env) = eval a X.env := by rfl) : JV X T W (.Attribute a y pos) (m1 (gFld c g) ma) := by
  obtain ⟨pp, ga, fd, h1, h2, h3⟩ := G.ex
  refine PEimp (pe_prop (E := E0) (dvs := []) ha G.cl.cl h1 h2 (hp.room.mono hj) h3 .nil pass0 hab) fun σ H Q ⟨e, F, er, h⟩ => ⟨e, F, er, h.bind.mono fun d e1 H1 F1 er1 mv1 h1 v hv => ?_⟩
  obtain ⟨z, hz, fin⟩ := h1.fin er1
  obtain ⟨a, dx, fs, w, rfl, h4, h5, h6⟩ := fld_ok er1.sub (Rp.rq er1.sub hv) G.cl hz
  exact ⟨a, dx, fs, rfl, h4, a, dx, fs, w, rfl, h4, h5, fin H1 F1 Al.refl w h6⟩
theorem jv_c0 (G : Fn X k x (spF0 X.K X.mg false n f) ps dvs) (hp : Pl X j) (tk : Takes X W) (hdd : ∀ F, RpL X.K X.mg F dds dvs) (hg : Gl X x) (ha : JL X T W (a :: es) ms) (hk : k ≤ j := by decide) (hn : (a :: es).length + dds.length = n := by rfl)
    (hdb : (x == ("__debug__" : Str)) = false := by decide) (he : starEach (a :: es) X.env = (false, eval a X.env) :: starEach es X.env := by rfl) (hpl : (backTo pos (starEach es X.env)).any (·.1) = false := by rfl) :
    JV X T W (.Call (.Name x p) (a :: es) [] pos) (mC0 f dds ms) := jv_call0 G (hp.room.mono hk) hp.gu tk hdd hg ha hn hdb he hpl
theorem jo_c0 (G : Fn X k x (spF0 X.K X.mg true n f) ps dvs) (hp : Pl X j) (tk : Takes X W) (hdd : ∀ F, RpL X.K X.mg F dds dvs) (hg : Gl X x) (ha : JL X T W (a :: es) ms) (hk : k ≤ j := by decide) (hn : (a :: es).length + dds.length = n := by rfl)
    (hdb : (x == ("__debug__" : Str)) = false := by decide) (he : starEach (a :: es) X.env = (false, eval a X.env) :: starEach es X.env := by rfl) (hpl : (backTo pos (starEach es X.env)).any (·.1) = false := by rfl) :
    JO X T W (.Call (.Name x p) (a :: es) [] pos) (mC0 f dds ms) := jo_call0 G (hp.room.mono hk) hp.gu tk hdd hg ha hn hdb he hpl
theorem jv_c1 (i : Nat) {y : Str} {py : Pos} (G : Fn X k x (spF1 X.K X.mg false n f) ps dvs) (hp : Pl X j) (tk : Takes X W) (hdd : ∀ F, RpL X.K X.mg F dds dvs) (hg : Gl X x) (hN : X.N[i]? = some y) (hv : Vis X.env.scope y) (ha : JL X T W es ms) (hk : k ≤ j := by decide) (hn : es.length + dds.length + 1 = n := by rfl)
    (hdb : (x == ("__debug__" : Str)) = false := by decide) (he : starEach (.Name y py :: es) X.env = (false, eval (.Name y py) X.env) :: starEach es X.env := by rfl) (hpl : (backTo pos (starEach es X.env)).any (·.1) = false := by rfl)
    (hd2 : (y == ("__debug__" : Str)) = false := by decide) (hcd : (y == ("__classdict__" : Str)) = false := by decide) :
    JV X T W (.Call (.Name x p) (.Name y py :: es) [] pos) (mC1 f i dds ms) := jv_call1 G (hp.room.mono hk) hp.gu tk hdd hg hN hv ha hn hdb he hpl hd2 hcd
theorem jo_c1 (i : Nat) {y : Str} {py : Pos} (G : Fn X k x (spF1 X.K X.mg true n f) ps dvs) (hp : Pl X j) (tk : Takes X W) (hdd : ∀ F, RpL X.K X.mg F dds dvs) (hg : Gl X x) (hN : X.N[i]? = some y) (hv : Vis X.env.scope y) (ha : JL X T W es ms) (hk : k ≤ j := by decide) (hn : es.length + dds.length + 1 = n := by rfl)
    (hdb : (x == ("__debug__" : Str)) = false := by decide) (he : starEach (.Name y py :: es) X.env = (false, eval (.Name y py) X.env) :: starEach es X.env := by rfl) (hpl : (backTo pos (starEach es X.env)).any (·.1) = false := by rfl)
    (hd2 : (y == ("__debug__" : Str)) = false := by decide) (hcd : (y == ("__classdict__" : Str)) = false := by decide) :
    JO X T W (.Call (.Name x p) (.Name y py :: es) [] pos) (mC1 f i dds ms) := jo_call1 G (hp.room.mono hk) hp.gu tk hdd hg hN hv ha hn hdb he hpl hd2 hcd
theorem nodd : ∀ F, RpL X.K X.mg F [] [] := fun F => by rw [rl_nil]
end
abbrev FnC (P : Program) (w : World) (K : PySem.W.Frag) (mg : Str → Option Value) (base : Heap) (k : Nat) (x : Str) (sp : Sp) (ps : List Str) (dvs : List V) : Prop :=
  ∃ f fd ds, FnG P w K mg base k f fd ps sp ∧ mg x = some (.ref f) ∧ PySem.W.keepIn K (.ref f) = true ∧ Binds K fd ps ds ∧ Vals dvs ds
end Sr
namespace Sr
open PySem hiding start
open PySem.Spec L2
open PyProof.Rows hiding St
structure DefZ where
  ad : PySem.W.Frag → Addr
  name : Str
  qual : Str
  st : Stmt
  kwd : List (Str × V) := []
def fnZ (K : PySem.W.Frag) (a : Addr) : He.FnW := match K.lookup a with
  | some ⟨_, _, .func fd, _⟩ => some (fd.name, fd.qualname, fd.params, fd.body, fd.scope, fd.globals, fd.closure, fd.builtins)
  | _ => none
def DefZ.val (d : DefZ) : He.FnW := some (d.name, d.qual, defArgs d.st, .stmts (defBody d.st), defScope d.st, mainGlobals, [], builtinsNs)
def DefZ.ok (K : PySem.W.Frag) (d : DefZ) : Bool := PySem.W.keepIn K (.ref (d.ad K)) && (match K.lookup (d.ad K) with
  | some ⟨_, _, .func fd, _⟩ => PySem.W.codeIn K fd.code d.qual && (He.dflB K fd.defaults [] && He.kwdB K fd.kwdefaults d.kwd)
  | _ => false)
theorem DefZ.funD {K : PySem.W.Frag} {d : DefZ} (e : fnZ K (d.ad K) = d.val) (c : d.ok K = true) : ∃ fd, FunD K d.name d.qual (defArgs d.st) (defBody d.st) (defScope d.st) [] d.kwd (d.ad K) fd := by
  obtain ⟨kp, c2⟩ := He.ba c
  unfold fnZ at e
  cases q : K.lookup (d.ad K) with
  | none => rw [q] at c2; cases c2
  | some o =>
    obtain ⟨oc, od, dt, osl⟩ := o
    rw [q] at c2 e
    cases dt with
    | func fd =>
      obtain ⟨n1, n2, n3, n4, n5, n6, n7, n8, n9, n10, n11, n12, n13, n14, n15⟩ := fd
      have e2 : (some (n1, n2, n3, n4, n5, n6, n7, n15) : He.FnW) = some (d.name, d.qual, defArgs d.st, .stmts (defBody d.st), defScope d.st, mainGlobals, [], builtinsNs) := e
      simp only [Option.some.injEq, Prod.mk.injEq] at e2
      obtain ⟨h1, h2, h3, h4, h5, h6, h7, h8⟩ := e2
      subst h1 h2 h3 h4 h5 h6 h7 h8
      have c3 : (PySem.W.codeIn K n13 d.qual && (He.dflB K n8 [] && He.kwdB K n9 d.kwd)) = true := c2
      obtain ⟨k1, k2⟩ := He.ba c3
      obtain ⟨k3, k4⟩ := He.ba k2
      exact ⟨_, ⟨oc, od, n8, n9, n10, n11, n12, n13, n14, osl, rfl, q, k1, He.dflB_ok k3, He.kwdB_ok k4⟩, kp⟩
    | _ => cases c2
abbrev AlZ : Type := Bool × List He.FnW
def obsK (fa : List He.Fa) (fn : List DefZ) (ex : PySem.W.Frag → Bool) (K : PySem.W.Frag) : AlZ := ((fa.all fun f => f.ok K) && ((fn.all fun d => d.ok K) && ex K), fn.map fun d => fnZ K (d.ad K))
def valZ (fn : List DefZ) : AlZ := (true, fn.map DefZ.val)
def SaysZ (fa : List He.Fa) (fn : List DefZ) (ex : PySem.W.Frag → Bool) (K : PySem.W.Frag) : Prop := obsK fa fn ex K = valZ fn
def obsZ (n : Nat) (fa : List He.Fa) (fn : List DefZ) (ex : PySem.W.Frag → Bool) (g : Addr → Option Obj) : AlZ := obsK fa fn ex (He.frG g (He.asD g n))
def hookZ (n : Nat) (fa : List He.Fa) (fn : List DefZ) (ex : PySem.W.Frag → Bool) : PySem.W.Hook where
  α := AlZ
  obs := fun s => obsZ n fa fn ex s.heap.get?
  val := fun _ => valZ fn
  says := fun _ h => ∃ K : PySem.W.Frag, K.In h ∧ SaysZ fa fn ex K
  of := fun _ _ e => ⟨_, He.frG_in, e⟩
  keeps := fun _ _ _ ⟨K, hK, c⟩ k => ⟨K, PySem.W.Frag.In.keeps hK k, c⟩
theorem obsZ_eq {n : Nat} {fa : List He.Fa} {fn : List DefZ} {ex : PySem.W.Frag → Bool} {g : Addr → Option Obj} {s : Shared} (h : ∀ a, g a = s.heap.get? a) : obsZ n fa fn ex g = (hookZ n fa fn ex).obs s := by
  have e : g = s.heap.get? := funext h
  rw [e] <;> rfl
section
variable {fa : List He.Fa} {fn : List DefZ} {ex : PySem.W.Frag → Bool} {K : PySem.W.Frag}
theorem SaysZ.all (c : SaysZ fa fn ex K) : (fa.all fun f => f.ok K) = true ∧ (fn.all fun d => d.ok K) = true ∧ ex K = true := by
  obtain ⟨h1, h2⟩ := He.ba (show ((fa.all fun f => f.ok K) && ((fn.all fun d => d.ok K) && ex K)) = true from congrArg (fun z : AlZ => z.1) c)
  exact ⟨h1, He.ba h2⟩
theorem SaysZ.fact (c : SaysZ fa fn ex K) (i : Nat) {f : He.Fa} (h : fa[i]? = some f := by rfl) : f.ok K = true := List.all_eq_true.mp c.all.1 f (List.mem_of_getElem? h)
theorem SaysZ.def_ (c : SaysZ fa fn ex K) (i : Nat) {d : DefZ} (h : fn[i]? = some d := by rfl) : ∃ fd, FunD K d.name d.qual (defArgs d.st) (defBody d.st) (defScope d.st) [] d.kwd (d.ad K) fd := by
  have e : fn.map (fun d => fnZ K (d.ad K)) = fn.map DefZ.val := congrArg (fun z : AlZ => z.2) c
  have e2 : (fn.map fun d => fnZ K (d.ad K))[i]? = (fn.map DefZ.val)[i]? := by rw [e]
  rw [List.getElem?_map, List.getElem?_map, h] at e2
  exact DefZ.funD (Option.some.inj e2) (List.all_eq_true.mp c.all.2.1 d (List.mem_of_getElem? h))
end
def prG (K : PySem.W.Frag) (c f : Str) : Addr × Addr := match PySem.W.findIn K (.ref (He.ga K c)) f with
  | some (some (.ref p)) => (p, match PySem.W.recIn K p "property" with
    | some (.ref g :: _) => g
    | _ => 0)
  | _ => (0, 0)
def propB (K : PySem.W.Frag) (c f : Str) : Bool :=
  decide (PySem.W.findIn K (.ref (He.ga K c)) f = some (some (.ref (prG K c f).1))) && (decide (PySem.W.specialIn K (.ref (prG K c f).1) "__get__" = some (some (.builtin "property.__get__"))) && (decide (PySem.W.takesIn K (.ref (prG K c f).1) = some true) &&
    match PySem.W.recIn K (prG K c f).1 "property" with
    | some (.ref g :: _) => decide (g = (prG K c f).2)
    | _ => false))
theorem propB_ok {K : PySem.W.Frag} {c f : Str} (h : propB K c f = true) : PropOf K (He.ga K c) f (prG K c f).1 (prG K c f).2 := by
  unfold propB at h
  simp only [Bool.and_eq_true, decide_eq_true_eq] at h
  obtain ⟨h1, h2, h3, h4⟩ := h
  refine ⟨h1, h2, h3, ?_⟩
  split at h4
  · rename_i g r e
    rw [decide_eq_true_eq] at h4
    rw [← h4]; exact ⟨r, e⟩
  · cases h4
def cliB (K : PySem.W.Frag) (c : Str) : Bool :=
  decide (PySem.W.findIn K (.ref (He.ga K c)) "__class__" = some (some (.builtin "object.__class__"))) && (decide (PySem.W.specialIn K (.builtin "object.__class__") "__get__" = some (some (.builtin "getset_descriptor.__get__"))) &&
    (decide (PySem.W.takesIn K (.builtin "object.__class__") = some true) && decide (PySem.W.mroIn K (He.ga K c) (.type "object") = some true)))
theorem cliB_ok {K : PySem.W.Frag} {mg : Str → Option Value} {c : Str} (hc : ClK K mg c (He.ga K c)) (h : cliB K c = true) : ClI K mg c (He.ga K c) := by
  unfold cliB at h
  simp only [Bool.and_eq_true, decide_eq_true_eq] at h
  exact ⟨hc, h.1, h.2.1, h.2.2.1, h.2.2.2⟩
def allKd : List Kd := [.non, .bool, .int, .str, .bytes, .list, .tuple, .dict]
def noKd (K : PySem.W.Frag) (c : Str) : Bool := allKd.all fun k => decide (PySem.W.kitOne K (.type k.nm) (.ref (He.ga K c)) = some false)
theorem noKd_ok {K : PySem.W.Frag} {c : Str} (h : noKd K c = true) : ∀ n b, (fun _ : Kd => some false) n = some b → PySem.W.kitOne K (.type n.nm) (.ref (He.ga K c)) = some b := by
  intro n b e
  cases e
  have hm : n ∈ allKd := by cases n <;> decide
  exact of_decide_eq_true (List.all_eq_true.mp h n hm)
def ownB (K : PySem.W.Frag) (u : Value) (l : List (Str × Bool)) : Bool := l.all fun q => decide (PySem.W.kitOne K (.ref (He.ga K q.1)) u = some q.2)
theorem ownB_ok {K : PySem.W.Frag} {mg : Str → Option Value} {u : Value} {l : List (Str × Bool)} (h : ownB K u l = true) (hC : ∀ q ∈ l, ClI K mg q.1 (He.ga K q.1)) : ∀ c b, l.lookup c = some b → ∃ C, ClI K mg c C ∧ PySem.W.kitOne K (.ref C) u = some b := by
  intro c b e
  have hm : (c, b) ∈ l := PySem.mem_of_lookup e
  exact ⟨_, hC (c, b) hm, of_decide_eq_true (List.all_eq_true.mp h (c, b) hm)⟩
def gMul : D → D → Option D := gMulI
theorem o_mul {X : Cx} : Op2 X (binaryOp .Mult) gMul := o_mulI
end Sr
namespace Sr
open PySem hiding start
open PySem.Spec L2
open PyProof.Rows hiding St
theorem bt_len : bootBuiltins "len" = some (.builtin "len") := by decide +kernel
theorem bt_max : bootBuiltins "max" = some (.builtin "max") := by decide +kernel
theorem bt_min : bootBuiltins "min" = some (.builtin "min") := by decide +kernel
theorem bt_abs : bootBuiltins "abs" = some (.builtin "abs") := by decide +kernel
theorem bt_repr : bootBuiltins "repr" = some (.builtin "repr") := by decide +kernel
theorem bt_sum : bootBuiltins "sum" = some (.builtin "sum") := by decide +kernel
theorem bt_all : bootBuiltins "all" = some (.builtin "all") := by decide +kernel
theorem bt_any : bootBuiltins "any" = some (.builtin "any") := by decide +kernel
theorem bt_isinstance : bootBuiltins "isinstance" = some (.builtin "isinstance") := by decide +kernel
theorem bt_sorted : bootBuiltins "sorted" = some (.builtin "sorted") := by decide +kernel
theorem bt_int : bootBuiltins "int" = some (.type "int") := by decide +kernel
theorem bt_bool : bootBuiltins "bool" = some (.type "bool") := by decide +kernel
theorem bt_str : bootBuiltins "str" = some (.type "str") := by decide +kernel
theorem bt_tuple : bootBuiltins "tuple" = some (.type "tuple") := by decide +kernel
theorem bt_list : bootBuiltins "list" = some (.type "list") := by decide +kernel
theorem bt_bytes : bootBuiltins "bytes" = some (.type "bytes") := by decide +kernel
theorem bt_set : bootBuiltins "set" = some (.type "set") := by decide +kernel
theorem bt_range : bootBuiltins "range" = some (.type "range") := by decide +kernel
theorem bt_enumerate : bootBuiltins "enumerate" = some (.type "enumerate") := by decide +kernel
theorem bt_zip : bootBuiltins "zip" = some (.type "zip") := by decide +kernel
theorem bt_reversed : bootBuiltins "reversed" = some (.type "reversed") := by decide +kernel
theorem bt_dict : bootBuiltins "dict" = some (.type "dict") := by decide +kernel
theorem law_true {K : PySem.W.Frag} {mg : Str → Option Value} {f : Fnc} {ns : List Int} {H : Hp} {a : Addr} (h : f .non [.scr ns] = .ok (.bl true) .non) (hS : SqL K H a (ns.map V.int)) : spF0 K mg false 1 f [.ref a] H (fun v _ => v = .bl true) fun _ _ _ => False := by
  refine ⟨[.scr ns], H, Same.refl _, ?_, rfl, ?_⟩
  · rw [rl_cons]
    exact ⟨_, [], rfl, by rw [rp_scr]; exact ⟨a, rfl, hS⟩, by rw [rl_nil]⟩
  · rw [h]
    intro H' F' _ v hv
    rw [rp_bl] at hv
    exact hv
theorem fn_get {P : Program} {w : World} {K : PySem.W.Frag} {mg : Str → Option Value} {base : Heap} {x qual f : Str} {st : Stmt} {kws : List (Str × V)} {fa C : Addr} {fd : FuncData} {p1 p2 p3 : Pos} (G : FunD K x qual (defArgs st) (defBody st) (defScope st) [] kws fa fd) (cl : Cls K C) (hn : NoAttr K C f)
    (S : FnScope ["self"] ["self"] (defScope st)) (hb : defBody st = [.Return (some (.Attribute (.Name "self" p1) f p2)) p3]) : FnOk P w K mg base CX0 1 fa fd ["self"] (getSp C f) := by
  refine G.ok S (fun vs H Q E h => ?_) (fun cdv A outer s H vs Q E hr h => ?_)
  · obtain ⟨a, dx, fs, v, rfl, _⟩ := h
    rfl
  · obtain ⟨a, dx, fs, v, rfl, h1, h2, h3⟩ := h
    have hv : Vis (defScope st) "self" := by
      rcases S.par "self" (by simp) with q | q
      · exact .inl q
      · exact .inr (.inl q)
    rw [hb]
    refine ⟨_, pss_one (ps_ret (pe_fld (pe_var (i := 0) rfl hv) rfl)), ?_⟩
    exact ⟨_, rfl, a, C, dx, fs, v, rfl, h1, cl, hn, h2, h3⟩
theorem kbn0 {K : PySem.W.Frag} {fd : FuncData} {ps : List Str} (h : Binds K fd ps []) : KBn K fd ps ps.length [] (fun us _ => us) (fun vs _ => vs) := by
  refine ⟨fun s us ws X l1 l2 => ?_, fun r _ => r⟩
  have e : ws = [] := List.length_eq_zero_iff.mp l2
  subst e
  have b := h s us X (by rw [List.append_nil]; exact l1)
  rw [List.append_nil] at b
  exact b
end Sr
namespace Sr
open PySem hiding start
open L2
section
variable {A B : Type}
theorem bnd_ok {m : M A} {f : A → M B} {e e' : En} {a : A} (h : m e = .ok a e') : bnd m f e = f a e' := by unfold bnd; rw [h]
theorem bnd_exc {m : M A} {f : A → M B} {e e' : En} {x : Ex} (h : m e = .exc x e') : bnd m f e = .exc x e' := by unfold bnd; rw [h]
@[simp] theorem bnd_ret {a : A} {f : A → M B} {e : En} : bnd (ret a) f e = f a e := rfl
@[simp] theorem bnd_opt {a : A} {f : A → M B} {e : En} : bnd (opt (some a)) f e = f a e := rfl
theorem sq_nx {s u : M Fl} {e e' : En} (h : s e = .ok .nx e') : sq s u e = u e' := by unfold sq; rw [h]
theorem sq_rt {s u : M Fl} {e e' : En} {d : D} (h : s e = .ok (.rt d) e') : sq s u e = .ok (.rt d) e' := by unfold sq; rw [h]
theorem lp_nx {b k : M Fl} {e e' : En} (h : b e = .ok .nx e') : lp b k e = k e' := by unfold lp; rw [h]
theorem lp_rt {b k : M Fl} {e e' : En} {d : D} (h : b e = .ok (.rt d) e') : lp b k e = .ok (.rt d) e' := by unfold lp; rw [h]
end
def turn (w : D → M Unit) (b : M Fl) (d : D) : M Fl := bnd (w d) fun _ => b
theorem forL_cons_nx {w : D → M Unit} {b : M Fl} {d : D} {ds : List D} {e e' : En} (h : turn w b d e = .ok .nx e') : forL w b (d :: ds) e = forL w b ds e' := by
  unfold turn bnd at h
  show bnd (w d) (fun _ => lp b (forL w b ds)) e = _
  unfold bnd
  cases q : w d e with
  | ok u e1 => rw [q] at h; exact lp_nx h
  | exc x e1 => rw [q] at h; cases h
  | bad => rw [q] at h; cases h
theorem forL_cons_rt {w : D → M Unit} {b : M Fl} {d : D} {ds : List D} {e e' : En} {z : D} (h : turn w b d e = .ok (.rt z) e') : forL w b (d :: ds) e = .ok (.rt z) e' := by
  unfold turn bnd at h
  show bnd (w d) (fun _ => lp b (forL w b ds)) e = _
  unfold bnd
  cases q : w d e with
  | ok u e1 => rw [q] at h; exact lp_rt h
  | exc x e1 => rw [q] at h; cases h
  | bad => rw [q] at h; cases h
theorem forL_inv {w : D → M Unit} {b : M Fl} (I : En → Prop) : ∀ {ds : List D} {e : En}, (∀ d ∈ ds, ∀ e, I e → ∃ e', turn w b d e = .ok .nx e' ∧ I e') → I e → ∃ e', forL w b ds e = .ok .nx e' ∧ I e'
  | [], e, _, h => ⟨e, rfl, h⟩
  | d :: ds, e, hs, h => by
    obtain ⟨e1, h1, h2⟩ := hs d (by simp) e h
    obtain ⟨e2, h3, h4⟩ := forL_inv I (ds := ds) (fun d hd => hs d (List.mem_cons_of_mem _ hd)) h2
    exact ⟨e2, by rw [forL_cons_nx h1]; exact h3, h4⟩
theorem forL_fold {A : Type} {w : D → M Unit} {b : M Fl} (R : A → En → Prop) (step : A → D → A) : ∀ {ds : List D} {a : A} {e : En}, (∀ d ∈ ds, ∀ a e, R a e → ∃ e', turn w b d e = .ok .nx e' ∧ R (step a d) e') → R a e → ∃ e', forL w b ds e = .ok .nx e' ∧ R (ds.foldl step a) e'
  | [], a, e, _, h => ⟨e, rfl, h⟩
  | d :: ds, a, e, hs, h => by
    obtain ⟨e1, h1, h2⟩ := hs d (by simp) a e h
    obtain ⟨e2, h3, h4⟩ := forL_fold R step (ds := ds) (fun d hd => hs d (List.mem_cons_of_mem _ hd)) h2
    exact ⟨e2, by rw [forL_cons_nx h1]; exact h3, h4⟩
end Sr
namespace Sr
open PySem hiding start
open L2
theorem forL_foldP {A : Type} {w : D → M Unit} {b : M Fl} (R : A → En → Prop) (step : A → D → A) (a : A) (ds : List D) : ∀ (pre post : List D) (e : En), ds = pre ++ post →
    (∀ pre d post, ds = pre ++ d :: post → ∀ e, R (pre.foldl step a) e → ∃ e', turn w b d e = .ok .nx e' ∧ R (step (pre.foldl step a) d) e') → R (pre.foldl step a) e → ∃ e', forL w b post e = .ok .nx e' ∧ R (ds.foldl step a) e'
  | pre, [], e, h, _, hR => by rw [List.append_nil] at h; subst h; exact ⟨e, rfl, hR⟩
  | pre, d :: post, e, h, hs, hR => by
    obtain ⟨e1, h1, h2⟩ := hs pre d post h e hR
    obtain ⟨e2, h3, h4⟩ := forL_foldP R step a ds (pre ++ [d]) post e1 (by rw [h]; simp) hs (by rw [List.foldl_append]; exact h2)
    exact ⟨e2, by rw [forL_cons_nx h1]; exact h3, h4⟩
def irng (lo hi : Int) : List Int := (List.range (hi - lo).toNat).map fun (i : Nat) => lo + i
theorem rngL_eq (lo hi : Int) : rngL lo hi = (irng lo hi).map D.int := by
  unfold rngL irng
  rw [List.map_map]; rfl
theorem irng_mem {lo hi i : Int} (h : i ∈ irng lo hi) : lo ≤ i ∧ i < hi := by
  unfold irng at h
  rw [List.mem_map] at h
  obtain ⟨n, h1, rfl⟩ := h
  rw [List.mem_range] at h1
  omega
theorem forL_map {A B : Type} {w : D → M Unit} {b : M Fl} (f : B → D) (R : A → En → Prop) (step : A → B → A) (a : A) (xs : List B) (e : En)
    (hs : ∀ pre x post, xs = pre ++ x :: post → ∀ e, R (pre.foldl step a) e → ∃ e', turn w b (f x) e = .ok .nx e' ∧ R (step (pre.foldl step a) x) e') (h0 : R a e) : ∃ e', forL w b (xs.map f) e = .ok .nx e' ∧ R (xs.foldl step a) e' := by
  suffices H : ∀ (pre post : List B) (e : En), xs = pre ++ post → R (pre.foldl step a) e → ∃ e', forL w b (post.map f) e = .ok .nx e' ∧ R (xs.foldl step a) e' from H [] xs e rfl h0
  intro pre post
  induction post generalizing pre with
  | nil => intro e h hR; rw [List.append_nil] at h; subst h; exact ⟨e, rfl, hR⟩
  | cons x post ih =>
    intro e h hR
    obtain ⟨e1, h1, h2⟩ := hs pre x post h e hR
    obtain ⟨e2, h3, h4⟩ := ih (pre ++ [x]) e1 (by rw [h]; simp) (by rw [List.foldl_append]; exact h2)
    exact ⟨e2, by rw [List.map_cons, forL_cons_nx h1]; exact h3, h4⟩
theorem foldl_len {A B : Type} {step : List A → B → List A} {k : Nat} (h : ∀ a b, (step a b).length ≤ a.length + k) : ∀ (xs : List B) (a : List A), (xs.foldl step a).length ≤ a.length + k * xs.length
  | [], a => by simp
  | x :: xs, a => by
    have h1 := h a x
    have h2 := foldl_len h xs (step a x)
    rw [List.foldl_cons, List.length_cons, Nat.mul_succ]
    omega
theorem cmul_l {i j : Int} (h1 : -18446744073709551616 < i) (h2 : i < 18446744073709551616) : cMul i j = true := by
  unfold cMul; simp; left; exact ⟨h1, h2⟩
def PenOk (o : D) : Prop := ∃ a b c : Int, o = .lst [.int a, .int b, .int c] ∧ 0 ≤ a ∧ 0 ≤ b ∧ b ≤ 2147483647
end Sr
namespace Sr
open PySem hiding start
open L2
structure Sh (d : D) (k n : Nat) (p : PyData) : Prop where
  eq : toP d = some p
  sh : p.showable = true
  nd : p.hasDict = false
  dp : p.depth ≤ k
  ln : p.shown.length ≤ n
structure ShL (ds : List D) (k n : Nat) (ps : List PyData) : Prop where
  eq : toPL ds = some ps
  sh : PyData.showableAll ps = true
  nd : PyData.hasDictAll ps = false
  dp : PyData.depthAll ps ≤ k
  ln : piled (PyData.shownAll ps) ≤ n
theorem listText_le (ts : List Str) : (listText ts).length ≤ piled ts + 2 := by
  cases ts with
  | nil => decide +kernel
  | cons t r =>
    show (textFrom 1 ((("[" : Str) ++ ((if 0 > 0 then ", " else "" : String) : Str)) ++ t) r ++ ("]" : Str)).length ≤ _
    rw [strLen_append, textFrom_length_pos _ _ _ (by omega), piled_cons, strLen_append, strLen_append]
    have h1 : (("[" : Str)).length = 1 := by decide +kernel
    have h2 : (("]" : Str)).length = 1 := by decide +kernel
    have h3 : (((if 0 > 0 then ", " else "" : String) : Str)).length = 0 := by decide +kernel
    omega
theorem tupleText_le (ts : List Str) : (tupleText ts).length ≤ piled ts + 3 := by
  unfold tupleText
  rw [strLen_append, strLen_append]
  have h1 : (("(" : Str)).length = 1 := by decide +kernel
  have h2 : (((if ts.length == 1 then ",)" else ")" : String) : Str)).length ≤ 2 := by split <;> decide +kernel
  cases ts with
  | nil =>
    have h3 : (Str.join ", " ([] : List Str)).length = 0 := by decide +kernel
    rw [h3]; omega
  | cons t r =>
    have h3 := join_length_add (t :: r) (by simp)
    omega
theorem sh_non : Sh .non 0 4 .none := ⟨rfl, rfl, rfl, Nat.le_refl _, by decide +kernel⟩
theorem sh_bl (b : Bool) : Sh (.bl b) 0 5 (.bool b) := ⟨rfl, rfl, rfl, Nat.le_refl _, by cases b <;> decide +kernel⟩
theorem short99 (i : Int) (h : 0 ≤ i ∧ i < 100) : (PyData.shown (.int i)).length ≤ 2 ∧ i.natAbs.log2 < 1920 := by
  have H : ∀ n : Fin 100, (PyData.shown (.int (n.val : Int))).length ≤ 2 ∧ (n.val : Int).natAbs.log2 < 1920 := by decide +kernel
  have := H ⟨i.toNat, by omega⟩
  have e : ((i.toNat : Nat) : Int) = i := by omega
  rw [e] at this
  exact this
theorem sh_int {i : Int} (h0 : 0 ≤ i) (h1 : i < 100) : Sh (.int i) 0 2 (.int i) := by
  obtain ⟨h2, h3⟩ := short99 i ⟨h0, h1⟩
  exact ⟨rfl, by simp only [PyData.showable, decide_eq_true_eq]; exact h3, rfl, Nat.le_refl _, h2⟩
theorem shl_nil : ShL [] 0 0 [] := ⟨rfl, rfl, rfl, Nat.le_refl _, Nat.le_refl _⟩
theorem shl_cons {d : D} {ds : List D} {k k' n n' : Nat} {p : PyData} {ps : List PyData} (h : Sh d k n p) (hs : ShL ds k' n' ps) : ShL (d :: ds) (max k k') (n + 2 + n') (p :: ps) := by
  refine ⟨by simp only [toPL, h.eq, hs.eq, Option.bind_some, Option.map_some], by simp only [PyData.showableAll, h.sh, hs.sh, Bool.and_self], by simp only [PyData.hasDictAll, h.nd, hs.nd, Bool.or_self], ?_, ?_⟩
  · have := h.dp; have := hs.dp; simp only [PyData.depthAll]; omega
  · have := h.ln; have := hs.ln; simp only [PyData.shownAll, piled_cons]; omega
theorem sh_lst {ds : List D} {k n : Nat} {ps : List PyData} (h : ShL ds k n ps) : Sh (.lst ds) (k + 1) (n + 2) (.list ps) := by
  refine ⟨by simp only [toP, h.eq, Option.map_some], by simp only [PyData.showable]; exact h.sh, by simp only [PyData.hasDict]; exact h.nd, ?_, ?_⟩
  · have := h.dp; simp only [PyData.depth]; omega
  · have := listText_le (PyData.shownAll ps); have := h.ln; simp only [PyData.shown]; omega
theorem sh_tup {ds : List D} {k n : Nat} {ps : List PyData} (h : ShL ds k n ps) : Sh (.tup ds) (k + 1) (n + 3) (.tuple ps) := by
  refine ⟨by simp only [toP, h.eq, Option.map_some], by simp only [PyData.showable]; exact h.sh, by simp only [PyData.hasDict]; exact h.nd, ?_, ?_⟩
  · have := h.dp; simp only [PyData.depth]; omega
  · have := tupleText_le (PyData.shownAll ps); have := h.ln; simp only [PyData.shown]; omega
theorem repr_lst {ds : List D} {k n : Nat} {p : PyData} (h : Sh (.lst ds) k n p) (hk : k ≤ 64) (hn : n ≤ 16777216) : gRepr (.lst ds) = some (.str p.shown) := by
  have h1 := h.dp; have h2 := h.ln
  have hs : sizeLine = 16777216 := by decide
  simp only [gRepr, h.eq, h.sh, h.nd, Bool.not_false, Bool.and_true, Bool.true_and, Bool.and_eq_true, decide_eq_true_eq]
  rw [if_pos ⟨by omega, by rw [hs]; omega⟩]
theorem repr_tup {ds : List D} {k n : Nat} {p : PyData} (h : Sh (.tup ds) k n p) (hk : k ≤ 64) (hn : n ≤ 16777216) : gRepr (.tup ds) = some (.str p.shown) := by
  have h1 := h.dp; have h2 := h.ln
  have hs : sizeLine = 16777216 := by decide
  simp only [gRepr, h.eq, h.sh, h.nd, Bool.not_false, Bool.and_true, Bool.true_and, Bool.and_eq_true, decide_eq_true_eq]
  rw [if_pos ⟨by omega, by rw [hs]; omega⟩]
end Sr
namespace Sr
open PySem hiding start
open PySem.Spec L2
open PyProof.Rows hiding St
def W0 : WX := fun _ _ _ _ => False
theorem takes0 {X : Cx} : Takes X W0 := fun u s' ⟨a, B, sI, pins, σ, H, cls, d, e, I, nb, up, sky, na, os, ag, w⟩ => w.elim
def wipE : List Nat → En → En
  | [], e => e
  | v :: vs, e => (wipE vs e).set v .no
def rst : List Nat → En → En → En
  | [], _, e2 => e2
  | v :: vs, e1, e2 => (rst vs e1 e2).set v (match e1[v]? with
    | some (.val d) => .val d
    | _ => .no)
theorem wipE_len : ∀ (vs : List Nat) (e : En), (wipE vs e).length = e.length
  | [], _ => rfl
  | v :: vs, e => by unfold wipE; rw [List.length_set, wipE_len vs e]
theorem rst_len : ∀ (vs : List Nat) (e1 e : En), (rst vs e1 e).length = e.length
  | [], _, _ => rfl
  | v :: vs, e1, e => by unfold rst; rw [List.length_set, rst_len vs e1 e]
theorem wipE_get : ∀ {vs : List Nat} {e : En} {j : Nat} {x : Sl}, (wipE vs e)[j]? = some x → x ≠ .no → j ∉ vs ∧ e[j]? = some x
  | [], e, j, x, h, _ => ⟨by simp, h⟩
  | v :: vs, e, j, x, h, n => by
    unfold wipE at h
    by_cases hj : v = j
    · subst hj
      by_cases hl : v < (wipE vs e).length
      · rw [List.getElem?_set_self hl] at h; cases h; exact (n rfl).elim
      · rw [List.getElem?_eq_none (by rw [List.length_set]; omega)] at h; cases h
    · rw [List.getElem?_set_ne hj] at h
      obtain ⟨h1, h2⟩ := wipE_get h n
      exact ⟨by simp only [List.mem_cons, not_or]; exact ⟨fun q => hj q.symm, h1⟩, h2⟩
theorem rst_get : ∀ {vs : List Nat} {e1 e : En} {j : Nat} {x : Sl}, (rst vs e1 e)[j]? = some x → x ≠ .no → (j ∉ vs ∧ e[j]? = some x) ∨ ((∃ d, x = .val d) ∧ e1[j]? = some x)
  | [], e1, e, j, x, h, _ => .inl ⟨by simp, h⟩
  | v :: vs, e1, e, j, x, h, n => by
    unfold rst at h
    by_cases hj : v = j
    · subst hj
      by_cases hl : v < (rst vs e1 e).length
      · rw [List.getElem?_set_self hl] at h
        cases q : e1[v]? with
        | none => rw [q] at h; cases h; exact (n rfl).elim
        | some s =>
          rw [q] at h
          cases s with
          | no => cases h; exact (n rfl).elim
          | own d => cases h; exact (n rfl).elim
          | val d => cases h; exact .inr ⟨⟨d, rfl⟩, rfl⟩
      · rw [List.getElem?_eq_none (by rw [List.length_set]; omega)] at h; cases h
    · rw [List.getElem?_set_ne hj] at h
      rcases rst_get h n with ⟨h1, h2⟩ | h1
      · exact .inl ⟨by simp only [List.mem_cons, not_or]; exact ⟨fun q => hj q.symm, h1⟩, h2⟩
      · exact .inr h1
theorem wipe_get {σ : St} {j : Nat} : ∀ {vs : List Nat}, (wipe σ vs)[j]? = if j ∈ vs ∧ j < σ.length then some none else σ[j]?
  | [] => by simp [wipe]
  | v :: vs => by
    unfold wipe
    by_cases hj : v = j
    · subst hj
      by_cases hl : v < σ.length
      · rw [List.getElem?_set_self (by rw [wipe_length]; exact hl), if_pos ⟨by simp, hl⟩]
      · rw [List.getElem?_eq_none (by rw [List.length_set, wipe_length]; omega), if_neg (fun z => hl z.2), List.getElem?_eq_none (by omega)]
    · rw [List.getElem?_set_ne hj, wipe_get (vs := vs)]
      have : j ∈ v :: vs ↔ j ∈ vs := by simp only [List.mem_cons]; exact ⟨fun z => z.elim (fun q => (hj q.symm).elim) id, .inr⟩
      simp only [this]
theorem wipe_set {σ : St} {i : Nat} {x : Option V} {vs : List Nat} (h : i ∈ vs) : wipe (σ.set i x) vs = wipe σ vs := by
  refine List.ext_getElem? fun j => ?_
  rw [wipe_get, wipe_get, List.length_set]
  by_cases hj : j ∈ vs ∧ j < σ.length
  · rw [if_pos hj, if_pos hj]
  · rw [if_neg hj, if_neg hj]
    by_cases hij : i = j
    · subst hij
      have : ¬ i < σ.length := fun z => hj ⟨h, z⟩
      rw [List.getElem?_eq_none (by rw [List.length_set]; omega), List.getElem?_eq_none (by omega)]
    · rw [List.getElem?_set_ne hij]
section
variable {K : PySem.W.Frag} {mg : Str → Option Value} {T : Pn} {W : WX} {e e0 e1 e2 : En} {σ σ0 : St} {H F H0 F0 H1 F1 F2 : Hp} {p : Addr} {o : HO} {vs : List Nat}
theorem Mv.updNew (m : Mv e0 σ0 H0 F0 e σ H F) (n : H0 p = none) : Mv e0 σ0 H0 F0 e σ (upd H p o) F := by
  refine ⟨m.sub, fun a u h w => ?_, m.new, fun a h => ?_⟩
  · obtain ⟨h1, h2⟩ := m.keep a u h w
    exact ⟨by rw [upd_ne (ne_of_none h n)]; exact h1, h2⟩
  · by_cases ha : a = p
    · subst ha; exact n
    · rw [upd_ne ha] at h; exact m.there a h
theorem ER.updFree (er : ER K mg T e σ H F) (n : F p = none) (w : ¬ Ow e σ p) : ER K mg T e σ (upd H p o) F := by
  refine ⟨fun b u q => ?_, er.val, fun i d h => ?_, er.inj, er.len, er.pin⟩
  · rw [upd_ne (ne_of_none q n)]; exact er.sub b u q
  · obtain ⟨q, h1, h2, h3⟩ := er.own i d h
    refine ⟨q, h1, h2, h3.keep (Same.refl _) fun u hu => ?_⟩
    rw [upd_ne]; exact hu
    rintro rfl
    exact w ⟨i, d, h, h1⟩
theorem ER.wip (er : ER K mg T e σ H F) (hT : ∀ v ∈ vs, NoP T v) : ER K mg T (wipE vs e) (wipe σ vs) H F ∧ Mv e σ H F (wipE vs e) (wipe σ vs) H F := by
  have ow : ∀ a, Ow (wipE vs e) (wipe σ vs) a → Ow e σ a := fun a ⟨j, d, h1, h2⟩ => by
    obtain ⟨h3, h4⟩ := wipE_get h1 (fun z => nomatch z)
    rw [wipe_out h3] at h2
    exact ⟨j, d, h4, h2⟩
  refine ⟨⟨er.sub, fun i d h => ?_, fun i d h => ?_, fun i j q d d' h1 h2 h3 h4 => ?_, by rw [wipE_len, wipe_length]; exact er.len, fun q hq => ?_⟩, Same.refl _, fun a u h n => ⟨h, fun z => n (ow a z)⟩, fun a u h => .inl h, fun a h => h⟩
  · obtain ⟨h1, h2⟩ := wipE_get h (fun z => nomatch z)
    obtain ⟨v, h3, h4⟩ := er.val i d h2
    exact ⟨v, by rw [wipe_out h1]; exact h3, h4⟩
  · obtain ⟨h1, h2⟩ := wipE_get h (fun z => nomatch z)
    obtain ⟨v, h3, h4⟩ := er.own i d h2
    exact ⟨v, by rw [wipe_out h1]; exact h3, h4⟩
  · obtain ⟨g1, g2⟩ := wipE_get h1 (fun z => nomatch z)
    obtain ⟨g3, g4⟩ := wipE_get h2 (fun z => nomatch z)
    rw [wipe_out g1] at h3; rw [wipe_out g3] at h4
    exact er.inj i j q d d' g2 g4 h3 h4
  · rw [wipe_out (fun z => hT _ z q hq rfl)]; exact er.pin q hq
theorem ER.rst (er : ER K mg T e2 (wipe σ vs) H F2) (er1 : ER K mg T e1 σ H1 F1) (mv : Mv e1 σ H1 F1 e2 (wipe σ vs) H F2) (hl : e2.length = e1.length) : ER K mg T (Sr.rst vs e1 e2) σ H F2 ∧ Mv e1 σ H1 F1 (Sr.rst vs e1 e2) σ H F2 := by
  have ow : ∀ j d, (Sr.rst vs e1 e2)[j]? = some (.own d) → j ∉ vs ∧ e2[j]? = some (.own d) := fun j d h => by
    rcases rst_get h (fun z => nomatch z) with h1 | ⟨⟨d', h1⟩, _⟩
    · exact h1
    · cases h1
  refine ⟨⟨er.sub, fun i d h => ?_, fun i d h => ?_, fun i j q d d' h1 h2 h3 h4 => ?_, by rw [rst_len, hl]; exact er1.len, er1.pin⟩, mv.sub, fun a u h n => ?_, mv.new, mv.there⟩
  · rcases rst_get h (fun z => nomatch z) with ⟨h1, h2⟩ | ⟨_, h2⟩
    · obtain ⟨v, h3, h4⟩ := er.val i d h2
      exact ⟨v, by rw [wipe_out h1] at h3; exact h3, h4⟩
    · obtain ⟨v, h3, h4⟩ := er1.val i d h2
      exact ⟨v, h3, Rp.mono mv.sub _ _ h4⟩
  · obtain ⟨h1, h2⟩ := ow i d h
    obtain ⟨v, h3, h4⟩ := er.own i d h2
    exact ⟨v, by rw [wipe_out h1] at h3; exact h3, h4⟩
  · obtain ⟨g1, g2⟩ := ow i d h1
    obtain ⟨g3, g4⟩ := ow j d' h2
    exact er.inj i j q d d' g2 g4 (by rw [wipe_out g1]; exact h3) (by rw [wipe_out g3]; exact h4)
  · obtain ⟨h1, h2⟩ := mv.keep a u h n
    refine ⟨h1, fun ⟨j, d, q1, q2⟩ => h2 ?_⟩
    obtain ⟨g1, g2⟩ := ow j d q1
    exact ⟨j, d, g2, by rw [wipe_out g1]; exact q2⟩
end
def TH (K : PySem.W.Frag) (mg : Str → Option Value) (T : Pn) (vs : List Nat) (w : D → M Unit) : TG := fun v σ H Q => ∃ e F d, ER K mg T e σ H F ∧ Rp K mg F d v ∧
  match w d e with
  | .ok _ e' => ∀ σ' H' F', ER K mg T e' σ' H' F' → Mv e σ H F e' σ' H' F' → wipe σ' vs = wipe σ vs → Q σ' H'
  | _ => False
def THs (K : PySem.W.Frag) (mg : Str → Option Value) (T : Pn) (vs : List Nat) (w : List D → M Unit) : TGs := fun us σ H Q => ∃ e F ds, ER K mg T e σ H F ∧ RpL K mg F ds us ∧
  match w ds e with
  | .ok _ e' => ∀ σ' H' F', ER K mg T e' σ' H' F' → Mv e σ H F e' σ' H' F' → wipe σ' vs = wipe σ vs → Q σ' H'
  | _ => False
abbrev JH (X : Cx) (T : Pn) (vs : List Nat) (tg : Expr) (w : D → M Unit) : Prop := PG X tg (TH X.K X.mg T vs w)
abbrev JHs (X : Cx) (T : Pn) (vs : List Nat) (tg : List Expr) (w : List D → M Unit) : Prop := PGs X tg (THs X.K X.mg T vs w)
def lcL (w : D → M Unit) (t : M Bool) (el : M D) (vs : List Nat) : List D → List D → M (List D)
  | [], acc => ret acc
  | d :: ds, acc => bnd (w d) fun _ => bnd t fun b => if b = true then bnd el fun y => (if acc.length < sizeLine then fun e => lcL w t el vs ds (acc ++ [y]) (wipE vs e) else fun _ => .bad) else fun e => lcL w t el vs ds acc (wipE vs e)
def mLc (vs : List Nat) (m : M (List D)) (w : D → M Unit) (t : M Bool) (el : M D) : M D := bnd m fun ds e1 => match lcL w t el vs ds [] (wipE vs e1) with
  | .ok acc e2 => .ok (.lst acc) (rst vs e1 e2)
  | _ => .bad
def mYes : M Bool := ret true
theorem bnd_inv {A B : Type} {m : M A} {f : A → M B} {e e2 : En} {b : B} (h : bnd m f e = .ok b e2) : ∃ a e1, m e = .ok a e1 ∧ f a e1 = .ok b e2 := by
  unfold bnd at h
  cases q : m e with
  | ok a e1 => rw [q] at h; exact ⟨a, e1, rfl, h⟩
  | exc x e1 => rw [q] at h; cases h
  | bad => rw [q] at h; cases h
theorem RunAt.of {K : PySem.W.Frag} {mg : Str → Option Value} {T : Pn} {W : WX} {A : Type} {m : M A} {e e1 : En} {σ : St} {H F : Hp} {x : A} {P : A → En → Hp → Hp → Prop} (q : m e = .ok x e1) (h : ∀ H' F', ER K mg T e1 σ H' F' → Mv e σ H F e1 σ H' F' → P x e1 H' F') : RunAt K mg T W e F m σ H P := by
  unfold RunAt
  rw [q]
  exact h
section
variable {X : Cx} {T : Pn} {W : WX} {pos : Pos}
theorem jh_name {i : Nat} {x : Str} {vs : List Nat} (hT : NoP T i) (hN : X.N.Nodup) (hi : X.N[i]? = some x) (hx : Loc X.env.scope x) (hm : i ∈ vs) (hf : X.fn x = true ∨ X.env.scope.names.lookup x = some .local := by first | exact .inl rfl | exact .inr rfl | assumption) : JH X T vs (.Name x pos) (gN i) := by
  refine ⟨fun pins s σ H v u Q I r h => (pg_name hN hi hx hf).run pins s σ H v u Q I r ?_⟩
  obtain ⟨e, F, d, er, rd, h⟩ := h
  obtain ⟨er2, mv2⟩ := er.setV hT rd
  exact h _ H F er2 mv2 (wipe_set hm)
theorem jhs_nil {vs : List Nat} : JHs X T vs [] gsN := by
  refine ⟨fun pins s σ H us u Q I r h => pgs_nil.run pins s σ H us u Q I r ?_⟩
  obtain ⟨e, F, ds, er, rd, h⟩ := h
  cases ds with
  | nil => rw [rl_nil] at rd; exact ⟨rd, h σ H F er Mv.refl rfl⟩
  | cons d ds => exact h.elim
theorem jhs_cons {e : Expr} {es : List Expr} {vs : List Nat} {w : D → M Unit} {ws : List D → M Unit} (h1 : JH X T vs e w) (h2 : JHs X T vs es ws)
    (hs : (assignEach (e :: es) X.env).map (·.2) = assign e X.env :: (assignEach es X.env).map (·.2) := by rfl) : JHs X T vs (e :: es) (gsC w ws) := by
  refine ⟨fun pins s σ H us u Q I r h => (pgs_cons h1 h2 hs).run pins s σ H us u Q I r ?_⟩
  obtain ⟨e, F, ds, er, rd, h⟩ := h
  cases ds with
  | nil => exact h.elim
  | cons d ds =>
    rw [rl_cons] at rd
    obtain ⟨v, us, rfl, rd, rl⟩ := rd
    refine ⟨v, us, rfl, e, F, d, er, rd, ?_⟩
    simp only [gsC, bnd] at h
    cases q : w d e with
    | ok u e1 =>
      rw [q] at h
      dsimp only at h ⊢
      intro σ1 H1 F1 er1 mv1 w1
      refine ⟨e1, F1, ds, er1, RpL.mono mv1.sub _ _ rl, ?_⟩
      cases q2 : ws ds e1 with
      | ok u e2 => rw [q2] at h; exact fun σ' H' F' er' mv' w2 => h σ' H' F' er' (mv1.trans mv') (w2.trans w1)
      | exc x e2 => rw [q2] at h; exact h
      | bad => rw [q2] at h; exact h
    | exc x e1 => rw [q] at h; exact h
    | bad => rw [q] at h; exact h
theorem jh_tup {es : List Expr} {k : Nat} {vs : List Nat} {ws : List D → M Unit} {n : Nat} (hc : X.calm = true) (h : JHs X T vs es ws)
    (hn : (assignEach es X.env).length = n := by rfl) (hst : (assignEach es X.env).findIdx? (·.1) = none := by rfl) : JH X T vs (.Tuple es k pos) (gT n ws) := by
  refine ⟨fun pins s σ H v u Q I r q => (pg_tup hc h hn hst).run pins s σ H v u Q I r ?_⟩
  obtain ⟨e, F, d, er, rd, q⟩ := q
  unfold gT at q
  split at q
  · rename_i u e' hh
    split at hh
    · rename_i ds
      rw [rp_tup] at rd
      obtain ⟨a, xs, rfl, rd, rl⟩ := rd
      split at hh
      · rename_i hl
        refine ⟨a, xs, rfl, seqT_mono er.sub rd, by rw [← rl.len]; exact hl, e, F, ds, er, rl, ?_⟩
        rw [hh]; exact q
      · cases hh
    · cases hh
  · exact q.elim
abbrev JTs (X : Cx) (T : Pn) (W : WX) (ifs : List Expr) (m : M Bool) : Prop := PTs X ifs (TT' X.K X.mg T W m)
theorem jts_nil : JTs X T W [] mYes := ⟨fun pins s σ H Q I ⟨e, F, er, h⟩ => pts_nil.run pins s σ H Q I (h H F er Mv.refl)⟩
theorem jts_one {c : Expr} {t : M Bool} (h : JT X T W c t) : JTs X T W [c] t := pts_one h
theorem lcL_len {w : D → M Unit} {t : M Bool} {el : M D} {vs : List Nat} (hl : ∀ d e a e', w d e = .ok a e' → e'.length = e.length) (ht : ∀ e b e', t e = .ok b e' → e'.length = e.length) (he : ∀ e y e', el e = .ok y e' → e'.length = e.length) : ∀ (ds acc : List D) (e : En) (r : List D) (e' : En), lcL w t el vs ds acc e = .ok r e' → e'.length = e.length
  | [], acc, e, r, e', h => by cases h; rfl
  | d :: ds, acc, e, r, e', h => by
    unfold lcL at h
    obtain ⟨_, e1, h1, h⟩ := bnd_inv h
    obtain ⟨b, e2, h2, h⟩ := bnd_inv h
    split at h
    · obtain ⟨y, e3, h3, h⟩ := bnd_inv h
      split at h
      · rw [lcL_len hl ht he ds _ _ r e' h, wipE_len, he _ _ _ h3, ht _ _ _ h2, hl _ _ _ _ h1]
      · cases h
    · rw [lcL_len hl ht he ds _ _ r e' h, wipE_len, ht _ _ _ h2, hl _ _ _ _ h1]
theorem lc_imp {vs : List Nat} {m : M (List D)} {w : D → M Unit} {t : M Bool} {el : M D} {σ : St} {H : Hp} {Q : VK} (hT : ∀ v ∈ vs, NoP T v) (h : TO X.K X.mg T W (mLc vs m w t el) σ H Q) : tLc (TIt X.K X.mg T W m) (TH X.K X.mg T vs w) (TT' X.K X.mg T W0 t) (TV X.K X.mg T W0 el) vs σ H Q := by
  obtain ⟨e, F, er, h⟩ := h
  refine ⟨e, F, er, h.bind.mono fun ds e1 H1 F1 er1 mv1 h1 J wk D hD => ?_⟩
  obtain ⟨G, Y, wlk, hG, hY⟩ := wk
  unfold RunAt at h1
  cases q : lcL w t el vs ds [] (wipE vs e1) with
  | exc x e2 => simp only [q] at h1
  | bad => simp only [q] at h1
  | ok acc eF =>
    simp only [q] at h1
    obtain ⟨erw, mvw⟩ := er1.wip (vs := vs) hT
    have fD : F1 D = none := er1.sub.free hD
    have nD : ¬ Ow (wipE vs e1) (wipe σ vs) D := Ow.ne_of_free erw hD
    refine lc_it wlk (fun i H' => ∃ e2 F2 ac xs, ER X.K X.mg T e2 (wipe σ vs) H' F2 ∧ Mv e1 σ H1 F1 e2 (wipe σ vs) H' F2 ∧ F2 D = none ∧ ¬ Ow e2 (wipe σ vs) D ∧ H' D = some (.lst xs) ∧ RpL X.K X.mg F2 ac xs ∧ lcL w t el vs (ds.drop i) ac e2 = .ok acc eF)
      ⟨wipE vs e1, F1, [], [], erw.updFree fD nD, mvw.updNew hD, fD, nD, upd_same, by rw [rl_nil], q⟩ (fun i H' _ ⟨e2, F2, ac, xs, er2, mv2, _⟩ => hG H' (mv2.sub.trans er2.sub)) ?_ ?_
    · rintro i x H2 H3 hi ⟨e2, F2, ac, xs, er2, mv2, fD2, nD2, hD2, rl2, q2⟩ y
      obtain ⟨F3, d, al, hd, rd⟩ := hY i H2 F2 x H3 hi mv2.sub er2.sub y
      have er3 := er2.al al
      have mv3 := mv2.trans (Mv.al er2 al)
      have keepD : ∀ {e4 : En} {σ4 : St} {H4 F4 : Hp}, Mv e2 (wipe σ vs) H2 F2 e4 σ4 H4 F4 → H4 D = some (.lst xs) ∧ ¬ Ow e4 σ4 D ∧ F4 D = none := fun {e4 σ4 H4 F4} mv => by
        obtain ⟨k1, k2⟩ := mv.keep D _ hD2 nD2
        refine ⟨k1, k2, ?_⟩
        cases z : F4 D with
        | none => rfl
        | some u =>
          rcases mv.new D u z with z | z | z
          · rw [fD2] at z; cases z
          · rw [hD2] at z; cases z
          · exact (nD2 z).elim
      have hdr : ds.drop i = d :: ds.drop (i + 1) := by
        rw [List.drop_eq_getElem_cons hi]
        have : ds[i] = d := by rw [List.getElem?_eq_getElem hi] at hd; exact Option.some.inj hd
        rw [this]
      rw [hdr] at q2
      unfold lcL at q2
      obtain ⟨_, e4, w4, q2⟩ := bnd_inv q2
      obtain ⟨b, e5, t5, q2⟩ := bnd_inv q2
      refine ⟨e2, F3, d, er3, rd, ?_⟩
      rw [w4]
      intro σ4 H4 F4 er4 mv4 ws
      refine ⟨ws.trans (by refine List.ext_getElem? fun j => ?_; rw [wipe_get, wipe_get, wipe_length]; by_cases hj : j ∈ vs ∧ j < σ.length <;> simp only [hj, if_true, if_false, and_self]), e4, F4, er4, RunAt.of t5 fun H5 F5 er5 mv5 => ?_⟩
      cases b with
      | false =>
        rw [if_neg (by decide)] at q2 ⊢
        have mm := ((Mv.al er2 al).trans mv4).trans mv5
        obtain ⟨k1, k2, k3⟩ := keepD mm
        obtain ⟨er6, mv6⟩ := er5.wip (vs := vs) hT
        have wz : wipe σ4 vs = wipe σ vs := ws.trans (by refine List.ext_getElem? fun j => ?_; rw [wipe_get, wipe_get, wipe_length]; by_cases hj : j ∈ vs ∧ j < σ.length <;> simp only [hj, if_true, if_false, and_self])
        rw [wz] at er6 mv6
        have mm2 := mm.trans mv6
        obtain ⟨_, k2', _⟩ := keepD mm2
        exact ⟨_, F5, ac, xs, er6, mv2.trans mm2, k3, k2', k1, RpL.mono mm.sub _ _ rl2, q2⟩
      | true =>
        rw [if_pos rfl] at q2 ⊢
        obtain ⟨y', e6, el6, q2⟩ := bnd_inv q2
        refine ⟨e5, F5, er5, RunAt.of el6 fun H6 F6 er6 mv6 v hv => ?_⟩
        have mm := (((Mv.al er2 al).trans mv4).trans mv5).trans mv6
        obtain ⟨k1, k2, k3⟩ := keepD mm
        split at q2
        · rename_i hz
          obtain ⟨er7, mv7⟩ := er6.wip (vs := vs) hT
          have wz : wipe σ4 vs = wipe σ vs := ws.trans (by refine List.ext_getElem? fun j => ?_; rw [wipe_get, wipe_get, wipe_length]; by_cases hj : j ∈ vs ∧ j < σ.length <;> simp only [hj, if_true, if_false, and_self])
          rw [wz] at er7 mv7
          have mm2 := mm.trans mv7
          obtain ⟨_, k2', _⟩ := keepD mm2
          have rl6 := RpL.mono mm.sub _ _ rl2
          refine ⟨xs, k1, by rw [← rl2.len]; exact hz, _, F6, ac ++ [y'], xs ++ [v], er7.updFree k3 k2', (mv2.trans mm2).updNew hD, k3, k2', upd_same, rl6.append (by rw [rl_cons]; exact ⟨v, [], rfl, hv, by rw [rl_nil]⟩), q2⟩
        · cases q2
    · rintro H2 ⟨e2, F2, ac, xs, er2, mv2, fD2, nD2, hD2, rl2, q2⟩
      rw [List.drop_length] at q2
      have hl : e2.length = e1.length := by rw [er2.len, wipe_length, er1.len]
      cases q2
      obtain ⟨er3, mv3⟩ := er2.rst er1 mv2 hl
      refine h1 H2 F2 er3 mv3 D (mv1.there D hD) fD2 (fun z => nD2 (by
        obtain ⟨j, d, q1, q2⟩ := z
        rcases rst_get q1 (fun z => nomatch z) with ⟨g1, g2⟩ | ⟨⟨d', g1⟩, _⟩
        · exact ⟨j, d, g2, by rw [wipe_out g1]; exact q2⟩
        · cases g1)) ⟨xs, hD2, rl2⟩
theorem to_tv {K : PySem.W.Frag} {mg : Str → Option Value} {m : M D} {σ : St} {H : Hp} {Q : VK} (h : TV K mg T W m σ H Q) : TO K mg T W m σ H Q := by
  obtain ⟨e, F, er, q⟩ := h
  refine ⟨e, F, er, ?_⟩
  unfold RunAt at q ⊢
  cases z : m e with
  | ok d e1 =>
    rw [z] at q
    intro H' F' er' mv' p hp fp np ow
    obtain ⟨o, ho⟩ := ow.there
    refine q H' (upd F' p o) (er'.freeze fp np ho) ⟨mv'.sub.trans (same_upd fp), mv'.keep, fun a u ha => ?_, mv'.there⟩ _ (ow.rp fp ho)
    by_cases hb : a = p
    · subst hb; exact .inr (.inl hp)
    · rw [upd_ne hb] at ha; exact mv'.new a u ha
  | exc x e1 => rw [z] at q; exact q
  | bad => rw [z] at q; exact q
theorem Pl.blk {k : Nat} {s : Shared} {H : Hp} {scope : Scope} {en : Env} {fp : List Addr} (h : Pl X k) : Pl (X.blk s H scope en fp) k := ⟨h.room, h.gu⟩
section
variable {elt tg iter : Expr} {ifs : List Expr} {scope : Scope} {m : M (List D)} {w : D → M Unit} {t : M Bool} {el : M D} {k : Nat}
theorem jo_lc (own : List (Str × Nat)) (hp : Pl X k) (hc : X.calm = true) (hN : X.N.Nodup) (hT : ∀ v ∈ own.map (·.2), NoP T v) (ok : BlkOk X.N X.env.scope scope own) (hi : JI X T W tg iter m)
    (hg : ∀ (s : Shared) (H : Hp) (C : Addr) (cl : List (Str × Addr)) (fp : List Addr), Pl (X.blk s H scope (compEnvC scope cl C X.env) fp) k → JH (X.blk s H scope (compEnvC scope cl C X.env) fp) T (own.map (·.2)) tg w)
    (ht : ∀ (s : Shared) (H : Hp) (C : Addr) (cl : List (Str × Addr)) (fp : List Addr), Pl (X.blk s H scope (compEnvC scope cl C X.env) fp) k → JTs (X.blk s H scope (compEnvC scope cl C X.env) fp) T W0 ifs t)
    (he : ∀ (s : Shared) (H : Hp) (C : Addr) (cl : List (Str × Addr)) (fp : List Addr), Pl (X.blk s H scope (compEnvC scope cl C X.env) fp) k → JV (X.blk s H scope (compEnvC scope cl C X.env) fp) T W0 elt el) (hs : ∀ x, foldedSetIterable iter X.env x = pure x := by intro _; rfl) :
    JO X T W (.ListComp elt [⟨tg, iter, ifs, 0⟩] scope pos) (mLc (own.map (·.2)) m w t el) :=
  PEimp (pe_lc (g := TH X.K X.mg T (List.map (fun q : Str × Nat => q.2) own) w) (tt := TT' X.K X.mg T W0 t) (te := TV X.K X.mg T W0 el) hc hN hi ok (fun s H C cl fp => hg s H C cl fp hp.blk) (fun s H C cl fp => ht s H C cl fp hp.blk) (fun s H C cl fp => he s H C cl fp hp.blk) hs) fun σ H Q h => lc_imp hT h
theorem js_setLcO {i : Nat} {y : Str} {py spos : Pos} (own : List (Str × Nat)) (hp : Pl X k) (hc : X.calm = true) (hN : X.N.Nodup) (hT : ∀ v ∈ own.map (·.2), NoP T v) (ok : BlkOk X.N X.env.scope scope own) (hTi : NoP T i) (hy : X.N[i]? = some y) (hyl : X.env.scope.names.lookup y = some .local)
    (hsw : swapsWith (.ListComp elt [⟨tg, iter, ifs, 0⟩] scope pos) (some (.Name y py)) spos.line X.env = pure true) (hi : JI X T W tg iter m)
    (hg : ∀ (s : Shared) (H : Hp) (C : Addr) (cl : List (Str × Addr)) (fp : List Addr), Pl (X.blk s H scope (compEnvC scope cl C X.env) fp) k → JH (X.blk s H scope (compEnvC scope cl C X.env) fp) T (own.map (·.2)) tg w)
    (ht : ∀ (s : Shared) (H : Hp) (C : Addr) (cl : List (Str × Addr)) (fp : List Addr), Pl (X.blk s H scope (compEnvC scope cl C X.env) fp) k → JTs (X.blk s H scope (compEnvC scope cl C X.env) fp) T W0 ifs t)
    (he : ∀ (s : Shared) (H : Hp) (C : Addr) (cl : List (Str × Addr)) (fp : List Addr), Pl (X.blk s H scope (compEnvC scope cl C X.env) fp) k → JV (X.blk s H scope (compEnvC scope cl C X.env) fp) T W0 elt el) (hs : ∀ x, foldedSetIterable iter X.env x = pure x := by intro _; rfl) :
    JS X T W (.Assign [.Name y py] (.ListComp elt [⟨tg, iter, ifs, 0⟩] scope pos) spos) (sSetO i (mLc (own.map (·.2)) m w t el)) :=
  PSimp (ps_setLc (g := TH X.K X.mg T (List.map (fun q : Str × Nat => q.2) own) w) (tt := TT' X.K X.mg T W0 t) (te := TV X.K X.mg T W0 el) hc hN hy hyl hsw hi ok (fun s H C cl fp => hg s H C cl fp hp.blk) (fun s H C cl fp => ht s H C cl fp hp.blk) (fun s H C cl fp => he s H C cl fp hp.blk) hs) fun Dn σ H h => lc_imp hT (run_setO hTi h)
theorem js_setLc {i : Nat} {y : Str} {py spos : Pos} (own : List (Str × Nat)) (hp : Pl X k) (hc : X.calm = true) (hN : X.N.Nodup) (hT : ∀ v ∈ own.map (·.2), NoP T v) (ok : BlkOk X.N X.env.scope scope own) (hTi : NoP T i) (hy : X.N[i]? = some y) (hyl : X.env.scope.names.lookup y = some .local)
    (hsw : swapsWith (.ListComp elt [⟨tg, iter, ifs, 0⟩] scope pos) (some (.Name y py)) spos.line X.env = pure true) (hi : JI X T W tg iter m)
    (hg : ∀ (s : Shared) (H : Hp) (C : Addr) (cl : List (Str × Addr)) (fp : List Addr), Pl (X.blk s H scope (compEnvC scope cl C X.env) fp) k → JH (X.blk s H scope (compEnvC scope cl C X.env) fp) T (own.map (·.2)) tg w)
    (ht : ∀ (s : Shared) (H : Hp) (C : Addr) (cl : List (Str × Addr)) (fp : List Addr), Pl (X.blk s H scope (compEnvC scope cl C X.env) fp) k → JTs (X.blk s H scope (compEnvC scope cl C X.env) fp) T W0 ifs t)
    (he : ∀ (s : Shared) (H : Hp) (C : Addr) (cl : List (Str × Addr)) (fp : List Addr), Pl (X.blk s H scope (compEnvC scope cl C X.env) fp) k → JV (X.blk s H scope (compEnvC scope cl C X.env) fp) T W0 elt el) (hs : ∀ x, foldedSetIterable iter X.env x = pure x := by intro _; rfl) :
    JS X T W (.Assign [.Name y py] (.ListComp elt [⟨tg, iter, ifs, 0⟩] scope pos) spos) (sSet i (mLc (own.map (·.2)) m w t el)) :=
  PSimp (ps_setLc (g := TH X.K X.mg T (List.map (fun q : Str × Nat => q.2) own) w) (tt := TT' X.K X.mg T W0 t) (te := TV X.K X.mg T W0 el) hc hN hy hyl hsw hi ok (fun s H C cl fp => hg s H C cl fp hp.blk) (fun s H C cl fp => ht s H C cl fp hp.blk) (fun s H C cl fp => he s H C cl fp hp.blk) hs) fun Dn σ H h => lc_imp hT (to_tv (run_set hTi h))
end
end
end Sr
namespace Sr
open PySem hiding start
open PySem.Spec L2
open PyProof.Rows hiding St
structure Rai (K : PySem.W.Frag) (mg : Str → Option Value) (x : Str) : Prop where
  g : mg x = some (.ref (He.ga K x))
  q : PySem.W.excIn K (He.ga K x) He.veBase "ValueError.__new__" = true
  k : PySem.W.keepIn K (.ref (He.ga K x)) = true
  s : PySem.W.subIn K (.ref (He.ga K x)) (.type "BaseException") = some true
  t : PySem.W.typeIn K (.ref (He.ga K x)) = some (.type "type")
theorem rai_of {K : PySem.W.Frag} {mg : Str → Option Value} {x : Str} (g : mg x = some (.ref (He.ga K x))) (c : (He.Fa.exc x).ok K = true) : Rai K mg x := by
  obtain ⟨h1, h2, h3, h4⟩ := He.exc_ok c
  exact ⟨g, h1, h2, h3, h4⟩
def sRaise (x : Str) : M Fl := fun e => .exc ⟨x, []⟩ e
section
variable {X : Cx} {T : Pn} {W : WX} {pos : Pos}
theorem js_raise {x m : Str} {j : Nat} {p p2 pos' : Pos} (hc : X.calm = true) (tk : Takes X W) (R : Rai X.K X.mg x) (hg : Gl X x) (hdb : (x == ("__debug__" : Str)) = false := by decide) :
    JS X T W (.Raise (some (.Call (.Name x p) [.Constant (.str m) j p2] [] pos')) none pos) (sRaise x) :=
  PSimp (ps_raise hc tk (pmk_own PySem.F.excBase_ValueError R.q R.g R.k (raises_own R.s R.t) hg hdb)) fun Dn σ H ⟨e, F, er, h⟩ => h σ H F _ none er Mv.refl ⟨R.g, .inl ⟨rfl, rfl⟩⟩
end
section
variable {K : PySem.W.Frag} {mg : Str → Option Value} {T : Pn} {e : En} {σ : St} {H F : Hp} {i : Nat}
theorem set_no {j : Nat} {x : Sl} (h : (e.set i .no)[j]? = some x) (n : x ≠ .no) : j ≠ i ∧ e[j]? = some x := by
  by_cases hj : i = j
  · subst hj
    by_cases hl : i < e.length
    · rw [List.getElem?_set_self hl] at h; cases h; exact (n rfl).elim
    · rw [List.getElem?_eq_none (by rw [List.length_set]; omega)] at h; cases h
  · rw [List.getElem?_set_ne hj] at h; exact ⟨fun z => hj z.symm, h⟩
theorem ER.setN (er : ER K mg T e σ H F) (hT : NoP T i) (x : Option V) : ER K mg T (e.set i .no) (σ.set i x) H F ∧ Mv e σ H F (e.set i .no) (σ.set i x) H F := by
  have ne : ∀ {j : Nat}, j ≠ i → (σ.set i x)[j]? = σ[j]? := fun h => List.getElem?_set_ne (Ne.symm h)
  refine ⟨⟨er.sub, fun j d h => ?_, fun j d h => ?_, fun j k q d d' h1 h2 h3 h4 => ?_, by rw [List.length_set, List.length_set]; exact er.len, fun q hq => ?_⟩, Same.refl _, fun a u h n => ⟨h, fun z => n ?_⟩, fun a u h => .inl h, fun a h => h⟩
  · obtain ⟨h1, h2⟩ := set_no h (fun z => nomatch z)
    rw [ne h1]; exact er.val j d h2
  · obtain ⟨h1, h2⟩ := set_no h (fun z => nomatch z)
    rw [ne h1]; exact er.own j d h2
  · obtain ⟨g1, g2⟩ := set_no h1 (fun z => nomatch z)
    obtain ⟨g3, g4⟩ := set_no h2 (fun z => nomatch z)
    rw [ne g1] at h3; rw [ne g3] at h4
    exact er.inj j k q d d' g2 g4 h3 h4
  · rw [ne (hT q hq)]; exact er.pin q hq
  · obtain ⟨j, d, q1, q2⟩ := z
    obtain ⟨g1, g2⟩ := set_no q1 (fun z => nomatch z)
    rw [ne g1] at q2
    exact ⟨j, d, g2, q2⟩
theorem ER.pinned {a : Addr} (er : ER K mg T e σ H F) (h : σ[i]? = some (some (.ref a))) : ER K mg ((i, a) :: T) e σ H F := ⟨er.sub, er.val, er.own, er.inj, er.len, fun q hq => by
  rcases List.mem_cons.mp hq with rfl | hq
  · exact h
  · exact er.pin q hq⟩
theorem ER.unpin {q : Nat × Addr} (er : ER K mg (q :: T) e σ H F) : ER K mg T e σ H F := ⟨er.sub, er.val, er.own, er.inj, er.len, fun z hz => er.pin z (List.mem_cons_of_mem _ hz)⟩
end
def sTry (i : Nat) (ct : Str → Option Bool) (b : M Fl) (su : Ex → M Fl) : M Fl := fun e => match b e with
  | .exc x e1 => match ct x.c with
    | some true => if i < e1.length then (match su x (e1.set i .no) with
      | .ok f e2 => .ok f (e2.set i .no)
      | _ => .bad) else .bad
    | some false => .exc x e1
    | none => .bad
  | o => o
def sTryO (ct : Str → Option Bool) (b : M Fl) (su : Ex → M Fl) : M Fl := fun e => match b e with
  | .exc x e1 => match ct x.c with
    | some true => (match su x e1 with
      | .ok f e2 => .ok f e2
      | _ => .bad)
    | some false => .exc x e1
    | none => .bad
  | o => o
section
variable {X : Cx} {T : Pn} {W : WX} {pos : Pos} {k : Nat}
theorem Pl.tr {pn : List (Addr × Obj)} {xe : Value → Shared → Prop} (h : Pl X k) : Pl (X.tr pn xe) k := ⟨h.room, h.gu⟩
def Cat (K : PySem.W.Frag) (mg : Str → Option Value) (c : Value) (ct : Str → Option Bool) : Prop := ∀ y b, ct y = some b → ∀ cl, mg y = some cl → PySem.W.exmOne K cl c = some b
theorem js_try {x n : Str} {c : Value} {i : Nat} {body suite : List Stmt} {b₀ : Stmt} {np pos' : Pos} {ct : Str → Option Bool} {m : M Fl} {su : Ex → M Fl} (hp : Pl X k)
    (hs : X.stack = X.env :: X.outer) (hf : X.env.frame = some X.env.locals) (hN : X.N.Nodup) (hi : X.N[i]? = some n) (hln : X.env.kindOf n = some .local) (hc : Names X x c) (tk : Takes X W) (hT : NoP T i) (hct : Cat X.K X.mg c ct)
    (hb : ∀ (W' : WX) (pn : List (Addr × Obj)) (xe : Value → Shared → Prop), Pl (X.tr pn xe) k → Takes (X.tr pn xe) W' → PassesOwn (model X.prog X.w) X.A X.env xe → JSs (X.tr pn xe) T W' body m)
    (hsu : ∀ (a : Addr) (oe : Obj) (cls : Value) (d : Option Addr) (pn : List (Addr × Obj)) (ex : Ex), Zc cls d oe → (∃ vs, oe.data = .fields vs) → X.mg ex.c = some cls → (ex.fs = [] → d = none) → JSs (X.suite a ((a, oe) :: pn)) ((i, a) :: T) W0 (b₀ :: suite) (su ex)) :
    JS X T W (.Try body [.ExceptHandler (some (.Name x np)) (some n) (b₀ :: suite) pos'] [] [] pos) (sTry i ct m su) := by
  refine PSimp (ps_try_as (tb := fun W' => TSt X.K X.mg T W' m) (ts := fun a cls d Dn σ H => ∃ ex : Ex, X.mg ex.c = some cls ∧ (ex.fs = [] → d = none) ∧ TSt X.K X.mg ((i, a) :: T) W0 (su ex) Dn σ H) hs hf hN hi hln hc tk (fun W' pn xe h1 h2 => hb W' pn xe hp.tr h1 h2)
    (fun a oe cls d pn h1 h2 => ⟨fun pins s σ H Dn I ⟨ex, g1, g2, h⟩ => (hsu a oe cls d pn ex h1 h2 g1 g2).run pins s σ H Dn I h⟩)) fun Dn σ H ⟨e, F, er, h⟩ => ⟨e, F, er, ?_⟩
  unfold RunS sTry at h
  unfold RunS
  cases q : m e with
  | ok fl e1 => rw [q] at h; cases fl <;> exact h
  | bad => rw [q] at h; exact h
  | exc ex e1 =>
    rw [q] at h
    intro σ1 H1 F1 cl dd er1 mv1 xr
    dsimp only at h ⊢
    cases qc : ct ex.c with
    | none => simp only [qc] at h
    | some b =>
      refine ⟨b, hct _ _ qc _ xr.1, fun hb => ?_, fun hb => ?_⟩
      · subst hb
        simp only [qc] at h
        intro a ha
        by_cases hl : i < e1.length
        · rw [if_pos hl] at h
          obtain ⟨er2, mv2⟩ := er1.setN hT (some (.ref a))
          have er3 := er2.pinned (i := i) (a := a) (List.getElem?_set_self (by rw [← er1.len]; exact hl))
          refine ⟨ex, xr.1, fun z => ?_, e1.set i .no, F1, er3, ?_⟩
          · rcases xr.2 with ⟨_, h2⟩ | ⟨h2, _⟩
            · exact h2
            · exact (h2 z).elim
          · unfold RunS
            cases qs : su ex (e1.set i .no) with
            | bad => simp only [qs] at h
            | exc y e2 => simp only [qs] at h
            | ok f e2 =>
              simp only [qs] at h
              cases f with
              | nx =>
                intro σ2 H2 F2 er4 mv4
                obtain ⟨er5, mv5⟩ := er4.unpin.setN hT none
                exact h _ H2 F2 er5 (((mv1.trans mv2).trans mv4).trans mv5)
              | bk =>
                intro σ2 H2 F2 er4 mv4
                obtain ⟨er5, mv5⟩ := er4.unpin.setN hT none
                exact h _ H2 F2 er5 (((mv1.trans mv2).trans mv4).trans mv5)
              | ct =>
                intro σ2 H2 F2 er4 mv4
                obtain ⟨er5, mv5⟩ := er4.unpin.setN hT none
                exact h _ H2 F2 er5 (((mv1.trans mv2).trans mv4).trans mv5)
              | rt d =>
                intro σ2 H2 F2 v er4 mv4 rv
                obtain ⟨er5, mv5⟩ := er4.unpin.setN hT none
                exact h _ H2 F2 v er5 (((mv1.trans mv2).trans mv4).trans mv5) rv
              | ro d =>
                intro σ2 H2 F2 p er4 mv4 hp fp np ow
                obtain ⟨er5, mv5⟩ := er4.unpin.setN hT none
                refine h _ H2 F2 p er5 (((mv1.trans mv2).trans mv4).trans mv5) ((mv1.trans mv2).there p hp) fp (fun z => np ?_) ow
                obtain ⟨j, d', q1, q2⟩ := z
                obtain ⟨g1, g2⟩ := set_no q1 (fun z => nomatch z)
                rw [List.getElem?_set_ne (Ne.symm g1)] at q2
                exact ⟨j, d', g2, q2⟩
        · rw [if_neg hl] at h; exact h.elim
      · subst hb
        simp only [qc] at h
        exact h σ1 H1 F1 cl dd er1 mv1 xr
theorem js_tryO {x : Str} {c : Value} {body suite : List Stmt} {b₀ : Stmt} {np pos' : Pos} {ct : Str → Option Bool} {m : M Fl} {su : Ex → M Fl} (hp : Pl X k)
    (hs : X.stack = X.env :: X.outer) (hf : X.env.frame = some X.env.locals) (hc : Names X x c) (tk : Takes X W) (hct : Cat X.K X.mg c ct)
    (hb : ∀ (W' : WX) (pn : List (Addr × Obj)) (xe : Value → Shared → Prop), Pl (X.tr pn xe) k → Takes (X.tr pn xe) W' → PassesOwn (model X.prog X.w) X.A X.env xe → JSs (X.tr pn xe) T W' body m)
    (hsu : ∀ (a : Addr) (oe : Obj) (cls : Value) (d : Option Addr) (pn : List (Addr × Obj)) (ex : Ex), Zc cls d oe → (∃ vs, oe.data = .fields vs) → JSs (X.suite a ((a, oe) :: pn)) T W0 (b₀ :: suite) (su ex)) :
    JS X T W (.Try body [.ExceptHandler (some (.Name x np)) none (b₀ :: suite) pos'] [] [] pos) (sTryO ct m su) := by
  refine PSimp (ps_try_only (tb := fun W' => TSt X.K X.mg T W' m) (ts := fun a cls d Dn σ H => ∃ ex : Ex, TSt X.K X.mg T W0 (su ex) Dn σ H) hs hf hc tk (fun W' pn xe h1 h2 => hb W' pn xe hp.tr h1 h2)
    (fun a oe cls d pn h1 h2 => ⟨fun pins s σ H Dn I ⟨ex, h⟩ => (hsu a oe cls d pn ex h1 h2).run pins s σ H Dn I h⟩)) fun Dn σ H ⟨e, F, er, h⟩ => ⟨e, F, er, ?_⟩
  unfold RunS sTryO at h
  unfold RunS
  cases q : m e with
  | ok fl e1 => rw [q] at h; cases fl <;> exact h
  | bad => rw [q] at h; exact h
  | exc ex e1 =>
    rw [q] at h
    intro σ1 H1 F1 cl dd er1 mv1 xr
    dsimp only at h ⊢
    cases qc : ct ex.c with
    | none => simp only [qc] at h
    | some b =>
      refine ⟨b, hct _ _ qc _ xr.1, fun hb => ?_, fun hb => ?_⟩
      · subst hb
        simp only [qc] at h
        intro a ha
        refine ⟨ex, e1, F1, er1, ?_⟩
        unfold RunS
        cases qs : su ex e1 with
        | bad => simp only [qs] at h
        | exc y e2 => simp only [qs] at h
        | ok f e2 =>
          simp only [qs] at h
          cases f with
          | nx => exact fun σ2 H2 F2 er4 mv4 => h _ H2 F2 er4 (mv1.trans mv4)
          | bk => exact fun σ2 H2 F2 er4 mv4 => h _ H2 F2 er4 (mv1.trans mv4)
          | ct => exact fun σ2 H2 F2 er4 mv4 => h _ H2 F2 er4 (mv1.trans mv4)
          | rt d => exact fun σ2 H2 F2 v er4 mv4 rv => h _ H2 F2 v er4 (mv1.trans mv4) rv
          | ro d => exact fun σ2 H2 F2 p er4 mv4 hp fp np ow => h _ H2 F2 p er4 (mv1.trans mv4) (mv1.there p hp) fp np ow
      · subst hb
        simp only [qc] at h
        exact h σ1 H1 F1 cl dd er1 mv1 xr
def IsE (K : PySem.W.Frag) (mg : Str → Option Value) (cv : Value) (tbl : List (Str × Bool)) : Prop := ∀ c b, tbl.lookup c = some b → ∃ C, mg c = some (.ref C) ∧ ExcC K C ∧ PySem.W.kitOne K (.ref C) cv = some b
def mIsE (tbl : List (Str × Bool)) (ex : Ex) : M D := opt (if ex.fs.isEmpty = true then (tbl.lookup ex.c).map .bl else none)
theorem jv_isE {a : Addr} {oe : Obj} {cls : Value} {d : Option Addr} {pn : List (Addr × Obj)} {ex : Ex} {i : Nat} {n y : Str} {p p1 p2 : Pos} {cv : Value} {c : V} {tbl : List (Str × Bool)} {ty : TE} (hi : IsE X.K X.mg cv tbl) (hz : Zc cls d oe) (hfs : ∃ vs, oe.data = .fields vs) (hm : X.mg ex.c = some cls) (hd0 : ex.fs = [] → d = none)
    (hcv : ∀ u, RelV c u → u = cv) (hy : PE (X.suite a ((a, oe) :: pn)) (.Name y p2) ty) (hty : ∀ σ H Q, Q c H → ty σ H Q)
    (hg : Gl X "isinstance") (hmi : X.mg "isinstance" = none) (hN : X.N[i]? = some n) (hv : Vis X.env.scope n) (hdn : (n == ("__debug__" : Str)) = false := by decide) (hcd : (n == ("__classdict__" : Str)) = false := by decide)
    (he : starEach [.Name n p1, .Name y p2] X.env = (false, eval (.Name n p1) X.env) :: starEach [.Name y p2] X.env := by rfl) (he2 : starEach [.Name y p2] X.env = (false, eval (.Name y p2) X.env) :: starEach [] X.env := by rfl) :
    JV (X.suite a ((a, oe) :: pn)) ((i, a) :: T) W (.Call (.Name "isinstance" p) [.Name n p1, .Name y p2] [] pos) (mIsE tbl ex) := by
  by_cases hfe : ex.fs.isEmpty = true
  · cases q : tbl.lookup ex.c with
    | none => exact ⟨fun pins s σ H Q I ⟨e, F, er, h⟩ => by unfold RunAt mIsE opt at h; rw [if_pos hfe, q] at h; exact h.elim⟩
    | some b =>
      obtain ⟨C, h1, h2, h3⟩ := hi _ _ q
      rw [hm] at h1; cases h1
      obtain rfl := hd0 (List.isEmpty_iff.mp hfe)
      refine PEimp (pe_callB (X := X.suite a ((a, oe) :: pn)) (call_isE (X := X) h2 hz hfs) hg hmi (by decide +kernel) (pa_cons (pe_var (X := X.suite a ((a, oe) :: pn)) hN hv hdn hcd) (pa_cons hy pa_nil he2) he) (by decide) (by decide) he (by rfl)) fun σ H Q ⟨e, F, er, h⟩ => ?_
      unfold mIsE at h
      rw [if_pos hfe, q] at h
      obtain ⟨z, hz', fin⟩ := h.fin er
      cases hz'
      refine ⟨_, er.pin (i, a) List.mem_cons_self, hty σ H _ ⟨c, cv, b, rfl, hcv, h3, ?_⟩⟩
      exact fin H F Al.refl _ (by rw [rp_bl])
  · exact ⟨fun pins s σ H Q I ⟨e, F, er, h⟩ => by unfold RunAt mIsE opt at h; rw [if_neg hfe] at h; exact h.elim⟩
end
def excB (K : PySem.W.Frag) (x : Str) : Bool :=
  decide (PySem.W.findIn K (.ref (He.ga K x)) "__getattribute__" = some (some (.builtin "BaseException.__getattribute__"))) && (decide (PySem.W.findIn K (.ref (He.ga K x)) "__getattr__" = some none) &&
    (decide (PySem.W.subIn K (.ref (He.ga K x)) (.type "BaseException") = some true) && (PySem.W.hasDictIn K (He.ga K x) && cliB K x)))
theorem excB_ok {K : PySem.W.Frag} {x : Str} (h : excB K x = true) : ExcC K (He.ga K x) := by
  unfold excB cliB at h
  simp only [Bool.and_eq_true, decide_eq_true_eq] at h
  exact ⟨h.1, h.2.1, h.2.2.1, h.2.2.2.1, h.2.2.2.2.1, h.2.2.2.2.2.1, h.2.2.2.2.2.2.1, h.2.2.2.2.2.2.2⟩
def catB (K : PySem.W.Frag) (u : Value) (l : List (Str × Bool)) : Bool := l.all fun q => decide (PySem.W.exmOne K (.ref (He.ga K q.1)) u = some q.2)
theorem cat_of {K : PySem.W.Frag} {mg : Str → Option Value} {u : Value} {l : List (Str × Bool)} (h : catB K u l = true) (hg : ∀ q ∈ l, mg q.1 = some (.ref (He.ga K q.1))) : Cat K mg u fun y => l.lookup y := by
  intro y b e cl hm
  have hq : (y, b) ∈ l := PySem.mem_of_lookup e
  rw [hg _ hq] at hm
  cases hm
  exact of_decide_eq_true (List.all_eq_true.mp h (y, b) hq)
def exsB (K : PySem.W.Frag) (u : Value) (l : List (Str × Bool)) : Bool := l.all fun q => excB K q.1 && decide (PySem.W.kitOne K (.ref (He.ga K q.1)) u = some q.2)
theorem isE_of {K : PySem.W.Frag} {mg : Str → Option Value} {u : Value} {l : List (Str × Bool)} (h : exsB K u l = true) (hg : ∀ q ∈ l, mg q.1 = some (.ref (He.ga K q.1))) : IsE K mg u l := by
  intro c b e
  have hq : (c, b) ∈ l := PySem.mem_of_lookup e
  have z := List.all_eq_true.mp h (c, b) hq
  rw [Bool.and_eq_true] at z
  exact ⟨_, hg _ hq, excB_ok z.1, of_decide_eq_true z.2⟩
end Sr
namespace Sr
open PySem hiding start
open PySem.Spec L2
open PyProof.Rows hiding St
section
variable {K : PySem.W.Frag} {mg : Str → Option Value} {F : Hp}
def cutD (ds : List D) (lo hi : Option Int) : List D := (ds.drop (HT.sIx ds.length 0 lo)).take (HT.sIx ds.length ds.length hi - HT.sIx ds.length 0 lo)
theorem RpL.cut {ds : List D} {xs : List V} (h : RpL K mg F ds xs) (lo hi : Option Int) : RpL K mg F (cutD ds lo hi) (cutV xs lo hi) := by
  unfold cutD cutV
  rw [h.len]
  exact (h.drop _).take _
end
def gSl : D → Option Int → Option Int → Option D
  | .lst ds, lo, hi => some (.lst (cutD ds lo hi))
  | .tup ds, lo, hi => some (.tup (cutD ds lo hi))
  | .str z, lo, hi => if z.length ≤ sizeLine then some (.str (cutS z lo hi)) else none
  | _, _, _ => none
def mSl (m : M D) (ml mh : M (Option Int)) : M D := bnd m fun d => bnd ml fun l => bnd mh fun h => opt (gSl d l h)
def mNoP : M (Option Int) := ret none
def asI : D → Option (Option Int)
  | .int i => some (some i)
  | _ => none
def mPart (m : M D) : M (Option Int) := bnd m fun d => opt (asI d)
def TPt (K : PySem.W.Frag) (mg : Str → Option Value) (T : Pn) (W : WX) (m : M (Option Int)) : L2.TO := fun σ H Q => ∃ e F, ER K mg T e σ H F ∧ RunAt K mg T W e F m σ H fun o _ H' F' => Q o H'
abbrev JP (X : Cx) (T : Pn) (W : WX) (e : Option Expr) (m : M (Option Int)) : Prop := PO X e (TPt X.K X.mg T W m)
theorem POimp {X : Cx} {e : Option Expr} {t t' : L2.TO} (h : PO X e t) (k : ∀ σ H Q, t' σ H Q → t σ H Q) : PO X e t' := ⟨fun pins s σ H Q I q => h.run pins s σ H Q I (k σ H Q q)⟩
section
variable {X : Cx} {T : Pn} {W : WX} {pos p2 : Pos} {a : Expr} {ma : M D} {lo hi : Option Expr} {ml mh : M (Option Int)}
theorem jp_none : JP X T W none mNoP := POimp po_none fun σ H Q ⟨e, F, er, h⟩ => h.rfin er H F Al.refl
theorem jp_some (ha : JV X T W a ma) : JP X T W (some a) (mPart ma) := by
  refine POimp (po_some ha) fun σ H Q ⟨e, F, er, h⟩ => ⟨e, F, er, h.bind.mono fun d e1 H1 F1 er1 mv1 h1 v hv => ?_⟩
  obtain ⟨z, hz, fin⟩ := h1.fin er1
  unfold asI at hz
  split at hz
  · cases hz
    rw [rp_int] at hv
    exact ⟨_, hv, fin H1 F1 Al.refl⟩
  · cases hz
theorem jv_slice (ha : JV X T W a ma) (hl : JP X T W lo ml) (hh : JP X T W hi mh) : JV X T W (.Subscript a (.Slice lo hi none p2) pos) (mSl ma ml mh) := by
  refine PEimp (pe_slice (sl_list.or (sl_tupA.or sl_str)) ha hl hh) fun σ H Q ⟨e, F, er, h⟩ => ⟨e, F, er, h.bind.mono fun d e1 H1 F1 er1 mv1 h1 v hv => ⟨e1, F1, er1, h1.bind.mono fun l e2 H2 F2 er2 mv2 h2 => ⟨e2, F2, er2, h2.bind.mono fun u e3 H3 F3 er3 mv3 h3 => ?_⟩⟩⟩
  obtain ⟨z, hz, fin⟩ := h3.fin er3
  have hv := Rp.mono (mv2.sub.trans mv3.sub) _ _ hv
  cases d with
  | lst ds =>
    cases hz
    rw [rp_lst] at hv
    obtain ⟨b, xs, rfl, hb, lr⟩ := hv
    refine .inl ⟨b, xs, rfl, SqL.of (er3.sub _ _ hb), fun p hp => fin _ _ (Al.one hp) _ ?_⟩
    rw [rp_lst]
    exact ⟨p, _, rfl, upd_same, RpL.mono (same_upd (er3.sub.free hp)) _ _ (lr.cut _ _)⟩
  | tup ds =>
    cases hz
    rw [rp_tup] at hv
    obtain ⟨b, xs, rfl, hb, lr⟩ := hv
    refine .inr (.inl ⟨b, xs, rfl, seqT_mono er3.sub hb, fun hw => fin _ _ Al.refl _ ?_, fun hw p hp => fin _ _ (Al.one hp) _ ?_⟩)
    · rw [rp_tup]
      refine ⟨b, xs, rfl, hb, ?_⟩
      have e : cutD ds l u = ds := by
        unfold cutD
        rw [lr.len, hw.1, hw.2, List.drop_zero, Nat.sub_zero, ← lr.len, List.take_length]
      rw [e]; exact lr
    · rw [rp_tup]
      exact ⟨p, _, rfl, SqT.of upd_same, RpL.mono (same_upd (er3.sub.free hp)) _ _ (lr.cut _ _)⟩
  | str z =>
    simp only [gSl] at hz
    split at hz
    · cases hz
      rename_i hzl
      rw [rp_str] at hv
      exact .inr (.inr ⟨z, hv, hzl, fin _ _ Al.refl _ (by rw [rp_str])⟩)
    · cases hz
  | _ => cases hz
end
end Sr
namespace Sr
open PySem hiding start
open PySem.Spec L2
open PyProof.Rows hiding St
def MtD (X : Cx) (id : String) (g : Str → List D → Option D) : Prop :=
  ∀ (H F : Hp) (a : Str) (xs : List V) (ds : List D) (d : D), Same F H → RpL X.K X.mg F ds xs → g a ds = some d →
    ∃ r, MtR X id r ∧ ∀ Q : VK, (∀ H' F' z, Al H F H' F' → Rp X.K X.mg F' d z → Q z H') → r (.str a) xs H Q
def rAnyM (X : Cx) (id : String) : V → List V → Hp → VK → Prop := fun x xs H Q => ∃ r, MtR X id r ∧ r x xs H Q
theorem mtAny {X : Cx} {id : String} : MtR X id (rAnyM X id) := fun pins s σ H x xs v us Q I rx rxs ⟨r, hr, q⟩ => hr pins s σ H x xs v us Q I rx rxs q
def asS : D → Option Str
  | .str z => some z
  | _ => none
def mMt (g : Str → List D → Option D) (m : M D) (ms : M (List D)) : M D := bnd m fun d => bnd (opt (asS d)) fun a => bnd ms fun ds => opt (g a ds)
def mMt0 (g : Str → List D → Option D) (m : M D) : M D := bnd m fun d => bnd (opt (asS d)) fun a => opt (g a [])
section
variable {X : Cx} {T : Pn} {W : WX} {o e : Expr} {es : List Expr} {mo : M D} {ms : M (List D)} {name : Str} {apos cpos : Pos} {id : String} {g : Str → List D → Option D}
theorem jv_mt (slot : Slot "str" name id) (hty : typeOf (.builtin id) = pure (.type "method_descriptor")) (hm : MtD X id g) (ho : JV X T W o mo) (ha : JA X T W (e :: es) ms)
    (hbase : attributeBase o name X.env (eval o X.env) = eval o X.env := by rfl)
    (hfew : ((backTo cpos (starEach (e :: es) X.env)).all (fun x => !x.1) && (backToKw cpos (keywordEach [] X.env)).all (fun x => x.1.isSome)
      && decide ((e :: es).length + ([] : List Keyword).length + (if ([] : List Keyword).isEmpty then 0 else 1) < 30)) = true := by rfl)
    (hline : (apos.endLine == cpos.line) = true := by rfl) (hs : starEach (e :: es) X.env = (false, eval e X.env) :: starEach es X.env := by rfl) (hplain : (backTo cpos (starEach es X.env)).any (·.1) = false := by rfl) :
    JV X T W (.Call (.Attribute o name apos) (e :: es) [] cpos) (mMt g mo ms) := by
  refine PEimp (pe_bm PySem.F.plainAttrs_str slot hty mtAny ho ha hbase hfew hline hs hplain) fun σ H Q ⟨e, F, er, h⟩ => ⟨e, F, er, h.bind.mono fun d e1 H1 F1 er1 mv1 h1 v hv => ?_⟩
  have h2 := h1.bind
  obtain ⟨a, ha', fin⟩ := h2.fin er1
  have h3 := fin H1 F1 Al.refl
  unfold asS at ha'
  split at ha'
  · cases ha'
    rw [rp_str] at hv
    subst hv
    refine ⟨rfl, e1, F1, er1, h3.bind.mono fun ds e2 H2 F2 er2 mv2 h4 vs hvs => ?_⟩
    obtain ⟨z, hz, fin2⟩ := h4.fin er2
    obtain ⟨r, hr, q⟩ := hm H2 F2 _ vs ds z er2.sub hvs hz
    exact ⟨r, hr, q Q fun H' F' z al hz => fin2 H' F' al z hz⟩
  · cases ha'
theorem jv_mt0 (slot : Slot "str" name id) (hty : typeOf (.builtin id) = pure (.type "method_descriptor")) (hm : MtD X id g) (ho : JV X T W o mo)
    (hbase : attributeBase o name X.env (eval o X.env) = eval o X.env := by rfl) (hline : (apos.endLine == cpos.line) = true := by rfl) :
    JV X T W (.Call (.Attribute o name apos) [] [] cpos) (mMt0 g mo) := by
  refine PEimp (pe_bm0 PySem.F.plainAttrs_str slot hty mtAny ho hbase hline) fun σ H Q ⟨e, F, er, h⟩ => ⟨e, F, er, h.bind.mono fun d e1 H1 F1 er1 mv1 h1 v hv => ?_⟩
  have h2 := h1.bind
  obtain ⟨a, ha', fin⟩ := h2.fin er1
  have h3 := fin H1 F1 Al.refl
  unfold asS at ha'
  split at ha'
  · cases ha'
    rw [rp_str] at hv
    subst hv
    obtain ⟨z, hz, fin2⟩ := h3.fin er1
    obtain ⟨r, hr, q⟩ := hm H1 F1 _ [] [] z er1.sub (by rw [rl_nil]) hz
    exact ⟨rfl, r, hr, q Q fun H' F' z al hz => fin2 H' F' al z hz⟩
  · cases ha'
def dStrs : List D → Option (List Str)
  | [] => some []
  | .str z :: ds => (dStrs ds).map (z :: ·)
  | _ :: _ => none
theorem dStrs_vals {K : PySem.W.Frag} {mg : Str → Option Value} {F : Hp} : ∀ {ds : List D} {ys : List Str} {xs : List V}, dStrs ds = some ys → RpL K mg F ds xs → xs = ys.map V.str
  | [], ys, xs, h, l => by cases h; rw [rl_nil] at l; exact l
  | d :: ds, ys, xs, h, l => by
    cases d with
    | str z =>
      simp only [dStrs, Option.map_eq_some_iff] at h
      obtain ⟨ys', h1, rfl⟩ := h
      rw [rl_cons] at l
      obtain ⟨v, vs, rfl, l1, l2⟩ := l
      rw [rp_str] at l1
      rw [l1, dStrs_vals h1 l2]; rfl
    | _ => cases h
def gJoinL (a : Str) (ds : List D) : Option D := match dStrs ds with
  | some ys => if (ys.map (·.length)).sum + ys.length * a.length ≤ 16777216 then some (.str (Txt.join a ys)) else none
  | none => none
def gJoin : Str → List D → Option D
  | a, [.lst ds] => gJoinL a ds
  | a, [.tup ds] => gJoinL a ds
  | _, _ => none
theorem m_join : MtD X "str.join" gJoin := by
  intro H F a xs ds d s l h
  refine ⟨_, mt_join, fun Q q => ?_⟩
  unfold gJoin at h
  split at h
  · rename_i ds'
    unfold gJoinL at h
    split at h
    · rename_i ys hy
      split at h
      · rename_i hz
        cases h
        obtain ⟨v, rfl, r⟩ := rl_one l
        rw [rp_lst] at r
        obtain ⟨p, zs, rfl, hp, lz⟩ := r
        rw [dStrs_vals hy lz] at hp
        exact ⟨a, p, ys, rfl, rfl, .inl (SqL.of (s _ _ hp)), hz, q H F _ Al.refl (by rw [rp_str])⟩
      · cases h
    · cases h
  · rename_i ds'
    unfold gJoinL at h
    split at h
    · rename_i ys hy
      split at h
      · rename_i hz
        cases h
        obtain ⟨v, rfl, r⟩ := rl_one l
        rw [rp_tup] at r
        obtain ⟨p, zs, rfl, hp, lz⟩ := r
        rw [dStrs_vals hy lz] at hp
        exact ⟨a, p, ys, rfl, rfl, .inr (seqT_mono s hp), hz, q H F _ Al.refl (by rw [rp_str])⟩
      · cases h
    · cases h
  · cases h
def gS1 (f : Str → Str → Option D) : Str → List D → Option D
  | a, [.str b] => f a b
  | _, _ => none
theorem m_s1 {id : String} {f : Str → Str → Option D} {r : V → List V → Hp → VK → Prop} (hr : MtR X id r) (hq : ∀ a b d H F (Q : VK), f a b = some d → (∀ z, Rp X.K X.mg F d z → Q z H) → r (.str a) [.str b] H Q) : MtD X id (gS1 f) := by
  intro H F a xs ds d s l h
  refine ⟨r, hr, fun Q q => ?_⟩
  unfold gS1 at h
  split at h
  · obtain ⟨v, rfl, rv⟩ := rl_one l
    rw [rp_str] at rv; subst rv
    exact hq _ _ _ H F Q h fun z hz => q H F z Al.refl hz
  · cases h
def gCount : Str → List D → Option D := gS1 fun a b => some (.int (Txt.count a b))
theorem m_count : MtD X "str.count" gCount := m_s1 mt_count fun a b d H F Q h q => ⟨a, b, rfl, rfl, q _ (by cases h; rw [rp_int])⟩
def gEnds : Str → List D → Option D := gS1 fun a b => some (.bl (Txt.endswith a b))
theorem m_ends : MtD X "str.endswith" gEnds := m_s1 mt_endswith fun a b d H F Q h q => ⟨a, b, rfl, rfl, q _ (by cases h; rw [rp_bl])⟩
def gStarts : Str → List D → Option D := gS1 fun a b => some (.bl (Txt.startswith a b))
theorem m_starts : MtD X "str.startswith" gStarts := m_s1 mt_startswith fun a b d H F Q h q => ⟨a, b, rfl, rfl, q _ (by cases h; rw [rp_bl])⟩
def gStrip : Str → List D → Option D := gS1 fun a b => if a.length ≤ sizeLine then some (.str (Txt.stripChars a b)) else none
theorem m_strip : MtD X "str.strip" gStrip := m_s1 mt_stripChars fun a b d H F Q h q => by
  by_cases hz : a.length ≤ sizeLine
  · rw [if_pos hz] at h; cases h; exact ⟨a, b, rfl, rfl, hz, q _ (by rw [rp_str])⟩
  · rw [if_neg hz] at h; cases h
def gRstrip : Str → List D → Option D := gS1 fun a b => if a.length ≤ sizeLine then some (.str (Txt.rstripChars a b)) else none
theorem m_rstrip : MtD X "str.rstrip" gRstrip := m_s1 mt_rstripChars fun a b d H F Q h q => by
  by_cases hz : a.length ≤ sizeLine
  · rw [if_pos hz] at h; cases h; exact ⟨a, b, rfl, rfl, hz, q _ (by rw [rp_str])⟩
  · rw [if_neg hz] at h; cases h
def gStr : D → Option D
  | .int i => if i.natAbs.log2 < 1920 then some (.str (toString i)) else none
  | .str z => some (.str z)
  | _ => none
theorem c_str : Cal1 X (.type "str") gStr := by
  intro H F x d d' s r h
  cases d with
  | int i =>
    simp only [gStr] at h
    split at h
    · rename_i hz
      cases h
      have r : Rp X.K X.mg F (.int i) x := r
      rw [rp_int] at r; subst r
      exact ⟨_, call_str_int, fun Q q => ⟨i, rfl, hz, q H F _ Al.refl (by rw [rp_str])⟩⟩
    · cases h
  | str z =>
    simp only [gStr] at h
    cases h
    have r : Rp X.K X.mg F (.str z) x := r
    rw [rp_str] at r; subst r
    exact ⟨_, SkE.call_str_str, fun Q q => ⟨z, rfl, q H F _ Al.refl (by rw [rp_str])⟩⟩
  | _ => cases h
def gFmt : D → Option D
  | .int i => if i.natAbs.log2 < 1920 then some (.str (toString i)) else none
  | .str z => if z.length ≤ sizeLine then some (.str z) else none
  | _ => none
theorem jv_fmt {pos : Pos} (ho : JV X T W o mo) : JV X T W (.FormattedValue o (-1) none pos) (m1 gFmt mo) := by
  refine PEimp (pe_fmt ho) fun σ H Q ⟨e, F, er, h⟩ => ⟨e, F, er, h.bind.mono fun d e1 H1 F1 er1 mv1 h1 v hv => ?_⟩
  obtain ⟨z, hz, fin⟩ := h1.fin er1
  cases d with
  | int i =>
    simp only [gFmt] at hz
    split at hz
    · rename_i hl
      cases hz
      rw [rp_int] at hv
      exact .inr ⟨i, hv, hl, fin H1 F1 Al.refl _ (by rw [rp_str])⟩
    · cases hz
  | str y =>
    simp only [gFmt] at hz
    split at hz
    · rename_i hl
      cases hz
      rw [rp_str] at hv
      exact .inl ⟨y, hv, hl, fin H1 F1 Al.refl _ (by rw [rp_str])⟩
    · cases hz
  | _ => cases hz
def mJs : List (M D) → Str → M D
  | [], acc => ret (.str acc)
  | m :: ms, acc => bnd m fun d => bnd (opt (asS d)) fun y => if (acc ++ y).length ≤ sizeLine then mJs ms (acc ++ y) else fun _ => .bad
theorem js_imp {K : PySem.W.Frag} {mg : Str → Option Value} {σ : St} {Q : VK} : ∀ (ms : List (M D)) (acc : Str) (e : En) (H F : Hp), ER K mg T e σ H F → RunAt K mg T W e F (mJs ms acc) σ H (fun d _ H' F' => ∀ v, Rp K mg F' d v → Q v H') → tJs (ms.map (TV K mg T W)) acc σ H fun out H1 => Q (.str out) H1
  | [], acc, e, H, F, er, h => h.rfin er H F Al.refl _ (by rw [rp_str])
  | m :: ms, acc, e, H, F, er, h => by
    refine ⟨e, F, er, h.bind.mono fun d e1 H1 F1 er1 mv1 h1 v hv => ?_⟩
    obtain ⟨y, hy, fin⟩ := h1.bind.fin er1
    have h2 := fin H1 F1 Al.refl
    unfold asS at hy
    split at hy
    · cases hy
      rw [rp_str] at hv
      split at h2
      · rename_i hl
        exact ⟨_, hv, hl, js_imp ms _ e1 H1 F1 er1 h2⟩
      · exact h2.elim
    · cases hy
def JJ (X : Cx) (T : Pn) (W : WX) (es : List Expr) (ms : List (M D)) : Prop := PJ X es (ms.map (TV X.K X.mg T W))
theorem jj_nil : JJ X T W [] [] := .nil
theorem jj_cons {m : M D} {mss : List (M D)} (h : JV X T W e m) (hs : JJ X T W es mss) : JJ X T W (e :: es) (m :: mss) := .cons h hs
theorem jv_js {v1 v2 : Expr} {rest : List Expr} {pos : Pos} {mss : List (M D)} (h : JJ X T W (v1 :: v2 :: rest) mss) : JV X T W (.JoinedStr (v1 :: v2 :: rest) pos) (mJs mss Str.empty) :=
  PEimp (pe_joined h) fun σ H Q ⟨e, F, er, h⟩ => js_imp mss _ e H F er h
end
end Sr
namespace Sr
open PySem hiding start
open PySem.Spec L2
open PyProof.Rows hiding St
structure OwnM (X : Cx) (k : Nat) (c : Str) (C : Addr) (m : Str) (n : Nat) (ps : List Str) (f : Fnc) : Prop where
  cl : Cl X c C
  ex : ∃ fa fd, PySem.W.findIn X.K (.ref C) m = some (some (.ref fa)) ∧ PySem.W.isFn X.K (.ref fa) = true ∧ FnG X.prog X.w X.K X.mg X.base k fa fd ps (spF0 X.K X.mg false n f) ∧ Binds X.K fd ps []
def NotF (K : PySem.W.Frag) (mg : Str → Option Value) (C : Addr) (nf : Str → Bool) : Prop := (∀ k : Kd, PySem.W.notFirst K C (.type k.nm) = true) ∧ ∀ c, nf c = true → ∃ C', ClI K mg c C' ∧ PySem.W.notFirst K C (.ref C') = true
def okK (nf : Str → Bool) (d : D) : Bool := match dKind d with
  | some (.inl _) => true
  | some (.inr c) => nf c
  | none => false
theorem okK_ty {K : PySem.W.Frag} {mg : Str → Option Value} {C : Addr} {nf : Str → Bool} {H F : Hp} {d : D} {v : V} (n : NotF K mg C nf) (s : Same F H) (r : Rp K mg F d v) (h : okK nf d = true) : ∃ t, TyX K H v t ∧ PySem.W.notFirst K C t = true := by
  unfold okK at h
  split at h
  · rename_i k hk
    exact ⟨_, tyx_ok s r hk, n.1 k⟩
  · rename_i c hc
    obtain ⟨C', h1, h2⟩ := n.2 c h
    cases d <;> simp only [dKind, Option.some.injEq, Sum.inr.injEq, reduceCtorEq] at hc
    subst hc
    exact ⟨_, tyx_obj s r h1, h2⟩
  · cases h
def rCmpO (X : Cx) (C : Addr) (sp : Sp) : R2 := fun x y H Q => ∃ a dx fs t, x = .ref a ∧ H a = some (.ins C dx fs) ∧ TyX X.K H y t ∧ PySem.W.notFirst X.K C t = true ∧ sp [x, y] H Q fun _ _ _ => False
theorem op_cmpO {X : Cx} {op : CmpOp} {k : Nat} {C fa : Addr} {fd : FuncData} {ps : List Str} {sp : Sp} (hop : ∀ a b : Value, compareOp op a b = richCompare op a b) (hs : PySem.W.findIn X.K (.ref C) (cmpInfo op).2.1 = some (some (.ref fa))) (hf : PySem.W.isFn X.K (.ref fa) = true)
    (G : FnG X.prog X.w X.K X.mg X.base k fa fd ps sp) (hb : Binds X.K fd ps []) (hr : Room k X.A) (hgu : X.A.guards = some []) : OpR X (compareOp op) (rCmpO X C sp) := by
  intro pins s σ H x y v u Q I rx ry h
  obtain ⟨a, dx, fs, t, rfl, ha, ty, nf, hsp⟩ := h
  obtain rfl : v = Value.ref a := rx
  rw [hop]
  obtain ⟨mA, J, _⟩ := ins_get I.hok ha
  obtain ⟨od, J, _⟩ := J.look
  obtain ⟨m, hF⟩ := I.fr
  obtain ⟨P, kx, hP, _⟩ := kit_of I ry ty
  refine PySem.W.cmp_K (op := op) (tb := t) hr.units0 hF I.ok.mod.kin J (kx.ty _ _ I.kIn hP) nf hs hf ?_
  have r2 : Vals [V.ref a, y] [Value.ref a, u] := .cons (show RelV (V.ref a) (Value.ref a) from rfl) (.cons ry .nil)
  refine wpAny_mono (run_g (W := W0) (dvs := []) (ds := []) G hr hgu hb .nil takes0 I r2 hsp) (fun w s' hw => ?_) fun _ _ e => e
  obtain ⟨z, H', I', rz, q⟩ := hw
  cases w <;> first
    | exact ⟨z, H', I', rz, q⟩
    | (exfalso; cases z <;> first | exact nomatch rz | (obtain ⟨_, e⟩ := rz; exact nomatch e))
def mCmpO (c : Str) (nf : Str → Bool) (f : Fnc) (g : D → D → Option D) (ma mb : M D) : M D := bnd ma fun d1 => bnd mb fun d2 => match d1 with
  | .obj c' fs => if c' = c ∧ okK nf d2 = true then (fun e => match f .non [.obj c' fs, d2] with
    | .ok z _ => .ok z e
    | _ => .bad) else opt (g (.obj c' fs) d2)
  | d1 => opt (g d1 d2)
section
variable {X : Cx} {T : Pn} {W : WX} {pos : Pos} {a b : Expr} {ma mb : M D}
theorem jv_cmpO {op : CmpOp} {k : Nat} {c : Str} {C : Addr} {nf : Str → Bool} {ps : List Str} {f : Fnc} {g : D → D → Option D} {j : Nat} (hop : ∀ a b : Value, compareOp op a b = richCompare op a b) (O : OwnM X k c C (cmpInfo op).2.1 2 ps f) (N : NotF X.K X.mg C nf) (hp : Pl X j) (ho : Op2 X (compareOp op) g) (ha : JV X T W a ma) (hb : JV X T W b mb)
    (hj : k ≤ j := by decide) (hm : behindInMarks op b = false := by first | exact nomark _ | rfl) : JV X T W (.Compare a [op] [b] pos) (mCmpO c nf f g ma mb) := by
  obtain ⟨fa, fd, h1, h2, h3, h4⟩ := O.ex
  refine PEimp (pe_cmpR opAny ha hb hm) fun σ H Q ⟨e, F, er, h⟩ => ⟨e, F, er, h.bind.mono fun d1 e1 H1 F1 er1 mv1 g1 x hx => ⟨e1, F1, er1, g1.bind.mono fun d2 e2 H2 F2 er2 mv2 g2 y hy => ?_⟩⟩
  have hx := Rp.mono mv2.sub _ _ hx
  have plain : ∀ z, RunAt X.K X.mg T W e2 F2 (opt (g d1 d2)) σ H2 (fun d _ H' F' => ∀ v, Rp X.K X.mg F' d v → Q v H') → g d1 d2 = some z → rAny X (compareOp op) x y H2 Q := fun z hh hz => by
    obtain ⟨z', hz', fin⟩ := hh.fin er2
    obtain ⟨r, hr, q⟩ := ho H2 F2 x y d1 d2 z' er2.sub (Rp.rq er2.sub hx) (Rp.rq er2.sub hy) hz'
    exact ⟨r, hr, q Q fun H' F' z al hz => fin H' F' al z hz⟩
  have plain2 : RunAt X.K X.mg T W e2 F2 (opt (g d1 d2)) σ H2 (fun d _ H' F' => ∀ v, Rp X.K X.mg F' d v → Q v H') → rAny X (compareOp op) x y H2 Q := fun hh => by
    obtain ⟨z', hz', _⟩ := hh.fin er2
    exact plain z' hh hz'
  cases d1 with
  | obj c' fs =>
    dsimp only at g2
    by_cases hc : c' = c ∧ okK nf d2 = true
    · rw [if_pos hc] at g2
      obtain ⟨rfl, hk⟩ := hc
      cases q : f .non [.obj c' fs, d2] with
      | ok z o =>
        have hrun : RunAt X.K X.mg T W0 e2 F2 (ap0 f [.obj c' fs, d2]) σ H2 (fun d _ H' F' => ∀ v, Rp X.K X.mg F' d v → Q v H') := by
          refine RunAt.of (x := z) (e1 := e2) (by unfold ap0; rw [q]) fun H' F' er' mv' => ?_
          unfold RunAt at g2
          simp only [q] at g2
          exact g2 H' F' er' mv'
        obtain ⟨t, ty, nft⟩ := okK_ty N er2.sub hy hk
        have hx2 := hx
        rw [rp_obj] at hx2
        obtain ⟨a', C', dx, gs, rfl, m1, m2, _⟩ := hx2
        rw [O.cl.mg] at m1; cases m1
        exact ⟨_, op_cmpO hop h1 h2 h3 h4 (hp.room.mono hj) hp.gu, a', dx, gs, t, rfl, er2.sub _ _ m2, ty, nft, ap0_v hrun er2 (by rw [rl_cons]; exact ⟨_, _, rfl, hx, by rw [rl_cons]; exact ⟨_, _, rfl, hy, by rw [rl_nil]⟩⟩) rfl⟩
      | exc x o => unfold RunAt at g2; simp only [q] at g2
      | bad => unfold RunAt at g2; simp only [q] at g2
    · rw [if_neg hc] at g2
      exact plain2 g2
  | _ => exact plain2 g2
end
section
variable {prog : Program} {w : World} {A : Around} {E : Value → Shared → Prop} {s : Shared} {K : PySem.W.Frag} {x C L f : Addr} {h₀ : Heap} {m : Str → Option Value} {ox : Obj} {od : Option Obj} {b tb : Value}
theorem ne_K {Q : Value → Shared → Prop} (hu : A.units + 1 < cLine) (X : K.In s.heap) (I : PySem.W.InstAt s.heap x ox C od) (hb : PySem.W.Looks (model prog w) s.heap (typeOf b) tb) (hn : PySem.W.notFirst K C tb = true)
    (hne : PySem.W.findIn K (.ref C) "__ne__" = some (some (.builtin "object.__ne__"))) (hs : PySem.W.findIn K (.ref C) "__eq__" = some (some (.ref f))) (hf : PySem.W.isFn K (.ref f) = true) (hob : PySem.W.subIn K (.ref C) (.type "object") = some true)
    (h : wpAny (model prog w) A.in1 (call (.ref f) [.ref x, b]) (fun v s' => ∃ r, v = .bool r ∧ Q (.bool (!r)) s') E s) : wpAny (model prog w) A (richCompare .NotEq (.ref x) b) Q E s := by
  have entry : wpAny (model prog w) A.in1 (Builtin.«object.__ne__» ⟨[.ref x, b], []⟩) (fun r s' => ∃ q, r = .done (.ret (.bool q)) ∧ Q (.bool q) s') E s := by
    unfold Builtin.«object.__ne__»
    refine wpAny_bind (wpAny_of_eq (a := ((Value.ref x : Value), [b])) (by first | rfl | (simp only [slotArgs]; rfl)) ?_)
    refine wpAny_bind (wpAny_cRoomFor (show A.in1.units < cLine from hu) ?_)
    refine wpAny_bind (PySem.W.ifBound_K X I hs hf (wpAny_mono h (fun v s' hv => ?_) fun _ _ e => e))
    obtain ⟨r, rfl, hq⟩ := hv
    refine wpAny_bind (wpAny_of_eq (a := r) (by rfl) ?_)
    exact wpAny_pure ⟨!r, rfl, hq⟩
  have one : wpAny (model prog w) A (tryCompare (.ref x) "__ne__" b) (fun r s' => ∃ v, r = some v ∧ Q v s') E s := by
    unfold tryCompare
    have fin : wpAny (model prog w) A (call (.builtin "object.__ne__") ([.ref x] ++ [b]) >>= fun v => pure (some v)) (fun r s' => ∃ q, r = some (.bool q) ∧ Q (.bool q) s') E s := by
      refine wpAny_bind (wpAny_call (codeAny_call_builtin PySem.F.cmp_object.ne.plain PySem.F.cmpEntry_ne ?_))
      refine PySem.W.check_slot PySem.F.cmpKind_ne PySem.F.cmpSplit_ne (I.type.andThen (PySem.W.looks_subIn X hob)) (PySem.F.cmpArgs_ne _ _) ?_
      refine wpAny_mono entry (fun r s' hr => ?_) fun _ _ e => e
      obtain ⟨q, rfl, hq⟩ := hr
      exact wpAny_pure ⟨q, rfl, hq⟩
    have call : wpAny (model prog w) A (callSpecialIfBound? (.ref x) "__ne__" [b]) (fun r s' => ∃ q, r = some (.bool q) ∧ Q (.bool q) s') E s := by
      simp only [callSpecialIfBound?, bindSpecialIfBound?]
      refine wpAny_holding (wpAny_bind (wpAny_bind (wpAny_bind (I.type.here ((PySem.W.looks_findIn X hne).here ?_)))))
      simp only [PySem.F.cmp_object.ne.bind]
      refine wpAny_bind (wpAny_askSetting (wpAny_ite ?_))
      split
      · exact wpAny_bind (wpAny_pure (wpAny_pure fin))
      · exact wpAny_tryCatch (wpAny_bind (wpAny_pure (wpAny_pure fin)))
    refine wpAny_bind (wpAny_mono call (fun r s' hr => ?_) fun _ _ e => e)
    obtain ⟨q, rfl, hq⟩ := hr
    exact wpAny_pure ⟨_, rfl, hq⟩
  unfold richCompare
  simp only [oneThing_ref]
  refine wpAny_holding (wpAny_bind (wpAny_cRoomFor (by omega) ?_))
  refine wpAny_bind (I.type.here (wpAny_bind (hb.here ?_)))
  split
  · rename_i q
    have e : PySem.W.subIn K tb (.ref C) = some false := by
      rcases Bool.or_eq_true_iff.mp hn with e | e
      · rw [beq_iff_eq.mp e] at q; simp at q
      · exact beq_iff_eq.mp e
    refine wpAny_bind ((PySem.W.looks_subIn X e).here ?_)
    simp only [Bool.false_eq_true, if_false]
    refine wpAny_bind (wpAny_mono one (fun r s' z => ?_) fun _ _ e => e)
    obtain ⟨v, rfl, hq⟩ := z
    exact wpAny_pure hq
  · refine wpAny_bind (wpAny_pure ?_)
    simp only [Bool.false_eq_true, if_false]
    refine wpAny_bind (wpAny_mono one (fun r s' z => ?_) fun _ _ e => e)
    obtain ⟨v, rfl, hq⟩ := z
    exact wpAny_pure hq
end
section
variable {X : Cx} {T : Pn} {W : WX} {pos : Pos} {a b : Expr} {ma mb : M D}
theorem run_gA {A : Around} {k : Nat} {f : Addr} {fd : FuncData} {ps : List Str} {sp : Sp} {pins : List (Addr × Obj)} {σ : St} {H : Hp} {s : Shared} {Q : VK} {us : List Value} {vs : List V} (F : FnG X.prog X.w X.K X.mg X.base k f fd ps sp) (hr : Room k A) (hgu : A.guards = some []) (hfr : A.frames = X.A.frames)
    (hb : Binds X.K fd ps []) (tk : Takes X W) (I : Inv X pins σ H s) (r : Vals vs us) (h : sp vs H Q (WE W σ)) : wpAny (model X.prog X.w) A (call (.ref f) us) (EP X pins σ Q) X.xe s := by
  have hl : us.length = ps.length := by rw [← r.length]; exact F.len _ _ _ _ h
  have e0 : Env0 X.prog X.w X.K X.mg X.base A X.stack s H := by
    have e := I.env0
    exact ⟨by rw [hfr]; exact e.frames, e.mod, e.bs, e.bsz, e.funs, e.frf, e.hok, e.bare⟩
  have hbb := hb s us I.kIn (by rw [List.append_nil]; exact hl)
  rw [List.append_nil] at hbb
  refine wpAny_call (codeAny_mono (F.run A X.stack s H _ _ _ Q _ hr hgu e0 hbb r h) fun r s' hq => ?_)
  cases r with
  | error e => exact tk e s' (XE.of_call I (fun cls d H' h => h) hq)
  | ok fl =>
    cases fl with
    | ret w => exact I.after hq
    | next => exact False.elim hq
    | brk => exact False.elim hq
    | cont => exact False.elim hq
def rNeO (X : Cx) (C : Addr) (sp : Sp) : R2 := fun x y H Q => ∃ a dx fs t, x = .ref a ∧ H a = some (.ins C dx fs) ∧ TyX X.K H y t ∧ PySem.W.notFirst X.K C t = true ∧ sp [x, y] H (fun v H' => ∃ b, v = .bl b ∧ Q (.bl (!b)) H') fun _ _ _ => False
theorem op_neO {k : Nat} {C fa : Addr} {fd : FuncData} {ps : List Str} {sp : Sp} (hne : PySem.W.findIn X.K (.ref C) "__ne__" = some (some (.builtin "object.__ne__"))) (hs : PySem.W.findIn X.K (.ref C) "__eq__" = some (some (.ref fa))) (hf : PySem.W.isFn X.K (.ref fa) = true) (hob : PySem.W.subIn X.K (.ref C) (.type "object") = some true)
    (G : FnG X.prog X.w X.K X.mg X.base k fa fd ps sp) (hb : Binds X.K fd ps []) (hr : Room (k + 1) X.A) (hgu : X.A.guards = some []) : OpR X (compareOp .NotEq) (rNeO X C sp) := by
  intro pins s σ H x y v u Q I rx ry h
  obtain ⟨a, dx, fs, t, rfl, ha, ty, nf, hsp⟩ := h
  obtain rfl : v = Value.ref a := rx
  show wpAny (model X.prog X.w) X.A (richCompare .NotEq (.ref a) u) (EP X pins σ Q) X.xe s
  obtain ⟨mA, J, _⟩ := ins_get I.hok ha
  obtain ⟨od, J, _⟩ := J.look
  obtain ⟨P, kx, hP, _⟩ := kit_of I ry ty
  refine ne_K (tb := t) (by have := hr.un; omega) I.kIn J (kx.ty _ _ I.kIn hP) nf hne hs hf hob ?_
  have r2 : Vals [V.ref a, y] [Value.ref a, u] := .cons (show RelV (V.ref a) (Value.ref a) from rfl) (.cons ry .nil)
  refine wpAny_mono (run_gA (W := W0) G hr.in1 hgu rfl hb takes0 I r2 hsp) (fun w s' hw => ?_) fun _ _ e => e
  obtain ⟨z, H', I', rz, b, rfl, q⟩ := hw
  obtain rfl : w = Value.bool b := rz
  exact ⟨b, rfl, .bl (!b), H', I', rfl, q⟩
structure NeK (X : Cx) (C : Addr) : Prop where
  ne : PySem.W.findIn X.K (.ref C) "__ne__" = some (some (.builtin "object.__ne__"))
  ob : PySem.W.subIn X.K (.ref C) (.type "object") = some true
def mNeO (c : Str) (nf : Str → Bool) (f : Fnc) (g : D → D → Option D) (ma mb : M D) : M D := bnd ma fun d1 => bnd mb fun d2 => match d1 with
  | .obj c' fs => if c' = c ∧ okK nf d2 = true then (fun e => match f .non [.obj c' fs, d2] with
    | .ok (.bl z) _ => .ok (.bl (!z)) e
    | _ => .bad) else opt (g (.obj c' fs) d2)
  | d1 => opt (g d1 d2)
theorem jv_neO {k : Nat} {c : Str} {C : Addr} {nf : Str → Bool} {ps : List Str} {f : Fnc} {g : D → D → Option D} {j : Nat} (O : OwnM X k c C "__eq__" 2 ps f) (NK : NeK X C) (N : NotF X.K X.mg C nf) (hp : Pl X j) (ho : Op2 X (compareOp .NotEq) g) (ha : JV X T W a ma) (hb : JV X T W b mb)
    (hj : k + 1 ≤ j := by decide) (hm : behindInMarks .NotEq b = false := by first | exact nomark _ | rfl) : JV X T W (.Compare a [.NotEq] [b] pos) (mNeO c nf f g ma mb) := by
  obtain ⟨fa, fd, h1, h2, h3, h4⟩ := O.ex
  refine PEimp (pe_cmpR opAny ha hb hm) fun σ H Q ⟨e, F, er, h⟩ => ⟨e, F, er, h.bind.mono fun d1 e1 H1 F1 er1 mv1 g1 x hx => ⟨e1, F1, er1, g1.bind.mono fun d2 e2 H2 F2 er2 mv2 g2 y hy => ?_⟩⟩
  have hx := Rp.mono mv2.sub _ _ hx
  have plain2 : RunAt X.K X.mg T W e2 F2 (opt (g d1 d2)) σ H2 (fun d _ H' F' => ∀ v, Rp X.K X.mg F' d v → Q v H') → rAny X (compareOp .NotEq) x y H2 Q := fun hh => by
    obtain ⟨z', hz', fin⟩ := hh.fin er2
    obtain ⟨r, hr, q⟩ := ho H2 F2 x y d1 d2 z' er2.sub (Rp.rq er2.sub hx) (Rp.rq er2.sub hy) hz'
    exact ⟨r, hr, q Q fun H' F' z al hz => fin H' F' al z hz⟩
  cases d1 with
  | obj c' fs =>
    dsimp only at g2
    by_cases hc : c' = c ∧ okK nf d2 = true
    · rw [if_pos hc] at g2
      obtain ⟨rfl, hk⟩ := hc
      cases q : f .non [.obj c' fs, d2] with
      | ok z o =>
        cases z with
        | bl z =>
          have hrun : RunAt X.K X.mg T W0 e2 F2 (ap0 f [.obj c' fs, d2]) σ H2 (fun d _ H' F' => ∀ v, Rp X.K X.mg F' d v → ∃ b, v = .bl b ∧ Q (.bl (!b)) H') := by
            refine RunAt.of (x := .bl z) (e1 := e2) (by unfold ap0; rw [q]) fun H' F' er' mv' v hv => ?_
            unfold RunAt at g2
            simp only [q] at g2
            rw [rp_bl] at hv
            exact ⟨z, hv, g2 H' F' er' mv' _ (by rw [rp_bl])⟩
          obtain ⟨t, ty, nft⟩ := okK_ty N er2.sub hy hk
          have hx2 := hx
          rw [rp_obj] at hx2
          obtain ⟨a', C', dx, gs, rfl, m1, m2, _⟩ := hx2
          rw [O.cl.mg] at m1; cases m1
          exact ⟨_, op_neO NK.ne h1 h2 NK.ob h3 h4 (hp.room.mono hj) hp.gu, a', dx, gs, t, rfl, er2.sub _ _ m2, ty, nft, ap0_v hrun er2 (by rw [rl_cons]; exact ⟨_, _, rfl, hx, by rw [rl_cons]; exact ⟨_, _, rfl, hy, by rw [rl_nil]⟩⟩) rfl⟩
        | _ => unfold RunAt at g2; simp only [q] at g2
      | exc x o => unfold RunAt at g2; simp only [q] at g2
      | bad => unfold RunAt at g2; simp only [q] at g2
    · rw [if_neg hc] at g2
      exact plain2 g2
  | _ => exact plain2 g2
end
end Sr
namespace Sr
open PySem hiding start
open PySem.Spec L2
open PyProof.Rows hiding St
section
variable {X : Cx} {T : Pn} {W : WX} {pos p : Pos} {a : Expr} {ma : M D}
def rReprO (X : Cx) (C : Addr) (sp : Sp) : List V → Hp → VK → Prop := fun xs H Q => ∃ a dx fs, xs = [.ref a] ∧ H a = some (.ins C dx fs) ∧ sp [.ref a] H (fun v H' => ∃ z, v = .str z ∧ Q (.str z) H') fun _ _ _ => False
theorem call_reprO {k : Nat} {C fa : Addr} {fd : FuncData} {ps : List Str} {sp : Sp} (hs : PySem.W.findIn X.K (.ref C) "__repr__" = some (some (.ref fa))) (hf : PySem.W.isFn X.K (.ref fa) = true)
    (G : FnG X.prog X.w X.K X.mg X.base k fa fd ps sp) (hb : Binds X.K fd ps []) (hr : Room (k + 1) X.A) (hgu : X.A.guards = some []) : CallR X (.builtin "repr") (rReprO X C sp) := by
  intro pins s σ H xs us Q I r h
  obtain ⟨a, dx, fs, rfl, ha, hsp⟩ := h
  obtain ⟨u, rfl, ru⟩ := vals1 r
  obtain rfl : u = Value.ref a := ru
  obtain ⟨mA, J, _⟩ := ins_get I.hok ha
  obtain ⟨od, J, _⟩ := J.look
  obtain ⟨m, hF⟩ := I.fr
  refine PySem.W.repr_K (show X.A.in1.units < cLine from hr.in1.units0) hF I.ok.mod.kin J hs hf ?_
  have r2 : Vals [V.ref a] [Value.ref a] := .cons (show RelV (V.ref a) (Value.ref a) from rfl) .nil
  refine wpAny_mono (run_gA (W := W0) G hr.in1 hgu rfl hb takes0 I r2 hsp) (fun w s' hw => ?_) fun _ _ e => e
  obtain ⟨z, H', I', rz, b, rfl, q⟩ := hw
  obtain ⟨t, rfl⟩ := rz
  exact ⟨.str b, H', I', ⟨t, rfl⟩, q⟩
def mReprO (c : Str) (f : Fnc) (g : D → Option D) (ma : M D) : M D := bnd ma fun d => match d with
  | .obj c' fs => if c' = c then (fun e => match f .non [.obj c' fs] with
    | .ok (.str z) _ => .ok (.str z) e
    | _ => .bad) else opt (g (.obj c' fs))
  | d => opt (g d)
theorem jv_reprO {k : Nat} {c : Str} {C : Addr} {ps : List Str} {f : Fnc} {g : D → Option D} {j : Nat} (O : OwnM X k c C "__repr__" 1 ps f) (hp : Pl X j) (ho : Cal1 X (.builtin "repr") g) (hg : Gl X "repr") (hm : X.mg "repr" = none) (hv : bootBuiltins "repr" = some (.builtin "repr")) (ha : JV X T W a ma)
    (hj : k + 1 ≤ j := by decide) (he : starEach [a] X.env = (false, eval a X.env) :: starEach [] X.env := by rfl) : JV X T W (.Call (.Name "repr" p) [a] [] pos) (mReprO c f g ma) := by
  obtain ⟨fa, fd, h1, h2, h3, h4⟩ := O.ex
  refine PEimp (pe_callB callAny hg hm hv (pa_cons ha pa_nil he) (by decide) (by decide) he rfl) fun σ H Q ⟨e, F, er, h⟩ => ⟨e, F, er, h.bind.mono fun d e1 H1 F1 er1 mv1 g1 x hx => ?_⟩
  have plain2 : RunAt X.K X.mg T W e1 F1 (opt (g d)) σ H1 (fun d _ H' F' => ∀ v, Rp X.K X.mg F' d v → Q v H') → rAnyC X (.builtin "repr") [x] H1 Q := fun hh => by
    obtain ⟨z', hz', fin⟩ := hh.fin er1
    obtain ⟨r, hr, q⟩ := ho H1 F1 x d z' er1.sub (Rp.rq er1.sub hx) hz'
    exact ⟨r, hr, q Q fun H' F' z al hz => fin H' F' al z hz⟩
  cases d with
  | obj c' fs =>
    dsimp only at g1
    by_cases hc : c' = c
    · rw [if_pos hc] at g1
      subst hc
      cases q : f .non [.obj c' fs] with
      | ok z o =>
        cases z with
        | str z =>
          have hrun : RunAt X.K X.mg T W0 e1 F1 (ap0 f [.obj c' fs]) σ H1 (fun d _ H' F' => ∀ v, Rp X.K X.mg F' d v → ∃ b, v = .str b ∧ Q (.str b) H') := by
            refine RunAt.of (x := .str z) (e1 := e1) (by unfold ap0; rw [q]) fun H' F' er' mv' v hv => ?_
            unfold RunAt at g1
            simp only [q] at g1
            rw [rp_str] at hv
            exact ⟨z, hv, g1 H' F' er' mv' _ (by rw [rp_str])⟩
          have hx2 := hx
          rw [rp_obj] at hx2
          obtain ⟨a', C', dx, gs, rfl, m1, m2, _⟩ := hx2
          rw [O.cl.mg] at m1; cases m1
          exact ⟨_, call_reprO h1 h2 h3 h4 (hp.room.mono hj) hp.gu, a', dx, gs, rfl, er1.sub _ _ m2, ap0_v hrun er1 (by rw [rl_cons]; exact ⟨_, _, rfl, hx, by rw [rl_nil]⟩) rfl⟩
        | _ => unfold RunAt at g1; simp only [q] at g1
      | exc x o => unfold RunAt at g1; simp only [q] at g1
      | bad => unfold RunAt at g1; simp only [q] at g1
    · rw [if_neg hc] at g1
      exact plain2 g1
  | _ => exact plain2 g1
end
theorem RpF.none {K : PySem.W.Frag} {mg : Str → Option Value} {F : Hp} {m : Str} : ∀ {fs : List (Str × D)} {gs : List (Str × V)}, RpF K mg F fs gs → fs.lookup m = none → gs.lookup m = none
  | [], gs, h, _ => by unfold RpF at h; subst h; rfl
  | (g, d) :: fs, gs, h, n => by
    unfold RpF at h
    obtain ⟨v, vs, rfl, _, h⟩ := h
    rw [List.lookup_cons] at n ⊢
    cases q : m == g with
    | true => rw [q] at n; cases n
    | false => rw [q] at n; exact RpF.none h n
structure OwnK (X : Cx) (k : Nat) (c : Str) (C : Addr) (m : Str) (n : Nat) (ps : List Str) (f : Fnc) : Prop where
  cl : Cl X c C
  ex : ∃ fa fd, Meth X.K C m fa ∧ FnG X.prog X.w X.K X.mg X.base k fa fd ps (spF0 X.K X.mg false n f) ∧ Binds X.K fd ps []
theorem OwnK.m {X : Cx} {k : Nat} {c : Str} {C : Addr} {m : Str} {n : Nat} {ps : List Str} {f : Fnc} (h : OwnK X k c C m n ps f) : OwnM X k c C m n ps f := by
  obtain ⟨fa, fd, h1, h2, h3⟩ := h.ex
  exact ⟨h.cl, fa, fd, h1.at_, h1.fn, h2, h3⟩
def isO (c m : Str) : D → Option Unit
  | .obj c' fs => if c' = c ∧ (fs.lookup m).isNone = true then some () else none
  | _ => none
def mMe (c m : Str) (f : Fnc) (mo : M D) (ms : M (List D)) : M D := bnd mo fun d => bnd (opt (isO c m d)) fun _ => bnd ms fun ds => ap0 f (d :: ds)
def mMe0 (c m : Str) (f : Fnc) (mo : M D) : M D := bnd mo fun d => bnd (opt (isO c m d)) fun _ => ap0 f [d]
section
variable {X : Cx} {T : Pn} {W : WX} {pos apos : Pos} {o e : Expr} {es : List Expr} {mo : M D} {ms : M (List D)} {k j n : Nat} {c m : Str} {C : Addr} {ps : List Str} {f : Fnc}
theorem isO_ok {K : PySem.W.Frag} {mg : Str → Option Value} {H F : Hp} {d : D} {x : V} {u : Unit} (hc : mg c = some (.ref C)) (s : Same F H) (hx : Rp K mg F d x) (h : isO c m d = some u) : ∃ a dx gs, x = .ref a ∧ H a = some (.ins C dx gs) ∧ gs.lookup m = none := by
  cases d with
  | obj c' fs =>
    simp only [isO] at h
    split at h
    · rename_i hh
      obtain ⟨rfl, hn⟩ := hh
      rw [rp_obj] at hx
      obtain ⟨a, C', dx, gs, rfl, m1, m2, m3⟩ := hx
      rw [hc] at m1; cases m1
      exact ⟨a, dx, gs, rfl, s _ _ m2, RpF.none m3 (Option.isNone_iff_eq_none.mp hn)⟩
    · cases h
  | _ => cases h
def tMethG (C : Addr) (m : Str) (sp : Sp) (W : WX) (ta : TE) (t : TA) : TE := fun σ H Q => ta σ H fun x H1 => ∃ a dx fs, x = .ref a ∧ H1 a = some (.ins C dx fs) ∧ fs.lookup m = none ∧ t σ H1 fun vs H2 => sp (.ref a :: vs) H2 Q (WE W σ)
theorem pe_methG {ta : TE} {t : TA} {sp : Sp} {fa : Addr} {fd : FuncData} {pl : Sem Bool} (he : PE X o ta) (cl : Cls X.K C) (hm : Meth X.K C m fa) (G : FnG X.prog X.w X.K X.mg X.base k fa fd ps sp) (hr : Room k X.A) (hgu : X.A.guards = some []) (hb : Binds X.K fd ps []) (tk : Takes X W) (ha : PA X (e :: es) t)
    (hst : starEach (e :: es) X.env = (false, eval e X.env) :: starEach es X.env := by rfl) (hpl : (backTo pos (starEach es X.env)).any (·.1) = false := by rfl)
    (ht : eval (.Call (.Attribute o m apos) (e :: es) [] pos) X.env = (do
      let ov ← eval o X.env
      standAt apos.atName
      let (f, first) ← holding [ov] (getMethod ov m pl)
      callWith pos f first (backTo pos (starEach (e :: es) X.env)) (backToKw pos (keywordEach [] X.env))) := by rfl) :
    PE X (.Call (.Attribute o m apos) (e :: es) [] pos) (tMethG C m sp W ta t) := by
  refine ⟨fun pins s σ H Q I h => ?_⟩
  refine PySem.W.methodCall_KW (pl := pl) (thn (he.run pins s σ H _ I h) fun u s1 ⟨x, H1, I1, rx, a, dx, fs, ex, ea, l, q⟩ => ?_) ht
  subst ex
  obtain rfl : u = Value.ref a := rx
  refine getmeth_ok I1 ea cl hm l ?_
  refine PySem.W.callWith_K (first := [.ref a]) (h₀ := X.base) I.ok.mod.kin hm.kp (thn (ha.run pos pins s1 σ H1 _ I1 q) fun us s2 ⟨vs, H2, I2, r, q2⟩ => ⟨I2.kIn, ?_⟩) hst hpl
  have r2 : Vals (V.ref a :: vs) (Value.ref a :: us) := .cons (show RelV (V.ref a) (Value.ref a) from rfl) r
  exact run_gA G hr hgu rfl hb tk I2 r2 q2
theorem pe_methG0 {ta : TE} {sp : Sp} {fa : Addr} {fd : FuncData} {pl : Sem Bool} (he : PE X o ta) (cl : Cls X.K C) (hm : Meth X.K C m fa) (G : FnG X.prog X.w X.K X.mg X.base k fa fd ps sp) (hr : Room k X.A) (hgu : X.A.guards = some []) (hb : Binds X.K fd ps []) (tk : Takes X W)
    (ht : eval (.Call (.Attribute o m apos) [] [] pos) X.env = (do
      let ov ← eval o X.env
      standAt apos.atName
      let (f, first) ← holding [ov] (getMethod ov m pl)
      callWith pos f first (backTo pos (starEach [] X.env)) (backToKw pos (keywordEach [] X.env))) := by rfl) :
    PE X (.Call (.Attribute o m apos) [] [] pos) (tMethG C m sp W ta tNil) := by
  refine ⟨fun pins s σ H Q I h => ?_⟩
  refine PySem.W.methodCall_KW (pl := pl) (thn (he.run pins s σ H _ I h) fun u s1 ⟨x, H1, I1, rx, a, dx, fs, ex, ea, l, q⟩ => ?_) ht
  subst ex
  obtain rfl : u = Value.ref a := rx
  refine getmeth_ok I1 ea cl hm l ?_
  have r2 : Vals [V.ref a] [Value.ref a] := .cons (show RelV (V.ref a) (Value.ref a) from rfl) .nil
  exact PySem.W.callWith_K0 (first := [.ref a]) I1.kIn hm.kp (run_gA G hr hgu rfl hb tk I1 r2 q)
theorem jv_me {pl : Sem Bool} (O : OwnK X k c C m n ps f) (hp : Pl X j) (tk : Takes X W) (ho : JV X T W o mo) (ha : JL X T W (e :: es) ms) (hj : k ≤ j := by decide) (hn : (e :: es).length + 1 = n := by rfl)
    (hst : starEach (e :: es) X.env = (false, eval e X.env) :: starEach es X.env := by rfl) (hpl : (backTo pos (starEach es X.env)).any (·.1) = false := by rfl)
    (ht : eval (.Call (.Attribute o m apos) (e :: es) [] pos) X.env = (do
      let ov ← eval o X.env
      standAt apos.atName
      let (f, first) ← holding [ov] (getMethod ov m pl)
      callWith pos f first (backTo pos (starEach (e :: es) X.env)) (backToKw pos (keywordEach [] X.env))) := by rfl) :
    JV X T W (.Call (.Attribute o m apos) (e :: es) [] pos) (mMe c m f mo ms) := by
  obtain ⟨fa, fd, hm, G, hb⟩ := O.ex
  refine PEimp (pe_methG (pl := pl) ho O.cl.cl hm G (hp.room.mono hj) hp.gu hb tk ha.ja hst hpl ht) fun σ H Q ⟨e0, F, er, h⟩ => ⟨e0, F, er, h.bind.mono fun d e1 H1 F1 er1 mv1 h1 v hv => ?_⟩
  obtain ⟨u, hu, fin⟩ := h1.bind.fin er1
  have h2 := fin H1 F1 Al.refl
  obtain ⟨a, dx, gs, rfl, q1, q2⟩ := isO_ok O.cl.mg er1.sub hv hu
  refine ⟨a, dx, gs, rfl, q1, q2, e1, F1, er1, ?_⟩
  have hb2 := h2.bind
  unfold RunAt at hb2 ⊢
  cases q : ms e1 with
  | ok ds e2 =>
    rw [q] at hb2
    intro H2 F2 er2 mv2 vs hvs
    exact ap0_v (hb2 H2 F2 er2 mv2) er2 (by rw [rl_cons]; exact ⟨_, _, rfl, Rp.mono mv2.sub _ _ hv, hvs⟩) (by rw [List.length_cons, ha.ln ds e1 e2 q]; exact hn)
  | exc x e2 => rw [q] at hb2; exact hb2
  | bad => rw [q] at hb2; exact hb2
theorem jv_me0 {pl : Sem Bool} (O : OwnK X k c C m 1 ps f) (hp : Pl X j) (tk : Takes X W) (ho : JV X T W o mo) (hj : k ≤ j := by decide)
    (ht : eval (.Call (.Attribute o m apos) [] [] pos) X.env = (do
      let ov ← eval o X.env
      standAt apos.atName
      let (f, first) ← holding [ov] (getMethod ov m pl)
      callWith pos f first (backTo pos (starEach [] X.env)) (backToKw pos (keywordEach [] X.env))) := by rfl) :
    JV X T W (.Call (.Attribute o m apos) [] [] pos) (mMe0 c m f mo) := by
  obtain ⟨fa, fd, hm, G, hb⟩ := O.ex
  refine PEimp (pe_methG0 (pl := pl) ho O.cl.cl hm G (hp.room.mono hj) hp.gu hb tk ht) fun σ H Q ⟨e0, F, er, h⟩ => ⟨e0, F, er, h.bind.mono fun d e1 H1 F1 er1 mv1 h1 v hv => ?_⟩
  obtain ⟨u, hu, fin⟩ := h1.bind.fin er1
  have h2 := fin H1 F1 Al.refl
  obtain ⟨a, dx, gs, rfl, q1, q2⟩ := isO_ok O.cl.mg er1.sub hv hu
  exact ⟨a, dx, gs, rfl, q1, q2, ap0_v h2 er1 (by rw [rl_cons]; exact ⟨_, _, rfl, hv, by rw [rl_nil]⟩) rfl⟩
end
end Sr
namespace Sr
open PySem hiding start
open PySem.Spec L2
open PyProof.Rows hiding St
section
variable {X : Cx} {T : Pn} {W : WX} {pos : Pos}
theorem jo_dnewK : JO X T W (.Dict [] [] pos) (ret (.dk [])) := by
  refine PEimp pe_dnewK fun σ H Q ⟨e, F, er, h⟩ => fun p hp => ?_
  have np : ¬ Ow e σ p := Ow.ne_of_free er hp
  have fp : F p = none := er.sub.free hp
  exact h (upd H p (.dK [])) F (er.updFree fp np) (Mv.refl.updNew hp) p hp fp np ⟨[], upd_same, by unfold RpK; rfl⟩
theorem jo_dnewT : JO X T W (.Dict [] [] pos) (ret (.dt [])) := by
  refine PEimp pe_dnewT fun σ H Q ⟨e, F, er, h⟩ => fun p hp => ?_
  have np : ¬ Ow e σ p := Ow.ne_of_free er hp
  have fp : F p = none := er.sub.free hp
  exact h (upd H p (.dT [])) F (er.updFree fp np) (Mv.refl.updNew hp) p hp fp np ⟨[], upd_same, by unfold RpT; rfl⟩
def mPs : List (M D × M D) → M (List (D × D))
  | [] => ret []
  | (a, b) :: r => bnd a fun x => bnd b fun y => bnd (mPs r) fun ps => ret ((x, y) :: ps)
def RpP (K : PySem.W.Frag) (mg : Str → Option Value) (F : Hp) : List (D × D) → List (V × V) → Prop
  | [], ps => ps = []
  | (x, y) :: ds, ps => ∃ v w r, ps = (v, w) :: r ∧ Rp K mg F x v ∧ Rp K mg F y w ∧ RpP K mg F ds r
theorem ps_imp {K : PySem.W.Frag} {mg : Str → Option Value} {σ : St} : ∀ (l : List (M D × M D)) (e : En) (H F : Hp) (P : List (D × D) → En → Hp → Hp → Prop) (R : List (V × V) → Hp → Prop), ER K mg T e σ H F → RunAt K mg T W e F (mPs l) σ H P →
    (∀ ds e' H' F', ER K mg T e' σ H' F' → Mv e σ H F e' σ H' F' → P ds e' H' F' → ∀ ps, RpP K mg F' ds ps → R ps H') → tPairs (l.map fun q => (TV K mg T W q.1, TV K mg T W q.2)) σ H R
  | [], e, H, F, P, R, er, h, k => k [] e H F er Mv.refl (h H F er Mv.refl) [] rfl
  | (a, b) :: l, e, H, F, P, R, er, h, k => by
    refine ⟨e, F, er, h.bind.mono fun x e1 H1 F1 er1 mv1 h1 v hv => ⟨e1, F1, er1, h1.bind.mono fun y e2 H2 F2 er2 mv2 h2 w hw => ?_⟩⟩
    refine ps_imp l e2 H2 F2 _ _ er2 h2.bind fun ds e3 H3 F3 er3 mv3 h3 ps hps => ?_
    refine k _ e3 H3 F3 er3 ((mv1.trans mv2).trans mv3) (h3 H3 F3 er3 Mv.refl) _ ⟨v, w, ps, rfl, Rp.mono (mv2.sub.trans mv3.sub) _ _ hv, Rp.mono mv3.sub _ _ hw, hps⟩
def dKey : D → Option Key
  | .int i => some (.inl i)
  | .str z => some (.inr z)
  | _ => none
def dKeys : List (D × D) → Option (List (Key × D))
  | [] => some []
  | (x, y) :: r => match dKey x, dKeys r with
    | some k, some ks => some ((k, y) :: ks)
    | _, _ => none
def putKD (kvs : List (Key × D)) (k : Key) (v : D) : List (Key × D) :=
  if (kvs.any fun kv => decide (kv.1 = k)) = true then kvs.map (fun kv => if kv.1 = k then (kv.1, v) else kv) else kvs ++ [(k, v)]
def mergeKD (kvs more : List (Key × D)) : List (Key × D) := more.foldl (fun acc kv => putKD acc kv.1 kv.2) kvs
theorem RpK.any {K : PySem.W.Frag} {mg : Str → Option Value} {F : Hp} {k : Key} : ∀ {ds : List (Key × D)} {vs : List (Key × V)}, RpK K mg F ds vs → (ds.any fun kv => decide (kv.1 = k)) = (vs.any fun kv => decide (kv.1 = k))
  | [], vs, h => by unfold RpK at h; subst h; rfl
  | (q, d) :: ds, vs, h => by
    unfold RpK at h
    obtain ⟨v, r, rfl, _, h⟩ := h
    rw [List.any_cons, List.any_cons, RpK.any h]
theorem RpK.map {K : PySem.W.Frag} {mg : Str → Option Value} {F : Hp} {k : Key} {d : D} {v : V} (hv : Rp K mg F d v) : ∀ {ds : List (Key × D)} {vs : List (Key × V)}, RpK K mg F ds vs → RpK K mg F (ds.map fun kv => if kv.1 = k then (kv.1, d) else kv) (vs.map fun kv => if kv.1 = k then (kv.1, v) else kv)
  | [], vs, h => by unfold RpK at h; subst h; unfold RpK; rfl
  | (q, x) :: ds, vs, h => by
    unfold RpK at h
    obtain ⟨w, r, rfl, hw, h⟩ := h
    rw [List.map_cons, List.map_cons]
    by_cases hq : q = k
    · simp only [hq, if_true]
      unfold RpK
      exact ⟨v, _, rfl, hv, RpK.map hv h⟩
    · simp only [hq, if_false]
      unfold RpK
      exact ⟨w, _, rfl, hw, RpK.map hv h⟩
theorem RpK.snoc {K : PySem.W.Frag} {mg : Str → Option Value} {F : Hp} {k : Key} {d : D} {v : V} (hv : Rp K mg F d v) : ∀ {ds : List (Key × D)} {vs : List (Key × V)}, RpK K mg F ds vs → RpK K mg F (ds ++ [(k, d)]) (vs ++ [(k, v)])
  | [], vs, h => by unfold RpK at h; subst h; unfold RpK; exact ⟨v, [], rfl, hv, by unfold RpK; rfl⟩
  | (q, x) :: ds, vs, h => by
    unfold RpK at h
    obtain ⟨w, r, rfl, hw, h⟩ := h
    rw [List.cons_append, List.cons_append]
    unfold RpK
    exact ⟨w, _, rfl, hw, RpK.snoc hv h⟩
theorem RpK.put {K : PySem.W.Frag} {mg : Str → Option Value} {F : Hp} {k : Key} {d : D} {v : V} (hv : Rp K mg F d v) {ds : List (Key × D)} {vs : List (Key × V)} (h : RpK K mg F ds vs) : RpK K mg F (putKD ds k d) (putK vs k v) := by
  unfold putKD putK
  rw [RpK.any h]
  split
  · exact RpK.map hv h
  · exact RpK.snoc hv h
theorem keys_ok {K : PySem.W.Frag} {mg : Str → Option Value} {F : Hp} : ∀ {ds : List (D × D)} {ks : List (Key × D)} {ps : List (V × V)}, dKeys ds = some ks → RpP K mg F ds ps → ∃ kvs : List (Key × V), ps = kvs.map (fun kv => (kV kv.1, kv.2)) ∧ RpK K mg F ks kvs
  | [], ks, ps, h, r => by cases h; unfold RpP at r; subst r; exact ⟨[], rfl, by unfold RpK; rfl⟩
  | (x, y) :: ds, ks, ps, h, r => by
    unfold RpP at r
    obtain ⟨v, w, ps', rfl, hx, hy, r⟩ := r
    unfold dKeys at h
    cases q1 : dKey x with
    | none => simp only [q1] at h; cases h
    | some k =>
      cases q2 : dKeys ds with
      | none => simp only [q1, q2] at h; cases h
      | some ks' =>
        simp only [q1, q2] at h
        cases h
        obtain ⟨kvs, rfl, hk⟩ := keys_ok q2 r
        refine ⟨(k, w) :: kvs, ?_, by unfold RpK; exact ⟨w, _, rfl, hy, hk⟩⟩
        rw [List.map_cons]
        congr 2
        cases x with
        | int i => cases q1; rw [rp_int] at hx; exact hx
        | str z => cases q1; rw [rp_str] at hx; exact hx
        | _ => cases q1
theorem RpK.merge {K : PySem.W.Frag} {mg : Str → Option Value} {F : Hp} : ∀ {more : List (Key × D)} {mv : List (Key × V)} {ds : List (Key × D)} {vs : List (Key × V)}, RpK K mg F more mv → RpK K mg F ds vs → RpK K mg F (mergeKD ds more) (mergeK vs mv)
  | [], mv, ds, vs, h, r => by unfold RpK at h; subst h; exact r
  | (k, d) :: more, mv, ds, vs, h, r => by
    unfold RpK at h
    obtain ⟨w, ms, rfl, hw, h⟩ := h
    show RpK K mg F (mergeKD (putKD ds k d) more) (mergeK (putK vs k w) ms)
    exact RpK.merge h (r.put hw)
def gDisp (ds : List (D × D)) : Option D := match dKeys ds with
  | some ks => if ks.length ≤ 15 then some (.dk (mergeKD [] ks)) else none
  | none => none
def mDisp (l : List (M D × M D)) : M D := bnd (mPs l) fun ds => opt (gDisp ds)
def JPs (X : Cx) (T : Pn) (W : WX) (pos : Pos) (keys : List (Option Expr)) (values : List Expr) (l : List (M D × M D)) : Prop := PPs X pos keys values (l.map fun q => (TV X.K X.mg T W q.1, TV X.K X.mg T W q.2))
theorem jps_nil : JPs X T W pos [] [] [] := pps_nil
theorem jps_cons {k v : Expr} {ks : List (Option Expr)} {vs : List Expr} {mk mv : M D} {l : List (M D × M D)} (hk : JV X T W k mk) (hv : JV X T W v mv) (hr : JPs X T W pos ks vs l) : JPs X T W pos (some k :: ks) (v :: vs) ((mk, mv) :: l) := pps_cons hk hv hr
theorem jo_disp {keys : List (Option Expr)} {values : List Expr} {l : List (M D × M D)} (h : JPs X T W pos keys values l) (hall : keys.all (·.isSome) = true := by rfl) (hl : keys.length = values.length := by rfl) (h0 : keys ≠ [] := by intro z; cases z) (h15 : keys.length ≤ 15 := by decide) :
    JO X T W (.Dict keys values pos) (mDisp l) := by
  refine PEimp (pe_disp h hall hl h0 h15) fun σ H Q ⟨e, F, er, h⟩ => fun p hp => ?_
  have np : ¬ Ow e σ p := Ow.ne_of_free er hp
  have fp : F p = none := er.sub.free hp
  have er0 : ER X.K X.mg T e σ (upd H p (.dK [])) F := er.updFree fp np
  have hb : RunAt X.K X.mg T W e F (mPs l) σ (upd H p (.dK [])) fun ds e1 H1 F1 => Mv e σ (upd H p (.dK [])) F e1 σ H1 F1 ∧ ∃ d, gDisp ds = some d ∧ ∀ H' F', ER X.K X.mg T e1 σ H' F' → Mv e σ H F e1 σ H' F' → ∀ q, H q = none → F' q = none → ¬ Ow e1 σ q → OwnAt X.K X.mg H' F' q d → Q (.ref q) H' := by
    unfold RunAt mDisp bnd at h
    unfold RunAt
    cases q : mPs l e with
    | ok ds e1 =>
      rw [q] at h
      intro H1 F1 er1 mv1
      dsimp only at h
      unfold opt at h
      cases qd : gDisp ds with
      | none => simp only [qd] at h
      | some d =>
        simp only [qd] at h
        exact ⟨mv1, d, rfl, fun H' F' er' mv' => h H' F' er' mv'⟩
    | exc x e1 =>
      rw [q] at h
      intro H1 F1 cl dd er1 mv1 xr
      exact h H1 F1 cl dd er1 ((Mv.refl.updNew (o := .dK []) hp).trans mv1) xr
    | bad => rw [q] at h; exact h
  refine ps_imp l e _ F _ _ er0 hb fun ds e1 H1 F1 er1 mv1 ⟨_, d, hd, fin⟩ ps hps => ?_
  obtain ⟨k1, k2⟩ := mv1.keep p _ upd_same np
  have f1 : F1 p = none := by
    cases z : F1 p with
    | none => rfl
    | some u =>
      rcases mv1.new p u z with z | z | z
      · rw [fp] at z; cases z
      · rw [upd_same] at z; cases z
      · exact (np z).elim
  unfold gDisp at hd
  split at hd
  · rename_i ks hk
    split at hd
    · rename_i hz
      cases hd
      obtain ⟨kvs, rfl, rk⟩ := keys_ok hk hps
      refine ⟨k1, kvs, rfl, by rw [← RpK.len rk]; exact hz, ?_⟩
      exact fin _ F1 (er1.updFree f1 k2) (((Mv.refl.updNew (o := .dK []) hp).trans mv1).updNew hp) p hp f1 k2 ⟨_, upd_same, RpK.merge rk (by unfold RpK; rfl)⟩
    · cases hd
  · cases hd
end
end Sr
namespace Sr
open PySem hiding start
open PySem.Spec L2
open PyProof.Rows hiding St
def notFB (K : PySem.W.Frag) (c : Str) (l : List Str) : Bool := (allKd.all fun k => PySem.W.notFirst K (He.ga K c) (.type k.nm)) && l.all fun q => PySem.W.notFirst K (He.ga K c) (.ref (He.ga K q))
theorem notF_of {K : PySem.W.Frag} {mg : Str → Option Value} {c : Str} {l : List Str} (h : notFB K c l = true) (hI : ∀ q ∈ l, ClI K mg q (He.ga K q)) : NotF K mg (He.ga K c) fun q => l.contains q := by
  unfold notFB at h
  rw [Bool.and_eq_true] at h
  refine ⟨fun k => List.all_eq_true.mp h.1 k (by cases k <;> decide), fun q hq => ?_⟩
  have hm : q ∈ l := List.contains_iff_mem.mp hq
  exact ⟨_, hI q hm, List.all_eq_true.mp h.2 q hm⟩
def neB (K : PySem.W.Frag) (c : Str) : Bool := decide (PySem.W.findIn K (.ref (He.ga K c)) "__ne__" = some (some (.builtin "object.__ne__"))) && decide (PySem.W.subIn K (.ref (He.ga K c)) (.type "object") = some true)
theorem neK_of {X : Cx} {c : Str} (h : neB X.K c = true) : NeK X (He.ga X.K c) := by
  unfold neB at h
  simp only [Bool.and_eq_true, decide_eq_true_eq] at h
  exact ⟨h.1, h.2⟩
theorem bt_ValueError : bootBuiltins "ValueError" = some (.type "ValueError") := by decide +kernel
end Sr
namespace Lw
open PySem hiding start
open PySem.Spec L2 Sr
open PyProof.Rows hiding St
def top (i : Nat) : Stmt := PySem.Challenge.pw_statusrules_k17_limits_made.main.body.getD i (.Pass ⟨0, 0, 0, 0⟩)
def isl_int : List (Str × Bool) := [("Limits", false)]
def isB_int : D → Option Bool := gIsi tInt fun c => isl_int.lookup c
def isl_bool : List (Str × Bool) := [("Limits", false)]
def isB_bool : D → Option Bool := gIsi (tOnly .bool) fun c => isl_bool.lookup c
def isl_Limits : List (Str × Bool) := [("Limits", true)]
def isC_Limits : D → Option Bool := gIsi (fun _ => some false) fun c => isl_Limits.lookup c
def ctl_NumberError : List (Str × Bool) := [("NumberError", true)]
def ct_NumberError : Str → Option Bool := fun y => ctl_NumberError.lookup y
def isE_ValueError : List (Str × Bool) := [("NumberError", true)]
def isE_LimitsError : List (Str × Bool) := [("NumberError", false)]
def nfl_Limits : List Str := ["Limits"]
def nf_Limits : Str → Bool := fun q => nfl_Limits.contains q
abbrev st__law_pen : Stmt := top 15
def b__law_pen : M Fl :=
  (sRetO (mLst (mCons (mCal gMax2 (mCons (ret (.int 0)) (mCons (m2 gSub (mN 0) (m2 gPow (ret (.int 10)) (ret (.int 18)))) mNil))) (mCons (m2 gAdd (m2 gMod (mCal gInt1 (mCons (mN 0) mNil)) (ret (.int 2147483629))) (ret (.int 1))) (mCons (ret (.int 0)) mNil)))))
def f__law_pen : Fnc := mkF0 1 true b__law_pen
abbrev st__law_cell_at : Stmt := top 14
def b__law_cell_at : M Fl :=
  (sq (sIf (mT (m2 gLt (mN 1) (m1 gLen (mN 0)))) (sRet (m2 gIx (mN 0) (mN 1))) skp)
    (sRet (ret (.int 0))))
def f__law_cell_at : Fnc := mkF0 2 false b__law_cell_at
abbrev st__law_draw : Stmt := top 16
def b__law_draw : M Fl :=
  (sq (sIf (mT (m2 gGt (m2b gIx (mNB 0) (ret (.int 0))) (ret (.int 0)))) (sq (sSet 2 (m2 gMod (mCal gInt1 (mCons (m2b gIx (mNB 0) (ret (.int 0))) mNil)) (mN 1)))
    (sq (sPutI 0 (ret (.int 0)) (m2 gDiv (m2b gIx (mNB 0) (ret (.int 0))) (mN 1)))
    (sRet (mN 2)))) skp)
    (sq (sPutI 0 (ret (.int 2)) (m2 gAdd (m2b gIx (mNB 0) (ret (.int 2))) (ret (.int 1))))
    (sq (sPutI 0 (ret (.int 1)) (m2 gMod (mCal gInt1 (mCons (m2 gAdd (m2 gAdd (m2 gMul (m2b gIx (mNB 0) (ret (.int 1))) (ret (.int 48271))) (m2 gMul (ret (.int 1009)) (m2b gIx (mNB 0) (ret (.int 2))))) (ret (.int 7))) mNil)) (ret (.int 2147483647))))
    (sq (sSet 3 (m2 gMod (mCal gInt1 (mCons (m2 gAdd (m2 gAdd (m2 gMul (m2b gIx (mNB 0) (ret (.int 1))) (m2b gIx (mNB 0) (ret (.int 1)))) (m2 gMul (ret (.int 69621)) (m2b gIx (mNB 0) (ret (.int 1))))) (ret (.int 11))) mNil)) (ret (.int 2147483629))))
    (sq (sSet 3 (m2 gMod (mCal gInt1 (mCons (m2 gAdd (m2 gMul (mN 3) (mN 3)) (m2 gMul (ret (.int 40014)) (mN 3))) mNil)) (ret (.int 2147483587))))
    (sRet (m2 gMod (mCal gInt1 (mCons (m2 gDiv (mN 3) (ret (.int 16))) mNil)) (mN 1))))))))
def f__law_draw : Fnc := mkF1 4 false b__law_draw
abbrev st__law_numbers : Stmt := top 17
def b__law_numbers : M Fl :=
  (sq (sSet 2 (m2 gAdd (ret (.int 1)) (mC1 f__law_draw 0 [] (mCons (mN 1) mNil))))
    (sq (sSet 3 (mCal gMin2 (mCons (ret (.int 6)) (mCons (m2 gAdd (mN 2) (ret (.int 2))) mNil))))
    (sRet (mTup (mCons (mC1 f__law_draw 0 [] (mCons (mN 3) mNil)) (mCons (mC1 f__law_draw 0 [] (mCons (mN 3) mNil)) (mCons (mN 2) (mCons (m2 gAdd (ret (.int 1)) (mC1 f__law_draw 0 [] (mCons (ret (.int 4)) mNil))) mNil))))))))
def f__law_numbers : Fnc := mkF1 4 false b__law_numbers
abbrev st_is_integer : Stmt := top 6
def b_is_integer : M Fl :=
  (sRet (mAndV (mIsi isB_int (mN 0)) (mNotV (mIsi isB_bool (mN 0)))))
def f_is_integer : Fnc := mkF0 1 false b_is_integer
abbrev st_is_between : Stmt := top 7
def b_is_between : M Fl :=
  (sRet (mAndV (mC0 f_is_integer [] (mCons (mN 0) mNil)) (mChain gLe gLe (mN 1) (mN 0) (mN 2))))
def f_is_between : Fnc := mkF0 3 false b_is_between
abbrev st_LimitsU_initU : Stmt := inClass (top 12) 0
def l_LimitsU_initU_1 : M Fl :=
  (sIf (mNot (mT (mC0 f_is_between [] (mCons (mN 6) (mCons (mN 7) (mCons (mN 8) mNil)))))) (sRaise "NumberError") skp)
def b_LimitsU_initU : M Fl :=
  (sq (sSet 5 (mTup (mCons (mTup (mCons (mN 1) (mCons (ret (.int 0)) (mCons (ret (.int 5)) mNil)))) (mCons (mTup (mCons (mN 2) (mCons (ret (.int 0)) (mCons (ret (.int 5)) mNil)))) (mCons (mTup (mCons (mN 3) (mCons (ret (.int 1)) (mCons (ret (.int 5)) mNil)))) mNil)))))
    (sq (sFor (mItems (m2 gAdd (mN 5) (mTup (mCons (mTup (mCons (mN 4) (mCons (ret (.int 1)) (mCons (ret (.int 4)) mNil)))) mNil)))) (gT 3 (gsC (gN 6) (gsC (gN 7) (gsC (gN 8) gsN)))) l_LimitsU_initU_1)
    (sq (sAsg (mTup (mCons (mN 1) (mCons (mN 2) mNil))) (gT 2 (gsC (gA 0 "Limits" "most_passes") (gsC (gA 0 "Limits" "most_fails") gsN))))
    (sAsg (mTup (mCons (mN 3) (mCons (mN 4) mNil))) (gT 2 (gsC (gA 0 "Limits" "most_checks") (gsC (gA 0 "Limits" "least_stay") gsN)))))))
def f_LimitsU_initU : Fnc := mkF1 9 false b_LimitsU_initU
abbrev st__law_limits : Stmt := top 18
def b__law_limits : M Fl :=
  (sRet (mMk "Limits" f_LimitsU_initU (fun ds es => ds ++ es) (mCons (m2 gIx (mN 0) (ret (.int 0))) (mCons (m2 gIx (mN 0) (ret (.int 1))) (mCons (m2 gIx (mN 0) (ret (.int 2))) mNil))) (mCons (m2 gIx (mN 0) (ret (.int 3))) mNil)))
def f__law_limits : Fnc := mkF0 1 false b__law_limits
abbrev st__law_same : Stmt := top 21
def b__law_same : M Fl :=
  (sRet (m2 gEq (m1 gRepr (mN 0)) (m1 gRepr (mN 1))))
def f__law_same : Fnc := mkF0 2 false b__law_same
abbrev st_LimitsU_reprU : Stmt := inClass (top 12) 7
def b_LimitsU_reprU : M Fl :=
  (sRet (mJs [(ret (.str "Limits(")), (m1 gFmt (m1 (gFld "Limits" "most_passes") (mN 0))), (ret (.str ", ")), (m1 gFmt (m1 (gFld "Limits" "most_fails") (mN 0))), (ret (.str ", ")), (m1 gFmt (m1 (gFld "Limits" "most_checks") (mN 0))), (ret (.str ", settled ")), (m1 gFmt (m1 (gFld "Limits" "least_stay") (mN 0))), (ret (.str ")"))] Str.empty))
def f_LimitsU_reprU : Fnc := mkF0 1 false b_LimitsU_reprU
abbrev st__law_is_seen : Stmt := top 23
def t__law_is_seen_1 : M Bool :=
  mYes
def e__law_is_seen_1 : M D :=
  (m1 gStr (mN 5))
def b__law_is_seen : M Fl :=
  (sq (sSet 2 (mTup (mCons (m1 (gFld "Limits" "most_passes") (mN 0)) (mCons (m1 (gFld "Limits" "most_fails") (mN 0)) (mCons (m1 (gFld "Limits" "most_checks") (mN 0)) (mCons (m1 (gFld "Limits" "least_stay") (mN 0)) mNil))))))
    (sq (sSet 3 (mMt gJoin (ret (.str ", ")) (mCons (mLc [5] (mItems (mSl (mN 1) mNoP (mPart (ret (.int 3))))) (gN 5) t__law_is_seen_1 e__law_is_seen_1) mNil)))
    (sq (sSet 4 (m2 gAdd (m2 gAdd (m2 gAdd (m2 gAdd (ret (.str "Limits(")) (mN 3)) (ret (.str ", settled "))) (m1 gStr (m2 gIx (mN 1) (ret (.int 3))))) (ret (.str ")"))))
    (sRet (mAndV (mC0 f__law_same [] (mCons (mN 2) (mCons (mN 1) mNil))) (m2 gEq (mReprO "Limits" f_LimitsU_reprU gRepr (mN 0)) (mN 4)))))))
def f__law_is_seen : Fnc := mkF0 6 false b__law_is_seen
abbrev st_Limits_numbers : Stmt := inClass (top 12) 5
def b_Limits_numbers : M Fl :=
  (sRet (mTup (mCons (m1 (gFld "Limits" "most_passes") (mN 0)) (mCons (m1 (gFld "Limits" "most_fails") (mN 0)) (mCons (m1 (gFld "Limits" "most_checks") (mN 0)) (mCons (m1 (gFld "Limits" "least_stay") (mN 0)) mNil))))))
def f_Limits_numbers : Fnc := mkF0 1 false b_Limits_numbers
abbrev st_LimitsU_eqU : Stmt := inClass (top 12) 6
def b_LimitsU_eqU : M Fl :=
  (sRet (mAndV (mIsi isC_Limits (mN 1)) (m2 gEq (mMe0 "Limits" "numbers" f_Limits_numbers (mN 0)) (mMe0 "Limits" "numbers" f_Limits_numbers (mN 1)))))
def f_LimitsU_eqU : Fnc := mkF0 2 false b_LimitsU_eqU
abbrev st__law_pick : Stmt := top 19
def b__law_pick : M Fl :=
  (sRet (m2 gIx (mN 1) (mC1 f__law_draw 0 [] (mCons (m1 gLen (mN 1)) mNil))))
def f__law_pick : Fnc := mkF1 2 false b__law_pick
abbrev st__law_odd : Stmt := top 20
def b__law_odd : M Fl :=
  (sq (sSet 1 (mLst (mCons (ret .non) (mCons (ret (.bl true)) (mCons (ret (.bl false)) (mCons (m1 gNeg (ret (.int 1))) (mCons (ret (.int 0)) (mCons (ret (.int 1)) (mCons (ret (.int 2)) (mCons (ret (.int 7)) (mCons (m2 gPow (ret (.int 10)) (ret (.int 11))) (mCons (ret (.str "")) (mCons (ret (.str "U")) (mCons (ret (.str "D")) (mCons (ret (.str "+")) (mCons (ret (.str "-")) (mCons (ret (.str "UD")) (mCons (ret (.str "+-")) (mCons (mTup mNil) (mCons (mLst mNil) (mCons (ret (.dk [])) (mCons (mTup (mCons (ret (.int 0)) mNil)) (mCons (mLst (mCons (ret (.int 0)) mNil)) mNil)))))))))))))))))))))))
    (sq (sSet 1 (m2 gAdd (mN 1) (mLst (mCons (mDisp [((ret (.int 0)), (ret (.int 1)))]) (mCons (mTup (mCons (ret (.str "U")) (mCons (ret (.int 0)) (mCons (ret (.int 0)) mNil)))) (mCons (mTup (mCons (mTup (mCons (ret (.str "U")) (mCons (ret (.int 0)) (mCons (ret (.int 0)) mNil)))) mNil)) (mCons (mLst (mCons (mTup (mCons (ret (.str "U")) (mCons (ret (.int 0)) (mCons (ret (.int 0)) mNil)))) mNil)) (mCons (mTup (mCons (ret (.str "U")) (mCons (ret (.str "+")) mNil))) (mCons (mTup (mCons (ret (.str "")) (mCons (ret (.str "")) mNil))) (mCons (ret (.str "00U1")) (mCons (mTup (mCons (ret .non) mNil)) (mCons (ret (.str "?")) mNil))))))))))))
    (sRet (mC1 f__law_pick 0 [] (mCons (mN 1) mNil)))))
def f__law_odd : Fnc := mkF1 2 false b__law_odd
abbrev st__law_wrongs : Stmt := top 24
def l__law_wrongs_1 : M Fl :=
  (sApp 1 (m2 gAdd (m2 gAdd (mSl (mN 0) mNoP (mPart (mN 2))) (mTup (mCons (mN 3) mNil))) (mSl (mN 0) (mPart (m2 gAdd (mN 2) (ret (.int 1)))) mNoP)))
def l__law_wrongs_2 : M Fl :=
  (sFor (mItems (mLst (mCons (m1 gNeg (ret (.int 1))) (mCons (m2 gIx (mLst (mCons (ret (.int 6)) (mCons (ret (.int 6)) (mCons (ret (.int 6)) (mCons (ret (.int 5)) mNil))))) (mN 2)) (mCons (ret .non) (mCons (ret (.bl true)) (mCons (ret (.bl false)) (mCons (ret (.str "1")) (mCons (mTup (mCons (ret (.int 1)) mNil)) (mCons (mLst (mCons (ret (.int 1)) mNil)) (mCons (m2 gPow (ret (.int 10)) (ret (.int 11))) mNil))))))))))) (gN 3) l__law_wrongs_1)
def b__law_wrongs : M Fl :=
  (sq (sSetO 1 (mLst mNil))
    (sq (sFor (mRng (mCons (ret (.int 4)) mNil)) (gN 2) l__law_wrongs_2)
    (sRet (m2 gAdd (mN 1) (mLst (mCons (m2 gAdd (m2 gAdd (mSl (mN 0) mNoP (mPart (ret (.int 2)))) (mTup (mCons (ret (.int 0)) mNil))) (mSl (mN 0) (mPart (ret (.int 3))) mNoP)) (mCons (m2 gAdd (mSl (mN 0) mNoP (mPart (ret (.int 3)))) (mTup (mCons (ret (.int 0)) mNil))) mNil)))))))
def f__law_wrongs : Fnc := mkF0 4 false b__law_wrongs
abbrev st__law_refused : Stmt := top 22
def u__law_refused_1 (ex : Ex) : M Fl :=
  (sRet (mAndV (mIsE isE_ValueError ex) (mNotV (mIsE isE_LimitsError ex))))
def b__law_refused : M Fl :=
  (sq (sTry 1 ct_NumberError (sDrop (mC0 f__law_limits [] (mCons (mN 0) mNil))) u__law_refused_1)
    (sRet (ret (.bl false))))
def f__law_refused : Fnc := mkF0 2 false b__law_refused
abbrev st_law : Stmt := top 25
def t_law_1 : M Bool :=
  (mNot (mT (mC0 f__law_refused [] (mCons (mN 12) mNil))))
def e_law_1 : M D :=
  (ret (.int 1))
def l_law_1 : M Fl :=
  (sq (sPar (mCons (mC0 f__law_limits [] (mCons (mN 8) mNil)) (mCons (m2 gEq (mN 4) (mN 8)) mNil)) (gsC (gN 9) (gsC (gN 10) gsN)))
    (sIf (mNot (mT (mC0 f__law_same [] (mCons (mLst (mCons (mCmpO "Limits" nf_Limits f_LimitsU_eqU gEq (mN 5) (mN 9)) (mCons (mNeO "Limits" nf_Limits f_LimitsU_eqU gNe (mN 5) (mN 9)) mNil))) (mCons (mLst (mCons (mN 10) (mCons (mNotV (mN 10)) mNil))) mNil))))) (sRet (ret (.bl false))) skp))
def l_law_2 : M Fl :=
  (sIf (mNot (mT (mC0 f__law_same [] (mCons (mLst (mCons (mCmpO "Limits" nf_Limits f_LimitsU_eqU gEq (mN 5) (mN 11)) (mCons (mNeO "Limits" nf_Limits f_LimitsU_eqU gNe (mN 5) (mN 11)) mNil))) (mCons (mLst (mCons (ret (.bl false)) (mCons (ret (.bl true)) mNil))) mNil))))) (sRet (ret (.bl false))) skp)
def l_law_3 : M Fl :=
  (sq (sSet 5 (mC0 f__law_limits [] (mCons (mN 4) mNil)))
    (sq (sSet 6 (mMk "Limits" f_LimitsU_initU (fun ds es => ds ++ [.int 1]) (mCons (m2 gIx (mN 4) (ret (.int 0))) (mCons (m2 gIx (mN 4) (ret (.int 1))) (mCons (m2 gIx (mN 4) (ret (.int 2))) mNil))) mNil))
    (sq (sIf (mOr (mNot (mT (mC0 f__law_is_seen [] (mCons (mN 5) (mCons (mN 4) mNil))))) (mNot (mT (mC0 f__law_is_seen [] (mCons (mN 6) (mCons (m2 gAdd (mSl (mN 4) mNoP (mPart (ret (.int 3)))) (mTup (mCons (ret (.int 1)) mNil))) mNil)))))) (sRet (ret (.bl false))) skp)
    (sq (sSet 7 (mLst (mCons (mN 4) (mCons (mC1 f__law_numbers 2 [] (mCons (ret (.int 5)) mNil)) (mCons (m2 gAdd (mSl (mN 4) mNoP (mPart (ret (.int 3)))) (mTup (mCons (ret (.int 1)) mNil))) mNil)))))
    (sq (sFor (mItems (m2 gAdd (mN 7) (mLst (mCons (m2 gAdd (mTup (mCons (m2 gIx (mN 4) (ret (.int 1))) (mCons (m2 gIx (mN 4) (ret (.int 0))) mNil))) (mSl (mN 4) (mPart (ret (.int 2))) mNoP)) mNil)))) (gN 8) l_law_1)
    (sq (sFor (mItems (mLst (mCons (mC1 f__law_odd 2 [] mNil) (mCons (mN 4) (mCons (ret .non) (mCons (mReprO "Limits" f_LimitsU_reprU gRepr (mN 5)) mNil)))))) (gN 11) l_law_2)
    (sIf (mT (m2 gNe (mLc [12] (mItems (mC0 f__law_wrongs [] (mCons (mN 4) mNil))) (gN 12) t_law_1 e_law_1) (mLst mNil))) (sRet (ret (.bl false))) skp)))))))
def l_law_4 : M Fl :=
  (sq (sSetO 2 (mC0 f__law_pen [] (mCons (mC0 f__law_cell_at [] (mCons (mN 0) (mCons (mN 1) mNil))) mNil)))
    (sq (sSet 3 (mTup (mCons (mC1 f__law_draw 2 [] (mCons (ret (.int 6)) mNil)) (mCons (mC1 f__law_draw 2 [] (mCons (ret (.int 6)) mNil)) (mCons (ret (.int 5)) (mCons (ret (.int 2)) mNil))))))
    (sFor (mItems (mLst (mCons (mC1 f__law_numbers 2 [] (mCons (ret (.int 5)) mNil)) (mCons (mTup (mCons (ret (.int 5)) (mCons (ret (.int 5)) (mCons (ret (.int 5)) (mCons (ret (.int 4)) mNil))))) (mCons (mTup (mCons (ret (.int 0)) (mCons (ret (.int 0)) (mCons (ret (.int 1)) (mCons (ret (.int 1)) mNil))))) (mCons (mN 3) mNil)))))) (gN 4) l_law_3)))
def b_law : M Fl :=
  (sq (sFor (mRng (mCons (mCal gMax2 (mCons (ret (.int 1)) (mCons (mCal gMin2 (mCons (m1 gLen (mN 0)) (mCons (ret (.int 3)) mNil))) mNil))) mNil)) (gN 1) l_law_4)
    (sRet (ret (.bl true))))
def f_law : Fnc := mkF0 13 false b_law
abbrev st_Limits_false_passes : Stmt := inClass (top 12) 1
abbrev st_Limits_false_fails : Stmt := inClass (top 12) 2
abbrev st_Limits_span : Stmt := inClass (top 12) 3
abbrev st_Limits_settled : Stmt := inClass (top 12) 4
end Lw
namespace Lw
open PySem hiding start
open L2 Sr
theorem s_pen (c : Int) : ∃ o, f__law_pen .non [.int c] = .ok o .non ∧ PenOk o := by
  refine ⟨.lst [.int (if c - 10 ^ 18 > 0 then c - 10 ^ 18 else 0), .int (c % 2147483629 + 1), .int 0], ?_, _, _, _, rfl, ?_, ?_, ?_⟩
  · have h : cPow 10 18 = true := by decide
    simp [f__law_pen, b__law_pen, h, sizeLine, mkF0, mkF1, fin0, fin1, st0, st1, bnd, Sr.ret, opt, mN, mNB, mB, der, m1, m2, m2b, m2r, mT, asB, mChain, mAnd, mOr, mNot, mAndV, mOrV, mNotV, mIf, mNil, mCons, mTup, mLst, mIsN, mNotN, isNon, mCal, mCal1, mIsi, mFldB, gFld, mC0, mC1, ap0, ap1, chkO, chkL, putL, mMk, apM, skp, sq, sDrop, sRet, sRetO, sIf, sSet, sSetO, sAsg, sPar, gN, gsN, gsC, gT, gA, sApp, sPutI, sNever, mItems, dItems, mRng, mRng2, gRng, gRng2, sFor, turn, gI, gI0, gLt, gLe, gGt, gGe, gAdd, gAddI, gAddS, gAddT, gAddL, Sr.gSub, gMul, gMulI, gDiv, gMod, gPow, gNeg, gEq, gNe, dEq, eqS, gLen, gInt1, gMax2, gMin2, gAbs, gIx, gLtT, dInts, putD, gIsi, dKind, tInt, tOnly, List.map_cons, List.map_nil, List.length_cons, List.length_nil, List.cons_append, List.nil_append, List.getElem?_cons_zero, List.getElem?_cons_succ, List.set_cons_zero, List.set_cons_succ, List.replicate, Option.some_or, Option.none_or, Option.map_some, Option.map_none, Option.bind_some, Option.bind_none]
  · split <;> omega
  · omega
  · omega
theorem s_draw (o : D) (many : Int) (hv : PenOk o) (h0 : 0 < many) (h1 : many < 1073741824) : ∃ r o', f__law_draw o [.int many] = .ok (.int r) o' ∧ 0 ≤ r ∧ r < many ∧ PenOk o' := by
  obtain ⟨a, b, c, rfl, ha, hb, hb2⟩ := hv
  have hd : ∀ x, cDiv x many = true := fun x => by unfold cDiv; simp; omega
  by_cases h : 0 < a
  · refine ⟨a % many, .lst [.int (a / many), .int b, .int c], ?_, Int.emod_nonneg _ (by omega), Int.emod_lt_of_pos _ h0, _, _, _, rfl, Int.ediv_nonneg ha (by omega), hb, hb2⟩
    simp [f__law_draw, b__law_draw, h, h0, hd, atI, ixN, mkF0, mkF1, fin0, fin1, st0, st1, bnd, Sr.ret, opt, mN, mNB, mB, der, m1, m2, m2b, m2r, mT, asB, mChain, mAnd, mOr, mNot, mAndV, mOrV, mNotV, mIf, mNil, mCons, mTup, mLst, mIsN, mNotN, isNon, mCal, mCal1, mIsi, mFldB, gFld, mC0, mC1, ap0, ap1, chkO, chkL, putL, mMk, apM, skp, sq, sDrop, sRet, sRetO, sIf, sSet, sSetO, sAsg, sPar, gN, gsN, gsC, gT, gA, sApp, sPutI, sNever, mItems, dItems, mRng, mRng2, gRng, gRng2, sFor, turn, gI, gI0, gLt, gLe, gGt, gGe, gAdd, gAddI, gAddS, gAddT, gAddL, Sr.gSub, gMul, gMulI, gDiv, gMod, gPow, gNeg, gEq, gNe, dEq, eqS, gLen, gInt1, gMax2, gMin2, gAbs, gIx, gLtT, dInts, putD, gIsi, dKind, tInt, tOnly, List.map_cons, List.map_nil, List.length_cons, List.length_nil, List.cons_append, List.nil_append, List.getElem?_cons_zero, List.getElem?_cons_succ, List.set_cons_zero, List.set_cons_succ, List.replicate, Option.some_or, Option.none_or, Option.map_some, Option.map_none, Option.bind_some, Option.bind_none]
  · generalize hb' : (b * 48271 + 1009 * (c + 1) + 7) % 2147483647 = b'
    have e1 : 0 ≤ b' ∧ b' < 2147483647 := by omega
    generalize hm : (b' * b' + 69621 * b' + 11) % 2147483629 = m
    have e2 : 0 ≤ m ∧ m < 2147483629 := by omega
    have c1 : cMul b 48271 = true := cmul_l (by omega) (by omega)
    have c2 : cMul 1009 (c + 1) = true := cmul_l (by omega) (by omega)
    have c3 : cMul b' b' = true := cmul_l (by omega) (by omega)
    have c4 : cMul 69621 b' = true := cmul_l (by omega) (by omega)
    have c5 : cMul m m = true := cmul_l (by omega) (by omega)
    have c6 : cMul 40014 m = true := cmul_l (by omega) (by omega)
    have c7 : ∀ x, cDiv x 16 = true := fun x => by unfold cDiv; simp
    refine ⟨((m * m + 40014 * m) % 2147483587 / 16) % many, .lst [.int a, .int b', .int (c + 1)], ?_, Int.emod_nonneg _ (by omega), Int.emod_lt_of_pos _ h0, _, _, _, rfl, ha, by omega, by omega⟩
    simp [f__law_draw, b__law_draw, h, h0, hd, hb', hm, c1, c2, c3, c4, c5, c6, c7, atI, ixN, mkF0, mkF1, fin0, fin1, st0, st1, bnd, Sr.ret, opt, mN, mNB, mB, der, m1, m2, m2b, m2r, mT, asB, mChain, mAnd, mOr, mNot, mAndV, mOrV, mNotV, mIf, mNil, mCons, mTup, mLst, mIsN, mNotN, isNon, mCal, mCal1, mIsi, mFldB, gFld, mC0, mC1, ap0, ap1, chkO, chkL, putL, mMk, apM, skp, sq, sDrop, sRet, sRetO, sIf, sSet, sSetO, sAsg, sPar, gN, gsN, gsC, gT, gA, sApp, sPutI, sNever, mItems, dItems, mRng, mRng2, gRng, gRng2, sFor, turn, gI, gI0, gLt, gLe, gGt, gGe, gAdd, gAddI, gAddS, gAddT, gAddL, Sr.gSub, gMul, gMulI, gDiv, gMod, gPow, gNeg, gEq, gNe, dEq, eqS, gLen, gInt1, gMax2, gMin2, gAbs, gIx, gLtT, dInts, putD, gIsi, dKind, tInt, tOnly, List.map_cons, List.map_nil, List.length_cons, List.length_nil, List.cons_append, List.nil_append, List.getElem?_cons_zero, List.getElem?_cons_succ, List.set_cons_zero, List.set_cons_succ, List.replicate, Option.some_or, Option.none_or, Option.map_some, Option.map_none, Option.bind_some, Option.bind_none]
theorem s_cell (ns : List Int) (k : Int) (hk : 0 ≤ k) : ∃ c, f__law_cell_at .non [.scr ns, .int k] = .ok (.int c) .non := by
  by_cases h : k < ns.length
  · have hi : k.toNat < ns.length := by omega
    refine ⟨ns[k.toNat], ?_⟩
    simp [f__law_cell_at, b__law_cell_at, h, hk, hi, atI, ixN, mkF0, mkF1, fin0, fin1, st0, st1, bnd, Sr.ret, opt, mN, mNB, mB, der, m1, m2, m2b, m2r, mT, asB, mChain, mAnd, mOr, mNot, mAndV, mOrV, mNotV, mIf, mNil, mCons, mTup, mLst, mIsN, mNotN, isNon, mCal, mCal1, mIsi, mFldB, gFld, mC0, mC1, ap0, ap1, chkO, chkL, putL, mMk, apM, skp, sq, sDrop, sRet, sRetO, sIf, sSet, sSetO, sAsg, sPar, gN, gsN, gsC, gT, gA, sApp, sPutI, sNever, mItems, dItems, mRng, mRng2, gRng, gRng2, sFor, turn, gI, gI0, gLt, gLe, gGt, gGe, gAdd, gAddI, gAddS, gAddT, gAddL, Sr.gSub, gMul, gMulI, gDiv, gMod, gPow, gNeg, gEq, gNe, dEq, eqS, gLen, gInt1, gMax2, gMin2, gAbs, gIx, gLtT, dInts, putD, gIsi, dKind, tInt, tOnly, List.map_cons, List.map_nil, List.length_cons, List.length_nil, List.cons_append, List.nil_append, List.getElem?_cons_zero, List.getElem?_cons_succ, List.set_cons_zero, List.set_cons_succ, List.replicate, Option.some_or, Option.none_or, Option.map_some, Option.map_none, Option.bind_some, Option.bind_none]
  · refine ⟨0, ?_⟩
    simp [f__law_cell_at, b__law_cell_at, h, mkF0, mkF1, fin0, fin1, st0, st1, bnd, Sr.ret, opt, mN, mNB, mB, der, m1, m2, m2b, m2r, mT, asB, mChain, mAnd, mOr, mNot, mAndV, mOrV, mNotV, mIf, mNil, mCons, mTup, mLst, mIsN, mNotN, isNon, mCal, mCal1, mIsi, mFldB, gFld, mC0, mC1, ap0, ap1, chkO, chkL, putL, mMk, apM, skp, sq, sDrop, sRet, sRetO, sIf, sSet, sSetO, sAsg, sPar, gN, gsN, gsC, gT, gA, sApp, sPutI, sNever, mItems, dItems, mRng, mRng2, gRng, gRng2, sFor, turn, gI, gI0, gLt, gLe, gGt, gGe, gAdd, gAddI, gAddS, gAddT, gAddL, Sr.gSub, gMul, gMulI, gDiv, gMod, gPow, gNeg, gEq, gNe, dEq, eqS, gLen, gInt1, gMax2, gMin2, gAbs, gIx, gLtT, dInts, putD, gIsi, dKind, tInt, tOnly, List.map_cons, List.map_nil, List.length_cons, List.length_nil, List.cons_append, List.nil_append, List.getElem?_cons_zero, List.getElem?_cons_succ, List.set_cons_zero, List.set_cons_succ, List.replicate, Option.some_or, Option.none_or, Option.map_some, Option.map_none, Option.bind_some, Option.bind_none]
theorem s_numbers (o : D) (hv : PenOk o) : ∃ a b c d o', f__law_numbers o [.int 5] = .ok (.tup [.int a, .int b, .int c, .int d]) o' ∧ (0 ≤ a ∧ a ≤ 5) ∧ (0 ≤ b ∧ b ≤ 5) ∧ (1 ≤ c ∧ c ≤ 5) ∧ (1 ≤ d ∧ d ≤ 4) ∧ PenOk o' := by
  obtain ⟨r1, o1, e1, h1, h1', v1⟩ := s_draw o 5 hv (by omega) (by omega)
  obtain ⟨r2, o2, e2, h2, h2', v2⟩ := s_draw o1 (if 1 + r1 + 2 < 6 then 1 + r1 + 2 else 6) v1 (by split <;> omega) (by split <;> omega)
  obtain ⟨r3, o3, e3, h3, h3', v3⟩ := s_draw o2 (if 1 + r1 + 2 < 6 then 1 + r1 + 2 else 6) v2 (by split <;> omega) (by split <;> omega)
  obtain ⟨r4, o4, e4, h4, h4', v4⟩ := s_draw o3 4 v3 (by omega) (by omega)
  refine ⟨r2, r3, 1 + r1, 1 + r4, o4, ?_, by split at h2' <;> omega, by split at h3' <;> omega, by omega, by omega, v4⟩
  simp [f__law_numbers, b__law_numbers, e1, e2, e3, e4, sizeLine, mkF0, mkF1, fin0, fin1, st0, st1, bnd, Sr.ret, opt, mN, mNB, mB, der, m1, m2, m2b, m2r, mT, asB, mChain, mAnd, mOr, mNot, mAndV, mOrV, mNotV, mIf, mNil, mCons, mTup, mLst, mIsN, mNotN, isNon, mCal, mCal1, mIsi, mFldB, gFld, mC0, mC1, ap0, ap1, chkO, chkL, putL, mMk, apM, skp, sq, sDrop, sRet, sRetO, sIf, sSet, sSetO, sAsg, sPar, gN, gsN, gsC, gT, gA, sApp, sPutI, sNever, mItems, dItems, mRng, mRng2, gRng, gRng2, sFor, turn, gI, gI0, gLt, gLe, gGt, gGe, gAdd, gAddI, gAddS, gAddT, gAddL, Sr.gSub, gMul, gMulI, gDiv, gMod, gPow, gNeg, gEq, gNe, dEq, eqS, gLen, gInt1, gMax2, gMin2, gAbs, gIx, gLtT, dInts, putD, gIsi, dKind, tInt, tOnly, List.map_cons, List.map_nil, List.length_cons, List.length_nil, List.cons_append, List.nil_append, List.getElem?_cons_zero, List.getElem?_cons_succ, List.set_cons_zero, List.set_cons_succ, List.replicate, Option.some_or, Option.none_or, Option.map_some, Option.map_none, Option.bind_some, Option.bind_none]
theorem s_pick (o : D) (ds : List D) (hv : PenOk o) (h0 : 0 < ds.length) (h1 : ds.length < 100) : ∃ d o', f__law_pick o [.lst ds] = .ok d o' ∧ d ∈ ds ∧ PenOk o' := by
  obtain ⟨r, o1, e1, h2, h2', v1⟩ := s_draw o (ds.length : Int) hv (by omega) (by omega)
  have hi : r.toNat < ds.length := by omega
  refine ⟨ds[r.toNat], o1, ?_, List.getElem_mem hi, v1⟩
  simp [f__law_pick, b__law_pick, e1, atI, ixN, h2, h2', hi, mkF0, mkF1, fin0, fin1, st0, st1, bnd, Sr.ret, opt, mN, mNB, mB, der, m1, m2, m2b, m2r, mT, asB, mChain, mAnd, mOr, mNot, mAndV, mOrV, mNotV, mIf, mNil, mCons, mTup, mLst, mIsN, mNotN, isNon, mCal, mCal1, mIsi, mFldB, gFld, mC0, mC1, ap0, ap1, chkO, chkL, putL, mMk, apM, skp, sq, sDrop, sRet, sRetO, sIf, sSet, sSetO, sAsg, sPar, gN, gsN, gsC, gT, gA, sApp, sPutI, sNever, mItems, dItems, mRng, mRng2, gRng, gRng2, sFor, turn, gI, gI0, gLt, gLe, gGt, gGe, gAdd, gAddI, gAddS, gAddT, gAddL, Sr.gSub, gMul, gMulI, gDiv, gMod, gPow, gNeg, gEq, gNe, dEq, eqS, gLen, gInt1, gMax2, gMin2, gAbs, gIx, gLtT, dInts, putD, gIsi, dKind, tInt, tOnly, List.map_cons, List.map_nil, List.length_cons, List.length_nil, List.cons_append, List.nil_append, List.getElem?_cons_zero, List.getElem?_cons_succ, List.set_cons_zero, List.set_cons_succ, List.replicate, Option.some_or, Option.none_or, Option.map_some, Option.map_none, Option.bind_some, Option.bind_none]
theorem s_is_integer_int (a : Int) : f_is_integer .non [.int a] = .ok (.bl true) .non := rfl
theorem s_is_between (a lo hi : Int) : f_is_between .non [.int a, .int lo, .int hi] = .ok (.bl (decide (lo ≤ a) && decide (a ≤ hi))) .non := by
  by_cases h : lo ≤ a <;> simp [f_is_between, b_is_between, s_is_integer_int, h, mkF0, mkF1, fin0, fin1, st0, st1, bnd, Sr.ret, opt, mN, mNB, mB, der, m1, m2, m2b, m2r, mT, asB, mChain, mAnd, mOr, mNot, mAndV, mOrV, mNotV, mIf, mNil, mCons, mTup, mLst, mIsN, mNotN, isNon, mCal, mCal1, mIsi, mFldB, gFld, mC0, mC1, ap0, ap1, chkO, chkL, putL, mMk, apM, skp, sq, sDrop, sRet, sRetO, sIf, sSet, sSetO, sAsg, sPar, gN, gsN, gsC, gT, gA, sApp, sPutI, sNever, mItems, dItems, mRng, mRng2, gRng, gRng2, sFor, turn, gI, gI0, gLt, gLe, gGt, gGe, gAdd, gAddI, gAddS, gAddT, gAddL, Sr.gSub, gMul, gMulI, gDiv, gMod, gPow, gNeg, gEq, gNe, dEq, eqS, gLen, gInt1, gMax2, gMin2, gAbs, gIx, gLtT, dInts, putD, gIsi, dKind, tInt, tOnly, List.map_cons, List.map_nil, List.length_cons, List.length_nil, List.cons_append, List.nil_append, List.getElem?_cons_zero, List.getElem?_cons_succ, List.set_cons_zero, List.set_cons_succ, List.replicate, Option.some_or, Option.none_or, Option.map_some, Option.map_none, Option.bind_some, Option.bind_none]
theorem s_between {a lo hi : Int} (h1 : lo ≤ a) (h2 : a ≤ hi) : f_is_between .non [.int a, .int lo, .int hi] = .ok (.bl true) .non := by
  rw [s_is_between, decide_eq_true h1, decide_eq_true h2]; rfl
abbrev lim (a b c d : Int) : D := .obj "Limits" [("most_passes", .int a), ("most_fails", .int b), ("most_checks", .int c), ("least_stay", .int d)]
theorem s_init (a b c d : Int) (h1 : 0 ≤ a ∧ a ≤ 5) (h2 : 0 ≤ b ∧ b ≤ 5) (h3 : 1 ≤ c ∧ c ≤ 5) (h4 : 1 ≤ d ∧ d ≤ 4) : f_LimitsU_initU (.obj "Limits" []) [.int a, .int b, .int c, .int d] = .ok .non (lim a b c d) := by
  have n1 : ¬ (("most_passes" : Str) = "most_fails") := by decide
  have n2 : ¬ (("most_passes" : Str) = "most_checks") := by decide
  have n3 : ¬ (("most_fails" : Str) = "most_checks") := by decide
  have n4 : ¬ (("most_passes" : Str) = "least_stay") := by decide
  have n5 : ¬ (("most_fails" : Str) = "least_stay") := by decide
  have n6 : ¬ (("most_checks" : Str) = "least_stay") := by decide
  simp [f_LimitsU_initU, b_LimitsU_initU, l_LimitsU_initU_1, s_between h1.1 h1.2, s_between h2.1 h2.2, s_between h3.1 h3.2, s_between h4.1 h4.2, forL, lp, n1, n2, n3, n4, n5, n6, sizeLine, mkF0, mkF1, fin0, fin1, st0, st1, bnd, Sr.ret, opt, mN, mNB, mB, der, m1, m2, m2b, m2r, mT, asB, mChain, mAnd, mOr, mNot, mAndV, mOrV, mNotV, mIf, mNil, mCons, mTup, mLst, mIsN, mNotN, isNon, mCal, mCal1, mIsi, mFldB, gFld, mC0, mC1, ap0, ap1, chkO, chkL, putL, mMk, apM, skp, sq, sDrop, sRet, sRetO, sIf, sSet, sSetO, sAsg, sPar, gN, gsN, gsC, gT, gA, sApp, sPutI, sNever, mItems, dItems, mRng, mRng2, gRng, gRng2, sFor, turn, gI, gI0, gLt, gLe, gGt, gGe, gAdd, gAddI, gAddS, gAddT, gAddL, Sr.gSub, gMul, gMulI, gDiv, gMod, gPow, gNeg, gEq, gNe, dEq, eqS, gLen, gInt1, gMax2, gMin2, gAbs, gIx, gLtT, dInts, putD, gIsi, dKind, tInt, tOnly, List.map_cons, List.map_nil, List.length_cons, List.length_nil, List.cons_append, List.nil_append, List.getElem?_cons_zero, List.getElem?_cons_succ, List.set_cons_zero, List.set_cons_succ, List.replicate, Option.some_or, Option.none_or, Option.map_some, Option.map_none, Option.bind_some, Option.bind_none]
theorem s_limits (a b c d : Int) (h1 : 0 ≤ a ∧ a ≤ 5) (h2 : 0 ≤ b ∧ b ≤ 5) (h3 : 1 ≤ c ∧ c ≤ 5) (h4 : 1 ≤ d ∧ d ≤ 4) : f__law_limits .non [.tup [.int a, .int b, .int c, .int d]] = .ok (lim a b c d) .non := by
  simp [f__law_limits, b__law_limits, s_init a b c d h1 h2 h3 h4, atI, ixN, mkF0, mkF1, fin0, fin1, st0, st1, bnd, Sr.ret, opt, mN, mNB, mB, der, m1, m2, m2b, m2r, mT, asB, mChain, mAnd, mOr, mNot, mAndV, mOrV, mNotV, mIf, mNil, mCons, mTup, mLst, mIsN, mNotN, isNon, mCal, mCal1, mIsi, mFldB, gFld, mC0, mC1, ap0, ap1, chkO, chkL, putL, mMk, apM, skp, sq, sDrop, sRet, sRetO, sIf, sSet, sSetO, sAsg, sPar, gN, gsN, gsC, gT, gA, sApp, sPutI, sNever, mItems, dItems, mRng, mRng2, gRng, gRng2, sFor, turn, gI, gI0, gLt, gLe, gGt, gGe, gAdd, gAddI, gAddS, gAddT, gAddL, Sr.gSub, gMul, gMulI, gDiv, gMod, gPow, gNeg, gEq, gNe, dEq, eqS, gLen, gInt1, gMax2, gMin2, gAbs, gIx, gLtT, dInts, putD, gIsi, dKind, tInt, tOnly, List.map_cons, List.map_nil, List.length_cons, List.length_nil, List.cons_append, List.nil_append, List.getElem?_cons_zero, List.getElem?_cons_succ, List.set_cons_zero, List.set_cons_succ, List.replicate, Option.some_or, Option.none_or, Option.map_some, Option.map_none, Option.bind_some, Option.bind_none]
abbrev nh (a b c d : Int) : D := .tup [.int a, .int b, .int c, .int d]
theorem dig {i : Int} (h : 0 ≤ i ∧ i ≤ 5) : (Str.ofString (Int.repr i)).length = 1 ∧ i.natAbs.log2 < 1920 := by
  have H : ∀ n : Fin 6, (Str.ofString (Int.repr (n.val : Int))).length = 1 ∧ (n.val : Int).natAbs.log2 < 1920 := by decide +kernel
  have := H ⟨i.toNat, by omega⟩
  have e : ((i.toNat : Nat) : Int) = i := by omega
  rw [e] at this
  exact this
theorem s_same {d : D} {s : Str} (h : gRepr d = some (.str s)) : f__law_same .non [d, d] = .ok (.bl true) .non := by
  simp [f__law_same, b__law_same, h, mkF0, mkF1, fin0, fin1, st0, st1, bnd, Sr.ret, opt, mN, mNB, mB, der, m1, m2, m2b, m2r, mT, asB, mChain, mAnd, mOr, mNot, mAndV, mOrV, mNotV, mIf, mNil, mCons, mTup, mLst, mIsN, mNotN, isNon, mCal, mCal1, mIsi, mFldB, gFld, mC0, mC1, ap0, ap1, chkO, chkL, putL, mMk, apM, skp, sq, sDrop, sRet, sRetO, sIf, sSet, sSetO, sAsg, sPar, gN, gsN, gsC, gT, gA, sApp, sPutI, sNever, mItems, dItems, mRng, mRng2, gRng, gRng2, sFor, turn, gI, gI0, gLt, gLe, gGt, gGe, gAdd, gAddI, gAddS, gAddT, gAddL, Sr.gSub, gMul, gMulI, gDiv, gMod, gPow, gNeg, gEq, gNe, dEq, eqS, gLen, gInt1, gMax2, gMin2, gAbs, gIx, gLtT, dInts, putD, gIsi, dKind, tInt, tOnly, List.map_cons, List.map_nil, List.length_cons, List.length_nil, List.cons_append, List.nil_append, List.getElem?_cons_zero, List.getElem?_cons_succ, List.set_cons_zero, List.set_cons_succ, List.replicate, Option.some_or, Option.none_or, Option.map_some, Option.map_none, Option.bind_some, Option.bind_none]
theorem repr_nh {a b c d : Int} (h1 : 0 ≤ a ∧ a ≤ 5) (h2 : 0 ≤ b ∧ b ≤ 5) (h3 : 0 ≤ c ∧ c ≤ 5) (h4 : 0 ≤ d ∧ d ≤ 5) : ∃ s, gRepr (nh a b c d) = some (.str s) :=
  ⟨_, repr_tup (sh_tup (shl_cons (sh_int h1.1 (by omega)) (shl_cons (sh_int h2.1 (by omega)) (shl_cons (sh_int h3.1 (by omega)) (shl_cons (sh_int h4.1 (by omega)) shl_nil))))) (by omega) (by omega)⟩
theorem fld1 {x y : Int} {a b c d : Int} : gFld "Limits" "most_passes" (lim a b c d) = some (.int a) ∧ gFld "Limits" "most_fails" (lim a b c d) = some (.int b) ∧ gFld "Limits" "most_checks" (lim a b c d) = some (.int c) ∧ gFld "Limits" "least_stay" (lim a b c d) = some (.int d) := by
  have n1 : (("most_fails" : Str) == ("most_passes" : Str)) = false := by decide
  have n2 : (("most_checks" : Str) == ("most_passes" : Str)) = false := by decide
  have n3 : (("most_checks" : Str) == ("most_fails" : Str)) = false := by decide
  have n4 : (("least_stay" : Str) == ("most_passes" : Str)) = false := by decide
  have n5 : (("least_stay" : Str) == ("most_fails" : Str)) = false := by decide
  have n6 : (("least_stay" : Str) == ("most_checks" : Str)) = false := by decide
  simp [gFld, List.lookup, n1, n2, n3, n4, n5, n6]
theorem s_seen {a b c d : Int} (h1 : 0 ≤ a ∧ a ≤ 5) (h2 : 0 ≤ b ∧ b ≤ 5) (h3 : 0 ≤ c ∧ c ≤ 5) (h4 : 0 ≤ d ∧ d ≤ 5) : f__law_is_seen .non [lim a b c d, nh a b c d] = .ok (.bl true) .non := by
  obtain ⟨s, hs⟩ := repr_nh h1 h2 h3 h4
  have e1 := s_same hs
  obtain ⟨f1, f2, f3, f4⟩ := fld1 (x := 0) (y := 0) (a := a) (b := b) (c := c) (d := d)
  generalize lim a b c d = x at *
  obtain ⟨d1, k1⟩ := dig h1
  obtain ⟨d2, k2⟩ := dig h2
  obtain ⟨d3, k3⟩ := dig h3
  obtain ⟨d4, k4⟩ := dig h4
  have l1 : (Str.ofString "Limits(").length = 7 := by decide +kernel
  have l2 : (Str.ofString ", ").length = 2 := by decide +kernel
  have l3 : (Str.ofString ", settled ").length = 10 := by decide +kernel
  have l4 : (Str.ofString ")").length = 1 := by decide +kernel
  have l5 : Str.empty.length = 0 := rfl
  generalize hA : Str.ofString (Int.repr a) = A at *
  generalize hB : Str.ofString (Int.repr b) = B at *
  generalize hC : Str.ofString (Int.repr c) = C at *
  generalize hD : Str.ofString (Int.repr d) = E at *
  have hr : f_LimitsU_reprU .non [x] = .ok (.str (Str.empty ++ Str.ofString "Limits(" ++ A ++ Str.ofString ", " ++ B ++ Str.ofString ", " ++ C ++ Str.ofString ", settled " ++ E ++ Str.ofString ")")) .non := by
    simp [f_LimitsU_reprU, b_LimitsU_reprU, f1, f2, f3, f4, mJs, gFmt, asS, k1, k2, k3, k4, hA, hB, hC, hD, strLen_append, l1, l2, l3, l4, l5, d1, d2, d3, d4, sizeLine, mkF0, fin0, st0, bnd, Sr.ret, opt, mN, m1, sRet, List.replicate]
  have hj : gJoin (Str.ofString ", ") [.lst [.str A, .str B, .str C]] = some (.str (A ++ Str.ofString ", " ++ B ++ Str.ofString ", " ++ C)) := by
    simp [gJoin, gJoinL, dStrs, d1, d2, d3, l2]
    rfl
  have hcut : cutD [D.int a, .int b, .int c, .int d] none (some 3) = [.int a, .int b, .int c] := rfl
  have hnh : gIx (nh a b c d) (.int 3) = some (.int d) := rfl
  have hx : ∃ fs, x = .obj "Limits" fs := by
    cases x <;> simp [gFld] at f1
    rename_i c' fs
    exact ⟨fs, by rw [f1.1]⟩
  obtain ⟨fs, rfl⟩ := hx
  simp [gFld] at f1 f2 f3 f4
  simp [f__law_is_seen, b__law_is_seen, f1, f2, f3, f4, e1, hr, hj, hcut, t__law_is_seen_1, e__law_is_seen_1, mReprO, mMt, asS, mSl, gSl, mNoP, mPart, asI, mLc, lcL, mYes, wipE, rst, gStr, k1, k2, k3, k4, hA, hB, hC, hD, strLen_append, l1, l2, l3, l4, l5, d1, d2, d3, d4, sizeLine, atI, ixN, Str.empty_append, Str.append_assoc, mkF0, mkF1, fin0, fin1, st0, st1, bnd, Sr.ret, opt, mN, mNB, mB, der, m1, m2, m2b, m2r, mT, asB, mChain, mAnd, mOr, mNot, mAndV, mOrV, mNotV, mIf, mNil, mCons, mTup, mLst, mIsN, mNotN, isNon, mCal, mCal1, mIsi, mFldB, gFld, mC0, mC1, ap0, ap1, chkO, chkL, putL, mMk, apM, skp, sq, sDrop, sRet, sRetO, sIf, sSet, sSetO, sAsg, sPar, gN, gsN, gsC, gT, gA, sApp, sPutI, sNever, mItems, dItems, mRng, mRng2, gRng, gRng2, sFor, turn, gI, gI0, gLt, gLe, gGt, gGe, gAdd, gAddI, gAddS, gAddT, gAddL, Sr.gSub, gMul, gMulI, gDiv, gMod, gPow, gNeg, gEq, gNe, dEq, eqS, gLen, gInt1, gMax2, gMin2, gAbs, gIx, gLtT, dInts, putD, gIsi, dKind, tInt, tOnly, List.map_cons, List.map_nil, List.length_cons, List.length_nil, List.cons_append, List.nil_append, List.getElem?_cons_zero, List.getElem?_cons_succ, List.set_cons_zero, List.set_cons_succ, List.replicate, Option.some_or, Option.none_or, Option.map_some, Option.map_none, Option.bind_some, Option.bind_none]
def btw (v : D) (lo hi : Int) : Bool := match v with
  | .int i => decide (lo ≤ i) && decide (i ≤ hi)
  | _ => false
theorem s_btw (v : D) (lo hi : Int) (kd : Kd) (h : dKind v = some (.inl kd)) : f_is_between .non [v, .int lo, .int hi] = .ok (.bl (btw v lo hi)) .non := by
  cases v with
  | int i => exact s_is_between i lo hi
  | non => rfl
  | bl b => rfl
  | str z => rfl
  | byt z => rfl
  | lst z => rfl
  | tup z => rfl
  | dk z => rfl
  | dt z => rfl
  | obj c f => cases h
  | scr z => cases h
theorem s_bad (v0 v1 v2 v3 : D) (k0 k1 k2 k3 : Kd) (h0 : dKind v0 = some (.inl k0)) (h1 : dKind v1 = some (.inl k1)) (h2 : dKind v2 = some (.inl k2)) (h3 : dKind v3 = some (.inl k3)) (h : (btw v0 0 5 && (btw v1 0 5 && (btw v2 1 5 && btw v3 1 4))) = false) :
    f__law_refused .non [.tup [v0, v1, v2, v3]] = .ok (.bl true) .non := by
  have e0 := s_btw v0 0 5 k0 h0
  have e1 := s_btw v1 0 5 k1 h1
  have e2 := s_btw v2 1 5 k2 h2
  have e3 := s_btw v3 1 4 k3 h3
  have hi : f_LimitsU_initU (.obj "Limits" []) [v0, v1, v2, v3] = .exc ⟨"NumberError", []⟩ (.obj "Limits" []) := by
    cases b0 : btw v0 0 5 with
    | false =>
      rw [b0] at e0
      simp [f_LimitsU_initU, b_LimitsU_initU, l_LimitsU_initU_1, e0, forL, lp, sRaise, sizeLine, mkF0, mkF1, fin0, fin1, st0, st1, bnd, Sr.ret, opt, mN, mNB, mB, der, m1, m2, m2b, m2r, mT, asB, mChain, mAnd, mOr, mNot, mAndV, mOrV, mNotV, mIf, mNil, mCons, mTup, mLst, mIsN, mNotN, isNon, mCal, mCal1, mIsi, mFldB, gFld, mC0, mC1, ap0, ap1, chkO, chkL, putL, mMk, apM, skp, sq, sDrop, sRet, sRetO, sIf, sSet, sSetO, sAsg, sPar, gN, gsN, gsC, gT, gA, sApp, sPutI, sNever, mItems, dItems, mRng, mRng2, gRng, gRng2, sFor, turn, gI, gI0, gLt, gLe, gGt, gGe, gAdd, gAddI, gAddS, gAddT, gAddL, Sr.gSub, gMul, gMulI, gDiv, gMod, gPow, gNeg, gEq, gNe, dEq, eqS, gLen, gInt1, gMax2, gMin2, gAbs, gIx, gLtT, dInts, putD, gIsi, dKind, tInt, tOnly, List.map_cons, List.map_nil, List.length_cons, List.length_nil, List.cons_append, List.nil_append, List.getElem?_cons_zero, List.getElem?_cons_succ, List.set_cons_zero, List.set_cons_succ, List.replicate, Option.some_or, Option.none_or, Option.map_some, Option.map_none, Option.bind_some, Option.bind_none]
    | true =>
      rw [b0] at e0 h
      cases b1 : btw v1 0 5 with
      | false =>
        rw [b1] at e1
        simp [f_LimitsU_initU, b_LimitsU_initU, l_LimitsU_initU_1, e0, e1, forL, lp, sRaise, sizeLine, mkF0, mkF1, fin0, fin1, st0, st1, bnd, Sr.ret, opt, mN, mNB, mB, der, m1, m2, m2b, m2r, mT, asB, mChain, mAnd, mOr, mNot, mAndV, mOrV, mNotV, mIf, mNil, mCons, mTup, mLst, mIsN, mNotN, isNon, mCal, mCal1, mIsi, mFldB, gFld, mC0, mC1, ap0, ap1, chkO, chkL, putL, mMk, apM, skp, sq, sDrop, sRet, sRetO, sIf, sSet, sSetO, sAsg, sPar, gN, gsN, gsC, gT, gA, sApp, sPutI, sNever, mItems, dItems, mRng, mRng2, gRng, gRng2, sFor, turn, gI, gI0, gLt, gLe, gGt, gGe, gAdd, gAddI, gAddS, gAddT, gAddL, Sr.gSub, gMul, gMulI, gDiv, gMod, gPow, gNeg, gEq, gNe, dEq, eqS, gLen, gInt1, gMax2, gMin2, gAbs, gIx, gLtT, dInts, putD, gIsi, dKind, tInt, tOnly, List.map_cons, List.map_nil, List.length_cons, List.length_nil, List.cons_append, List.nil_append, List.getElem?_cons_zero, List.getElem?_cons_succ, List.set_cons_zero, List.set_cons_succ, List.replicate, Option.some_or, Option.none_or, Option.map_some, Option.map_none, Option.bind_some, Option.bind_none]
      | true =>
        rw [b1] at e1 h
        cases b2 : btw v2 1 5 with
        | false =>
          rw [b2] at e2
          simp [f_LimitsU_initU, b_LimitsU_initU, l_LimitsU_initU_1, e0, e1, e2, forL, lp, sRaise, sizeLine, mkF0, mkF1, fin0, fin1, st0, st1, bnd, Sr.ret, opt, mN, mNB, mB, der, m1, m2, m2b, m2r, mT, asB, mChain, mAnd, mOr, mNot, mAndV, mOrV, mNotV, mIf, mNil, mCons, mTup, mLst, mIsN, mNotN, isNon, mCal, mCal1, mIsi, mFldB, gFld, mC0, mC1, ap0, ap1, chkO, chkL, putL, mMk, apM, skp, sq, sDrop, sRet, sRetO, sIf, sSet, sSetO, sAsg, sPar, gN, gsN, gsC, gT, gA, sApp, sPutI, sNever, mItems, dItems, mRng, mRng2, gRng, gRng2, sFor, turn, gI, gI0, gLt, gLe, gGt, gGe, gAdd, gAddI, gAddS, gAddT, gAddL, Sr.gSub, gMul, gMulI, gDiv, gMod, gPow, gNeg, gEq, gNe, dEq, eqS, gLen, gInt1, gMax2, gMin2, gAbs, gIx, gLtT, dInts, putD, gIsi, dKind, tInt, tOnly, List.map_cons, List.map_nil, List.length_cons, List.length_nil, List.cons_append, List.nil_append, List.getElem?_cons_zero, List.getElem?_cons_succ, List.set_cons_zero, List.set_cons_succ, List.replicate, Option.some_or, Option.none_or, Option.map_some, Option.map_none, Option.bind_some, Option.bind_none]
        | true =>
          rw [b2] at e2 h
          cases b3 : btw v3 1 4 with
          | false =>
            rw [b3] at e3
            simp [f_LimitsU_initU, b_LimitsU_initU, l_LimitsU_initU_1, e0, e1, e2, e3, forL, lp, sRaise, sizeLine, mkF0, mkF1, fin0, fin1, st0, st1, bnd, Sr.ret, opt, mN, mNB, mB, der, m1, m2, m2b, m2r, mT, asB, mChain, mAnd, mOr, mNot, mAndV, mOrV, mNotV, mIf, mNil, mCons, mTup, mLst, mIsN, mNotN, isNon, mCal, mCal1, mIsi, mFldB, gFld, mC0, mC1, ap0, ap1, chkO, chkL, putL, mMk, apM, skp, sq, sDrop, sRet, sRetO, sIf, sSet, sSetO, sAsg, sPar, gN, gsN, gsC, gT, gA, sApp, sPutI, sNever, mItems, dItems, mRng, mRng2, gRng, gRng2, sFor, turn, gI, gI0, gLt, gLe, gGt, gGe, gAdd, gAddI, gAddS, gAddT, gAddL, Sr.gSub, gMul, gMulI, gDiv, gMod, gPow, gNeg, gEq, gNe, dEq, eqS, gLen, gInt1, gMax2, gMin2, gAbs, gIx, gLtT, dInts, putD, gIsi, dKind, tInt, tOnly, List.map_cons, List.map_nil, List.length_cons, List.length_nil, List.cons_append, List.nil_append, List.getElem?_cons_zero, List.getElem?_cons_succ, List.set_cons_zero, List.set_cons_succ, List.replicate, Option.some_or, Option.none_or, Option.map_some, Option.map_none, Option.bind_some, Option.bind_none]
          | true => rw [b3] at h; cases h
  have c1 : ct_NumberError "NumberError" = some true := by decide
  have c2 : mIsE isE_ValueError ⟨"NumberError", []⟩ = opt (some (.bl true)) := rfl
  have c3 : mIsE isE_LimitsError ⟨"NumberError", []⟩ = opt (some (.bl false)) := rfl
  have hl : f__law_limits .non [.tup [v0, v1, v2, v3]] = .exc ⟨"NumberError", []⟩ .non := by
    simp [f__law_limits, b__law_limits, hi, atI, ixN, mkF0, mkF1, fin0, fin1, st0, st1, bnd, Sr.ret, opt, mN, mNB, mB, der, m1, m2, m2b, m2r, mT, asB, mChain, mAnd, mOr, mNot, mAndV, mOrV, mNotV, mIf, mNil, mCons, mTup, mLst, mIsN, mNotN, isNon, mCal, mCal1, mIsi, mFldB, gFld, mC0, mC1, ap0, ap1, chkO, chkL, putL, mMk, apM, skp, sq, sDrop, sRet, sRetO, sIf, sSet, sSetO, sAsg, sPar, gN, gsN, gsC, gT, gA, sApp, sPutI, sNever, mItems, dItems, mRng, mRng2, gRng, gRng2, sFor, turn, gI, gI0, gLt, gLe, gGt, gGe, gAdd, gAddI, gAddS, gAddT, gAddL, Sr.gSub, gMul, gMulI, gDiv, gMod, gPow, gNeg, gEq, gNe, dEq, eqS, gLen, gInt1, gMax2, gMin2, gAbs, gIx, gLtT, dInts, putD, gIsi, dKind, tInt, tOnly, List.map_cons, List.map_nil, List.length_cons, List.length_nil, List.cons_append, List.nil_append, List.getElem?_cons_zero, List.getElem?_cons_succ, List.set_cons_zero, List.set_cons_succ, List.replicate, Option.some_or, Option.none_or, Option.map_some, Option.map_none, Option.bind_some, Option.bind_none]
  simp [f__law_refused, b__law_refused, u__law_refused_1, sTry, hl, c1, c2, c3, mkF0, mkF1, fin0, fin1, st0, st1, bnd, Sr.ret, opt, mN, mNB, mB, der, m1, m2, m2b, m2r, mT, asB, mChain, mAnd, mOr, mNot, mAndV, mOrV, mNotV, mIf, mNil, mCons, mTup, mLst, mIsN, mNotN, isNon, mCal, mCal1, mIsi, mFldB, gFld, mC0, mC1, ap0, ap1, chkO, chkL, putL, mMk, apM, skp, sq, sDrop, sRet, sRetO, sIf, sSet, sSetO, sAsg, sPar, gN, gsN, gsC, gT, gA, sApp, sPutI, sNever, mItems, dItems, mRng, mRng2, gRng, gRng2, sFor, turn, gI, gI0, gLt, gLe, gGt, gGe, gAdd, gAddI, gAddS, gAddT, gAddL, Sr.gSub, gMul, gMulI, gDiv, gMod, gPow, gNeg, gEq, gNe, dEq, eqS, gLen, gInt1, gMax2, gMin2, gAbs, gIx, gLtT, dInts, putD, gIsi, dKind, tInt, tOnly, List.map_cons, List.map_nil, List.length_cons, List.length_nil, List.cons_append, List.nil_append, List.getElem?_cons_zero, List.getElem?_cons_succ, List.set_cons_zero, List.set_cons_succ, List.replicate, Option.some_or, Option.none_or, Option.map_some, Option.map_none, Option.bind_some, Option.bind_none]
def badL (x : Int) : List D := [.int (-1), .int x, .non, .bl true, .bl false, .str "1", .tup [.int 1], .lst [.int 1], .int 100000000000]
def wrL (a b c d : Int) : List D := (badL 6).map (fun v => .tup [v, .int b, .int c, .int d]) ++ (badL 6).map (fun v => .tup [.int a, v, .int c, .int d]) ++ (badL 6).map (fun v => .tup [.int a, .int b, v, .int d]) ++ (badL 5).map (fun v => .tup [.int a, .int b, .int c, v]) ++ [.tup [.int a, .int b, .int 0, .int d], .tup [.int a, .int b, .int c, .int 0]]
theorem s_wrongs (a b c d : Int) : f__law_wrongs .non [nh a b c d] = .ok (.lst (wrL a b c d)) .non := by
  kernel_rfl
theorem bad_kd {x : Int} : ∀ v ∈ badL x, ∃ k, dKind v = some (.inl k) := by
  intro v hv
  simp only [badL, List.mem_cons, List.not_mem_nil, or_false] at hv
  rcases hv with rfl | rfl | rfl | rfl | rfl | rfl | rfl | rfl | rfl <;> exact ⟨_, rfl⟩
theorem bad_no {x lo hi : Int} (h1 : 0 ≤ lo) (h2 : hi ≤ 5) (h3 : hi < x) : ∀ v ∈ badL x, btw v lo hi = false := by
  intro v hv
  simp only [badL, List.mem_cons, List.not_mem_nil, or_false] at hv
  rcases hv with rfl | rfl | rfl | rfl | rfl | rfl | rfl | rfl | rfl <;> simp [btw] <;> omega
theorem wr_bad (a b c d : Int) : ∀ w ∈ wrL a b c d, f__law_refused .non [w] = .ok (.bl true) .non := by
  intro w hw
  simp only [wrL, List.mem_append, List.mem_map, List.mem_cons, List.not_mem_nil, or_false] at hw
  rcases hw with (((⟨v, hv, rfl⟩ | ⟨v, hv, rfl⟩) | ⟨v, hv, rfl⟩) | ⟨v, hv, rfl⟩) | (rfl | rfl)
  · obtain ⟨k, hk⟩ := bad_kd v hv
    exact s_bad _ _ _ _ k .int .int .int hk rfl rfl rfl (by rw [bad_no (by omega) (by omega) (by omega) v hv]; rfl)
  · obtain ⟨k, hk⟩ := bad_kd v hv
    exact s_bad _ _ _ _ .int k .int .int rfl hk rfl rfl (by rw [bad_no (by omega) (by omega) (by omega) v hv]; simp)
  · obtain ⟨k, hk⟩ := bad_kd v hv
    exact s_bad _ _ _ _ .int .int k .int rfl rfl hk rfl (by rw [bad_no (by omega) (by omega) (by omega) v hv]; simp)
  · obtain ⟨k, hk⟩ := bad_kd v hv
    exact s_bad _ _ _ _ .int .int .int k rfl rfl rfl hk (by rw [bad_no (by omega) (by omega) (by omega) v hv]; simp)
  · exact s_bad _ _ _ _ .int .int .int .int rfl rfl rfl rfl (by simp [btw])
  · exact s_bad _ _ _ _ .int .int .int .int rfl rfl rfl rfl (by simp [btw])
theorem e_nh (a b c d a' b' c' d' : Int) : ∃ k, gEq (nh a b c d) (nh a' b' c' d') = some (.bl k) := ⟨_, rfl⟩
theorem s_nums (a b c d : Int) : f_Limits_numbers .non [lim a b c d] = .ok (nh a b c d) .non := by
  have n1 : (("most_fails" : Str) == ("most_passes" : Str)) = false := by decide
  have n2 : (("most_checks" : Str) == ("most_passes" : Str)) = false := by decide
  have n3 : (("most_checks" : Str) == ("most_fails" : Str)) = false := by decide
  have n4 : (("least_stay" : Str) == ("most_passes" : Str)) = false := by decide
  have n5 : (("least_stay" : Str) == ("most_fails" : Str)) = false := by decide
  have n6 : (("least_stay" : Str) == ("most_checks" : Str)) = false := by decide
  simp [f_Limits_numbers, b_Limits_numbers, lim, List.lookup, n1, n2, n3, n4, n5, n6, sizeLine, mkF0, mkF1, fin0, fin1, st0, st1, bnd, Sr.ret, opt, mN, mNB, mB, der, m1, m2, m2b, m2r, mT, asB, mChain, mAnd, mOr, mNot, mAndV, mOrV, mNotV, mIf, mNil, mCons, mTup, mLst, mIsN, mNotN, isNon, mCal, mCal1, mIsi, mFldB, gFld, mC0, mC1, ap0, ap1, chkO, chkL, putL, mMk, apM, skp, sq, sDrop, sRet, sRetO, sIf, sSet, sSetO, sAsg, sPar, gN, gsN, gsC, gT, gA, sApp, sPutI, sNever, mItems, dItems, mRng, mRng2, gRng, gRng2, sFor, turn, gI, gI0, gLt, gLe, gGt, gGe, gAdd, gAddI, gAddS, gAddT, gAddL, Sr.gSub, gMul, gMulI, gDiv, gMod, gPow, gNeg, gEq, gNe, dEq, eqS, gLen, gInt1, gMax2, gMin2, gAbs, gIx, gLtT, dInts, putD, gIsi, dKind, tInt, tOnly, List.map_cons, List.map_nil, List.length_cons, List.length_nil, List.cons_append, List.nil_append, List.getElem?_cons_zero, List.getElem?_cons_succ, List.set_cons_zero, List.set_cons_succ, List.replicate, Option.some_or, Option.none_or, Option.map_some, Option.map_none, Option.bind_some, Option.bind_none]
theorem isO_lim (a b c d : Int) : isO "Limits" "numbers" (lim a b c d) = some () := by
  have n1 : (("numbers" : Str) == ("most_passes" : Str)) = false := by decide
  have n2 : (("numbers" : Str) == ("most_fails" : Str)) = false := by decide
  have n3 : (("numbers" : Str) == ("most_checks" : Str)) = false := by decide
  have n4 : (("numbers" : Str) == ("least_stay" : Str)) = false := by decide
  simp [isO, List.lookup, n1, n2, n3, n4]
theorem isc_lim : isl_Limits.lookup ("Limits" : Str) = some true := by decide
theorem s_eq (a b c d a' b' c' d' : Int) (k : Bool) (h : gEq (nh a b c d) (nh a' b' c' d') = some (.bl k)) : f_LimitsU_eqU .non [lim a b c d, lim a' b' c' d'] = .ok (.bl k) .non := by
  have h1 := s_nums a b c d
  have h2 := s_nums a' b' c' d'
  have h3 := isO_lim a b c d
  have h4 := isO_lim a' b' c' d'
  generalize hx : lim a b c d = x at *
  have hk : isC_Limits (lim a' b' c' d') = some true := by simp [isC_Limits, gIsi, dKind, isc_lim]
  generalize hy : lim a' b' c' d' = y at *
  generalize hp : nh a b c d = p at *
  generalize hq : nh a' b' c' d' = q at *
  simp [f_LimitsU_eqU, b_LimitsU_eqU, mMe0, h1, h2, h3, h4, hk, h, mkF0, fin0, st0, bnd, Sr.ret, opt, mN, m2, ap0, sRet, mAndV, mIsi, asB, List.replicate]
theorem s_neq (a b c d : Int) (v : D) (kd : Kd) (h : dKind v = some (.inl kd)) : f_LimitsU_eqU .non [lim a b c d, v] = .ok (.bl false) .non := by
  have hk : isC_Limits v = some false := by simp [isC_Limits, gIsi, h]
  simp [f_LimitsU_eqU, b_LimitsU_eqU, hk, mkF0, fin0, st0, bnd, Sr.ret, opt, mN, sRet, mAndV, mIsi, asB, List.replicate]
def oddL : List D := [.non, .bl true, .bl false, .int (-1), .int 0, .int 1, .int 2, .int 7, .int 100000000000, .str "", .str "U", .str "D", .str "+", .str "-", .str "UD", .str "+-", .tup [], .lst [], .dk [], .tup [.int 0], .lst [.int 0],
  .dk [(.inl 0, .int 1)], .tup [.str "U", .int 0, .int 0], .tup [.tup [.str "U", .int 0, .int 0]], .lst [.tup [.str "U", .int 0, .int 0]], .tup [.str "U", .str "+"], .tup [.str "", .str ""], .str "00U1", .tup [.non], .str "?"]
theorem odd_kd : ∀ v ∈ oddL, ∃ kd, dKind v = some (.inl kd) := by
  intro v hv
  simp only [oddL, List.mem_cons, List.not_mem_nil, or_false] at hv
  rcases hv with rfl | rfl | rfl | rfl | rfl | rfl | rfl | rfl | rfl | rfl | rfl | rfl | rfl | rfl | rfl | rfl | rfl | rfl | rfl | rfl | rfl | rfl | rfl | rfl | rfl | rfl | rfl | rfl | rfl | rfl <;> exact ⟨_, rfl⟩
theorem s_odd (o : D) (hv : PenOk o) : ∃ d o', f__law_odd o [] = .ok d o' ∧ d ∈ oddL ∧ PenOk o' := by
  obtain ⟨d, o', h1, h2, h3⟩ := s_pick o oddL hv (by decide) (by decide)
  refine ⟨d, o', ?_, h2, h3⟩
  have e : b__law_odd (st1 2 o []) = (sRet (mC1 f__law_pick 0 [] (mCons (mN 1) mNil))) [.own o, .val (.lst oddL)] := rfl
  unfold f__law_odd mkF1
  rw [e]
  simp [h1, mkF0, mkF1, fin0, fin1, st0, st1, bnd, Sr.ret, opt, mN, mNB, mB, der, m1, m2, m2b, m2r, mT, asB, mChain, mAnd, mOr, mNot, mAndV, mOrV, mNotV, mIf, mNil, mCons, mTup, mLst, mIsN, mNotN, isNon, mCal, mCal1, mIsi, mFldB, gFld, mC0, mC1, ap0, ap1, chkO, chkL, putL, mMk, apM, skp, sq, sDrop, sRet, sRetO, sIf, sSet, sSetO, sAsg, sPar, gN, gsN, gsC, gT, gA, sApp, sPutI, sNever, mItems, dItems, mRng, mRng2, gRng, gRng2, sFor, turn, gI, gI0, gLt, gLe, gGt, gGe, gAdd, gAddI, gAddS, gAddT, gAddL, Sr.gSub, gMul, gMulI, gDiv, gMod, gPow, gNeg, gEq, gNe, dEq, eqS, gLen, gInt1, gMax2, gMin2, gAbs, gIx, gLtT, dInts, putD, gIsi, dKind, tInt, tOnly, List.map_cons, List.map_nil, List.length_cons, List.length_nil, List.cons_append, List.nil_append, List.getElem?_cons_zero, List.getElem?_cons_succ, List.set_cons_zero, List.set_cons_succ, List.replicate, Option.some_or, Option.none_or, Option.map_some, Option.map_none, Option.bind_some, Option.bind_none]
theorem same_bl (k : Bool) : f__law_same .non [.lst [.bl k, .bl (!k)], .lst [.bl k, .bl (!k)]] = .ok (.bl true) .non := by cases k <;> rfl
theorem okK_lim (a b c d : Int) : okK nf_Limits (lim a b c d) = true := by
  have : nf_Limits ("Limits" : Str) = true := by decide
  simp [okK, dKind, this]
theorem okK_kd {v : D} {kd : Kd} (h : dKind v = some (.inl kd)) : okK nf_Limits v = true := by simp [okK, h]
theorem cmp_lim {a b c d a' b' c' d' : Int} {k : Bool} (h : gEq (nh a b c d) (nh a' b' c' d') = some (.bl k)) (i j : Nat) (e : En) (hi : e[i]? = some (.val (lim a b c d))) (hj : e[j]? = some (.val (lim a' b' c' d'))) :
    mCmpO "Limits" nf_Limits f_LimitsU_eqU gEq (mN i) (mN j) e = .ok (.bl k) e ∧ mNeO "Limits" nf_Limits f_LimitsU_eqU gNe (mN i) (mN j) e = .ok (.bl (!k)) e := by
  have h1 := s_eq a b c d a' b' c' d' k h
  have h2 := okK_lim a' b' c' d'
  constructor
  · simp only [mCmpO, bnd, mN, hi, hj]
    simp [h1, h2]
  · simp only [mNeO, bnd, mN, hi, hj]
    simp [h1, h2]
theorem cmp_odd {a b c d : Int} {v : D} {kd : Kd} (h : dKind v = some (.inl kd)) (i j : Nat) (e : En) (hi : e[i]? = some (.val (lim a b c d))) (hj : e[j]? = some (.val v)) :
    mCmpO "Limits" nf_Limits f_LimitsU_eqU gEq (mN i) (mN j) e = .ok (.bl false) e ∧ mNeO "Limits" nf_Limits f_LimitsU_eqU gNe (mN i) (mN j) e = .ok (.bl true) e := by
  have h1 := s_neq a b c d v kd h
  have h2 := okK_kd h
  constructor
  · simp only [mCmpO, bnd, mN, hi, hj]
    simp [h1, h2]
  · simp only [mNeO, bnd, mN, hi, hj]
    simp [h1, h2]
abbrev Rg (a b c d : Int) : Prop := (0 ≤ a ∧ a ≤ 5) ∧ (0 ≤ b ∧ b ≤ 5) ∧ (1 ≤ c ∧ c ≤ 5) ∧ (1 ≤ d ∧ d ≤ 4)
theorem s_l1 (x0 x1 x2 x3 x6 x7 x11 x12 : Sl) (a b c d : Int) (ds : List D) (hds : ∀ v ∈ ds, ∃ a b c d, v = nh a b c d ∧ Rg a b c d) (j8 j9 j10 : Sl) :
    ∃ k8 k9 k10, forL (gN 8) l_law_1 ds [x0, x1, x2, x3, .val (nh a b c d), .val (lim a b c d), x6, x7, j8, j9, j10, x11, x12] = .ok .nx [x0, x1, x2, x3, .val (nh a b c d), .val (lim a b c d), x6, x7, k8, k9, k10, x11, x12] := by
  obtain ⟨e', h, k8, k9, k10, rfl⟩ := forL_inv (w := gN 8) (b := l_law_1) (fun e => ∃ j8 j9 j10, e = [x0, x1, x2, x3, .val (nh a b c d), .val (lim a b c d), x6, x7, j8, j9, j10, x11, x12]) (ds := ds) (e := [x0, x1, x2, x3, .val (nh a b c d), .val (lim a b c d), x6, x7, j8, j9, j10, x11, x12]) (by
    rintro v hv e ⟨j8, j9, j10, rfl⟩
    obtain ⟨a', b', c', d', rfl, g1, g2, g3, g4⟩ := hds v hv
    obtain ⟨k, hk⟩ := e_nh a b c d a' b' c' d'
    have hl := s_limits a' b' c' d' g1 g2 g3 g4
    obtain ⟨q1, q2⟩ := cmp_lim hk 5 9 [x0, x1, x2, x3, .val (nh a b c d), .val (lim a b c d), x6, x7, .val (nh a' b' c' d'), .val (lim a' b' c' d'), .val (.bl k), x11, x12] rfl rfl
    have hs := same_bl k
    exact ⟨_, by simp [l_law_1, hl, hk, q1, q2, hs, sizeLine, turn, gN, bnd, Sr.ret, opt, mN, sq, sPar, mCons, mNil, mC0, ap0, m2, gsC, gsN, skp, sIf, mNot, mT, mLst, mNotV, asB]; exact ⟨rfl, rfl, rfl⟩, _, _, _, rfl⟩) ⟨j8, j9, j10, rfl⟩
  exact ⟨_, _, _, h⟩
theorem s_l2 (x0 x1 x2 x3 x4 x6 x7 x8 x9 x10 x12 : Sl) (a b c d : Int) (ds : List D) (hds : ∀ v ∈ ds, ∃ kd, dKind v = some (.inl kd)) (j11 : Sl) :
    ∃ k11, forL (gN 11) l_law_2 ds [x0, x1, x2, x3, x4, .val (lim a b c d), x6, x7, x8, x9, x10, j11, x12] = .ok .nx [x0, x1, x2, x3, x4, .val (lim a b c d), x6, x7, x8, x9, x10, k11, x12] := by
  obtain ⟨e', h, k11, rfl⟩ := forL_inv (w := gN 11) (b := l_law_2) (fun e => ∃ j11, e = [x0, x1, x2, x3, x4, .val (lim a b c d), x6, x7, x8, x9, x10, j11, x12]) (ds := ds) (e := [x0, x1, x2, x3, x4, .val (lim a b c d), x6, x7, x8, x9, x10, j11, x12]) (by
    rintro v hv e ⟨j11, rfl⟩
    obtain ⟨kd, hk⟩ := hds v hv
    obtain ⟨q1, q2⟩ := cmp_odd (a := a) (b := b) (c := c) (d := d) hk 5 11 [x0, x1, x2, x3, x4, .val (lim a b c d), x6, x7, x8, x9, x10, .val v, x12] rfl rfl
    have hs : f__law_same .non [.lst [.bl false, .bl true], .lst [.bl false, .bl true]] = .ok (.bl true) .non := same_bl false
    exact ⟨_, by simp [l_law_2, q1, q2, hs, sizeLine, turn, gN, bnd, Sr.ret, opt, sq, mCons, mNil, mC0, ap0, skp, sIf, mNot, mT, mLst, asB]; exact rfl, _, rfl⟩) ⟨j11, rfl⟩
  exact ⟨_, h⟩
theorem lc_none (e : En) (ds acc : List D) (h : ∀ v ∈ ds, f__law_refused .non [v] = .ok (.bl true) .non) : ∀ (x0 x1 x2 x3 x4 x5 x6 x7 x8 x9 x10 x11 x12 : Sl), ∃ y12, lcL (gN 12) t_law_1 e_law_1 [12] ds acc [x0, x1, x2, x3, x4, x5, x6, x7, x8, x9, x10, x11, x12] = .ok acc [x0, x1, x2, x3, x4, x5, x6, x7, x8, x9, x10, x11, y12] := by
  induction ds with
  | nil => intro x0 x1 x2 x3 x4 x5 x6 x7 x8 x9 x10 x11 x12; exact ⟨_, rfl⟩
  | cons v ds ih =>
    intro x0 x1 x2 x3 x4 x5 x6 x7 x8 x9 x10 x11 x12
    have hv := h v (by simp)
    obtain ⟨y, hy⟩ := ih (fun v hv => h v (by simp [hv])) x0 x1 x2 x3 x4 x5 x6 x7 x8 x9 x10 x11 .no
    have ht : t_law_1 [x0, x1, x2, x3, x4, x5, x6, x7, x8, x9, x10, x11, .val v] = .ok false [x0, x1, x2, x3, x4, x5, x6, x7, x8, x9, x10, x11, .val v] := by simp [t_law_1, hv, mkF0, mkF1, fin0, fin1, st0, st1, bnd, Sr.ret, opt, mN, mNB, mB, der, m1, m2, m2b, m2r, mT, asB, mChain, mAnd, mOr, mNot, mAndV, mOrV, mNotV, mIf, mNil, mCons, mTup, mLst, mIsN, mNotN, isNon, mCal, mCal1, mIsi, mFldB, gFld, mC0, mC1, ap0, ap1, chkO, chkL, putL, mMk, apM, skp, sq, sDrop, sRet, sRetO, sIf, sSet, sSetO, sAsg, sPar, gN, gsN, gsC, gT, gA, sApp, sPutI, sNever, mItems, dItems, mRng, mRng2, gRng, gRng2, sFor, turn, gI, gI0, gLt, gLe, gGt, gGe, gAdd, gAddI, gAddS, gAddT, gAddL, Sr.gSub, gMul, gMulI, gDiv, gMod, gPow, gNeg, gEq, gNe, dEq, eqS, gLen, gInt1, gMax2, gMin2, gAbs, gIx, gLtT, dInts, putD, gIsi, dKind, tInt, tOnly, List.map_cons, List.map_nil, List.length_cons, List.length_nil, List.cons_append, List.nil_append, List.getElem?_cons_zero, List.getElem?_cons_succ, List.set_cons_zero, List.set_cons_succ, List.replicate, Option.some_or, Option.none_or, Option.map_some, Option.map_none, Option.bind_some, Option.bind_none]
    exact ⟨y, by simp [lcL, gN, bnd, ht, wipE]; exact hy⟩
theorem repr_lim {a b c d : Int} (h1 : 0 ≤ a ∧ a ≤ 5) (h2 : 0 ≤ b ∧ b ≤ 5) (h3 : 0 ≤ c ∧ c ≤ 5) (h4 : 0 ≤ d ∧ d ≤ 5) : ∃ s, f_LimitsU_reprU .non [lim a b c d] = .ok (.str s) .non := by
  obtain ⟨f1, f2, f3, f4⟩ := fld1 (x := 0) (y := 0) (a := a) (b := b) (c := c) (d := d)
  generalize lim a b c d = x at *
  obtain ⟨d1, k1⟩ := dig h1
  obtain ⟨d2, k2⟩ := dig h2
  obtain ⟨d3, k3⟩ := dig h3
  obtain ⟨d4, k4⟩ := dig h4
  have l1 : (Str.ofString "Limits(").length = 7 := by decide +kernel
  have l2 : (Str.ofString ", ").length = 2 := by decide +kernel
  have l3 : (Str.ofString ", settled ").length = 10 := by decide +kernel
  have l4 : (Str.ofString ")").length = 1 := by decide +kernel
  have l5 : Str.empty.length = 0 := rfl
  generalize hA : Str.ofString (Int.repr a) = A at *
  generalize hB : Str.ofString (Int.repr b) = B at *
  generalize hC : Str.ofString (Int.repr c) = C at *
  generalize hD : Str.ofString (Int.repr d) = E at *
  exact ⟨Str.empty ++ Str.ofString "Limits(" ++ A ++ Str.ofString ", " ++ B ++ Str.ofString ", " ++ C ++ Str.ofString ", settled " ++ E ++ Str.ofString ")", by
    simp [f_LimitsU_reprU, b_LimitsU_reprU, f1, f2, f3, f4, mJs, gFmt, asS, k1, k2, k3, k4, hA, hB, hC, hD, strLen_append, l1, l2, l3, l4, l5, d1, d2, d3, d4, sizeLine, mkF0, fin0, st0, bnd, Sr.ret, opt, mN, m1, sRet, List.replicate]⟩
def InA (ns : List Int) (e : En) : Prop := ∃ j1 o j3 j4 j5 j6 j7 j8 j9 j10 j11 j12, PenOk o ∧ e = [.val (.scr ns), j1, .own o, j3, j4, j5, j6, j7, j8, j9, j10, j11, j12]
theorem s_turn (ns : List Int) (v : D) (hv : ∃ a b c d, v = nh a b c d ∧ Rg a b c d) (e : En) (h : InA ns e) : ∃ e', turn (gN 4) l_law_3 v e = .ok .nx e' ∧ InA ns e' := by
  obtain ⟨a, b, c, d, rfl, h1, h2, h3, h4⟩ := hv
  obtain ⟨j1, o, j3, j4, j5, j6, j7, j8, j9, j10, j11, j12, ho, rfl⟩ := h
  have hl := s_limits a b c d h1 h2 h3 h4
  have hi := s_init a b c 1 h1 h2 h3 (by omega)
  have e1 := s_seen (a := a) (b := b) (c := c) (d := d) h1 h2 (by omega) (by omega)
  have e2 := s_seen (a := a) (b := b) (c := c) (d := 1) h1 h2 (by omega) (by omega)
  have hc1 : cutD [D.int a, .int b, .int c, .int d] none (some 3) = [.int a, .int b, .int c] := rfl
  have hc2 : cutD [D.int a, .int b, .int c, .int d] (some 2) none = [.int c, .int d] := rfl
  obtain ⟨a', b', c', d', o1, e3, g1, g2, g3, g4, v1⟩ := s_numbers o ho
  obtain ⟨od, o2, e4, hod, v2⟩ := s_odd o1 v1
  obtain ⟨rs, hr⟩ := repr_lim (a := a) (b := b) (c := c) (d := d) h1 h2 (by omega) (by omega)
  obtain ⟨k8, k9, k10, f1⟩ := s_l1 (.val (.scr ns)) j1 (.own o1) j3 (.val (lim a b c 1)) (.val (.lst [nh a b c d, nh a' b' c' d', nh a b c 1])) j11 j12 a b c d [nh a b c d, nh a' b' c' d', nh a b c 1, nh b a c d] (by
    intro v hv
    simp only [List.mem_cons, List.not_mem_nil, or_false] at hv
    rcases hv with rfl | rfl | rfl | rfl
    · exact ⟨a, b, c, d, rfl, h1, h2, h3, h4⟩
    · exact ⟨a', b', c', d', rfl, g1, g2, g3, g4⟩
    · exact ⟨a, b, c, 1, rfl, h1, h2, h3, by omega⟩
    · exact ⟨b, a, c, d, rfl, h2, h1, h3, h4⟩) j8 j9 j10
  obtain ⟨k11, f2⟩ := s_l2 (.val (.scr ns)) j1 (.own o2) j3 (.val (nh a b c d)) (.val (lim a b c 1)) (.val (.lst [nh a b c d, nh a' b' c' d', nh a b c 1])) k8 k9 k10 j12 a b c d [od, nh a b c d, .non, .str rs] (by
    intro v hv
    simp only [List.mem_cons, List.not_mem_nil, or_false] at hv
    rcases hv with rfl | rfl | rfl | rfl
    · exact odd_kd _ hod
    · exact ⟨_, rfl⟩
    · exact ⟨_, rfl⟩
    · exact ⟨_, rfl⟩) j11
  have hw := s_wrongs a b c d
  obtain ⟨y, f3⟩ := lc_none [] (wrL a b c d) [] (wr_bad a b c d) (.val (.scr ns)) j1 (.own o2) j3 (.val (nh a b c d)) (.val (lim a b c d)) (.val (lim a b c 1)) (.val (.lst [nh a b c d, nh a' b' c' d', nh a b c 1])) k8 k9 k10 k11 .no
  have hne : eqDeep (.lst []) (.lst []) = some true := rfl
  generalize wrL a b c d = W at *
  have hq : ∀ (x : D), x = lim a b c d → mReprO "Limits" f_LimitsU_reprU gRepr (mN 5) = mReprO "Limits" f_LimitsU_reprU gRepr (mN 5) := fun _ _ => rfl
  exact ⟨_, by simp [l_law_3, hl, hi, e1, e2, e3, e4, hc1, hc2, f1, f2, f3, hw, hr, hne, mReprO, mSl, gSl, mNoP, mPart, asI, mLc, wipE, rst, sizeLine, atI, ixN, mkF0, mkF1, fin0, fin1, st0, st1, bnd, Sr.ret, opt, mN, mNB, mB, der, m1, m2, m2b, m2r, mT, asB, mChain, mAnd, mOr, mNot, mAndV, mOrV, mNotV, mIf, mNil, mCons, mTup, mLst, mIsN, mNotN, isNon, mCal, mCal1, mIsi, mFldB, gFld, mC0, mC1, ap0, ap1, chkO, chkL, putL, mMk, apM, skp, sq, sDrop, sRet, sRetO, sIf, sSet, sSetO, sAsg, sPar, gN, gsN, gsC, gT, gA, sApp, sPutI, sNever, mItems, dItems, mRng, mRng2, gRng, gRng2, sFor, turn, gI, gI0, gLt, gLe, gGt, gGe, gAdd, gAddI, gAddS, gAddT, gAddL, Sr.gSub, gMul, gMulI, gDiv, gMod, gPow, gNeg, gEq, gNe, dEq, eqS, gLen, gInt1, gMax2, gMin2, gAbs, gIx, gLtT, dInts, putD, gIsi, dKind, tInt, tOnly, List.map_cons, List.map_nil, List.length_cons, List.length_nil, List.cons_append, List.nil_append, List.getElem?_cons_zero, List.getElem?_cons_succ, List.set_cons_zero, List.set_cons_succ, List.replicate, Option.some_or, Option.none_or, Option.map_some, Option.map_none, Option.bind_some, Option.bind_none]; exact ⟨rfl, rfl, rfl, rfl, rfl, rfl, rfl, rfl, rfl, rfl, rfl⟩, _, _, _, _, _, _, _, _, _, _, _, _, v2, rfl⟩
def InB (ns : List Int) (e : En) : Prop := ∃ j1 j2 j3 j4 j5 j6 j7 j8 j9 j10 j11 j12, e = [.val (.scr ns), j1, j2, j3, j4, j5, j6, j7, j8, j9, j10, j11, j12]
theorem s_outer (ns : List Int) (k : Int) (hk : 0 ≤ k) (e : En) (h : InB ns e) : ∃ e', turn (gN 1) l_law_4 (.int k) e = .ok .nx e' ∧ InB ns e' := by
  obtain ⟨j1, j2, j3, j4, j5, j6, j7, j8, j9, j10, j11, j12, rfl⟩ := h
  obtain ⟨c, e1⟩ := s_cell ns k hk
  obtain ⟨o, e2, ho⟩ := s_pen c
  obtain ⟨r1, o1, e3, h1, h1', v1⟩ := s_draw o 6 ho (by omega) (by omega)
  obtain ⟨r2, o2, e4, h2, h2', v2⟩ := s_draw o1 6 v1 (by omega) (by omega)
  obtain ⟨a', b', c', d', o3, e5, g1, g2, g3, g4, v3⟩ := s_numbers o2 v2
  obtain ⟨e', h1, k1, o', k3, k4, k5, k6, k7, k8, k9, k10, k11, k12, ho', rfl⟩ := forL_inv (w := gN 4) (b := l_law_3) (InA ns) (ds := [nh a' b' c' d', nh 5 5 5 4, nh 0 0 1 1, nh r1 r2 5 2]) (e := [.val (.scr ns), .val (.int k), .own o3, .val (nh r1 r2 5 2), j4, j5, j6, j7, j8, j9, j10, j11, j12]) (fun d hd e h => s_turn ns d (by
    simp only [List.mem_cons, List.not_mem_nil, or_false] at hd
    rcases hd with rfl | rfl | rfl | rfl
    · exact ⟨a', b', c', d', rfl, g1, g2, g3, g4⟩
    · exact ⟨_, _, _, _, rfl, by omega, by omega, by omega, by omega⟩
    · exact ⟨_, _, _, _, rfl, by omega, by omega, by omega, by omega⟩
    · exact ⟨_, _, _, _, rfl, by omega, by omega, by omega, by omega⟩) e h) ⟨_, _, _, _, _, _, _, _, _, _, _, _, v3, rfl⟩
  exact ⟨_, by simp [l_law_4, e1, e2, e3, e4, e5, h1, sizeLine, mkF0, mkF1, fin0, fin1, st0, st1, bnd, Sr.ret, opt, mN, mNB, mB, der, m1, m2, m2b, m2r, mT, asB, mChain, mAnd, mOr, mNot, mAndV, mOrV, mNotV, mIf, mNil, mCons, mTup, mLst, mIsN, mNotN, isNon, mCal, mCal1, mIsi, mFldB, gFld, mC0, mC1, ap0, ap1, chkO, chkL, putL, mMk, apM, skp, sq, sDrop, sRet, sRetO, sIf, sSet, sSetO, sAsg, sPar, gN, gsN, gsC, gT, gA, sApp, sPutI, sNever, mItems, dItems, mRng, mRng2, gRng, gRng2, sFor, turn, gI, gI0, gLt, gLe, gGt, gGe, gAdd, gAddI, gAddS, gAddT, gAddL, Sr.gSub, gMul, gMulI, gDiv, gMod, gPow, gNeg, gEq, gNe, dEq, eqS, gLen, gInt1, gMax2, gMin2, gAbs, gIx, gLtT, dInts, putD, gIsi, dKind, tInt, tOnly, List.map_cons, List.map_nil, List.length_cons, List.length_nil, List.cons_append, List.nil_append, List.getElem?_cons_zero, List.getElem?_cons_succ, List.set_cons_zero, List.set_cons_succ, List.replicate, Option.some_or, Option.none_or, Option.map_some, Option.map_none, Option.bind_some, Option.bind_none]; exact ⟨rfl, rfl, rfl, rfl, rfl, rfl, rfl, rfl, rfl, rfl, rfl, rfl⟩, _, _, _, _, _, _, _, _, _, _, _, _, rfl⟩
theorem law_holds (ns : List Int) (hl : ns.length ≤ 63) : f_law .non [.scr ns] = .ok (.bl true) .non := by
  have hm : ∃ m : Int, m = (if (1 : Int) < (if 3 < (ns.length : Int) then 3 else (ns.length : Int)) then (if 3 < (ns.length : Int) then 3 else (ns.length : Int)) else 1) ∧ m ≤ 3 ∧ 0 ≤ m := ⟨_, rfl, by split <;> (try split) <;> omega, by split <;> (try split) <;> omega⟩
  obtain ⟨m, hm, hm1, hm2⟩ := hm
  have h0 : okR m = true := by unfold okR; simp; omega
  obtain ⟨e', h1, k1, k2, k3, k4, k5, k6, k7, k8, k9, k10, k11, k12, rfl⟩ := forL_inv (w := gN 1) (b := l_law_4) (InB ns) (ds := rngL 0 m) (e := [.val (.scr ns), .no, .no, .no, .no, .no, .no, .no, .no, .no, .no, .no, .no]) (fun d hd e h => by
    rw [rngL_eq, List.mem_map] at hd
    obtain ⟨k, hk, rfl⟩ := hd
    exact s_outer ns k (irng_mem hk).1 e h) ⟨_, _, _, _, _, _, _, _, _, _, _, _, rfl⟩
  simp [f_law, b_law, ← hm, h0, h1, mkF0, mkF1, fin0, fin1, st0, st1, bnd, Sr.ret, opt, mN, mNB, mB, der, m1, m2, m2b, m2r, mT, asB, mChain, mAnd, mOr, mNot, mAndV, mOrV, mNotV, mIf, mNil, mCons, mTup, mLst, mIsN, mNotN, isNon, mCal, mCal1, mIsi, mFldB, gFld, mC0, mC1, ap0, ap1, chkO, chkL, putL, mMk, apM, skp, sq, sDrop, sRet, sRetO, sIf, sSet, sSetO, sAsg, sPar, gN, gsN, gsC, gT, gA, sApp, sPutI, sNever, mItems, dItems, mRng, mRng2, gRng, gRng2, sFor, turn, gI, gI0, gLt, gLe, gGt, gGe, gAdd, gAddI, gAddS, gAddT, gAddL, Sr.gSub, gMul, gMulI, gDiv, gMod, gPow, gNeg, gEq, gNe, dEq, eqS, gLen, gInt1, gMax2, gMin2, gAbs, gIx, gLtT, dInts, putD, gIsi, dKind, tInt, tOnly, List.map_cons, List.map_nil, List.length_cons, List.length_nil, List.cons_append, List.nil_append, List.getElem?_cons_zero, List.getElem?_cons_succ, List.set_cons_zero, List.set_cons_succ, List.replicate, Option.some_or, Option.none_or, Option.map_some, Option.map_none, Option.bind_some, Option.bind_none]
end Lw
namespace Lw
open PySem hiding start
open PySem.Spec L2 Sr
open PyProof.Rows hiding St
structure Tx (K : PySem.W.Frag) (mg : Str → Option Value) : Prop where
  f_max : mg "max" = none
  f_int : mg "int" = none
  f_len : mg "len" = none
  f_min : mg "min" = none
  f_isinstance : mg "isinstance" = none
  f_bool : mg "bool" = none
  c_MOST_FALSE : ∃ t, mg "MOST_FALSE" = some (.int 5 t)
  c_MOST_SPAN : ∃ t, mg "MOST_SPAN" = some (.int 5 t)
  c_MOST_SETTLED : ∃ t, mg "MOST_SETTLED" = some (.int 4 t)
  f_repr : mg "repr" = none
  f_str : mg "str" = none
  f_range : mg "range" = none
  f_ValueError : mg "ValueError" = none
  k_Limits : mg "Limits" = some (.ref (He.ga K "Limits"))
  cl_Limits : Cls K (He.ga K "Limits")
  k_NumberError : mg "NumberError" = some (.ref (He.ga K "NumberError"))
  k_LimitsError : mg "LimitsError" = some (.ref (He.ga K "LimitsError"))
  n_Limits_most_passes : NoAttr K (He.ga K "Limits") "most_passes"
  n_Limits_most_fails : NoAttr K (He.ga K "Limits") "most_fails"
  n_Limits_most_checks : NoAttr K (He.ga K "Limits") "most_checks"
  n_Limits_least_stay : NoAttr K (He.ga K "Limits") "least_stay"
  i_int : IsiK K mg (.type "int") isB_int
  i_bool : IsiK K mg (.type "bool") isB_bool
  i_Limits : IsiK K mg (.ref (He.ga K "Limits")) isC_Limits
  x_NumberError : Rai K mg "NumberError"
  ct_NumberError : Cat K mg (.ref (He.ga K "NumberError")) Lw.ct_NumberError
  e_ValueError : IsE K mg (.type "ValueError") isE_ValueError
  e_LimitsError : IsE K mg (.ref (He.ga K "LimitsError")) isE_LimitsError
  nf_Limits : NotF K mg (He.ga K "Limits") Lw.nf_Limits
  ne_Limits : neB K "Limits" = true
def gV_Limits_3_settled : List V → List V → List V := fun vs zs => vs ++ zs
theorem rel_Limits_3_settled {K : PySem.W.Frag} {mg : Str → Option Value} (ds es : List D) (vs zs : List V) (F : Hp) (x : Addr) (h1 : RpL K mg F ds vs) (h2 : RpL K mg F es zs) (l1 : ds.length = 3) (l2 : es.length = 1) : ∃ ws, gV_Limits_3_settled (.ref x :: vs) zs = .ref x :: ws ∧ RpL K mg F ((fun ds es => ds ++ es) ds es) ws ∧ ((fun ds es => ds ++ es) ds es).length + 1 = 5 :=
  ⟨vs ++ zs, rfl, h1.append h2, by simp only [List.length_append, l1, l2]⟩
def gV_Limits_3_ : List V → List V → List V := fun vs _ => vs ++ [.int 1]
theorem rel_Limits_3_ {K : PySem.W.Frag} {mg : Str → Option Value} (ds es : List D) (vs zs : List V) (F : Hp) (x : Addr) (h1 : RpL K mg F ds vs) (h2 : RpL K mg F es zs) (l1 : ds.length = 3) (l2 : es.length = 0) : ∃ ws, gV_Limits_3_ (.ref x :: vs) zs = .ref x :: ws ∧ RpL K mg F ((fun ds es => ds ++ [.int 1]) ds es) ws ∧ ((fun ds es => ds ++ [.int 1]) ds es).length + 1 = 5 :=
  ⟨vs ++ [.int 1], rfl, h1.append (by simp [rl_cons, rl_nil, rp_int, rp_bl]), by simp only [List.length_append, l1, List.length_cons, List.length_nil]⟩
section
variable {P : Program} {w : World} {K : PySem.W.Frag} {mg : Str → Option Value} {base : Heap}
abbrev N__law_pen : List Str := ["_law_cell"]
theorem sc__law_pen : FnScope N__law_pen ["_law_cell"] (defScope st__law_pen) := ⟨rfl, rfl, rfl, by decide +kernel, rfl, by decide +kernel, by decide +kernel⟩
theorem d__law_pen (Z : Tx K mg)  {f : Addr} {cdv : Value} {A : Around} {outer : List Env} {s0 : Shared} {H : Hp} {E : XK} (hr : Room 0 (A.deeper (envOfC "_law_pen" (defScope st__law_pen) s0.heap.objs.size f cdv))) (hgu : A.guards = some []) : JSs (cxOf (L2.CX P w) P w K mg base N__law_pen "_law_pen" (defScope st__law_pen) f cdv A outer s0 H E) [] (WE0 E) (defBody st__law_pen) b__law_pen := by
  have hp : Pl (cxOf (L2.CX P w) P w K mg base N__law_pen "_law_pen" (defScope st__law_pen) f cdv A outer s0 H E) 0 := ⟨hr, hgu⟩
  exact (js_one (js_retO (jo_lst (jl_cons (jv_callB (c_max (by rfl)) (by rfl) Z.f_max bt_max (jl_cons jv_int (jl_cons (jv_bin o_sub (jv_name 0 rfl (Or.inl rfl)) (jv_bin o_pow jv_int jv_int)) jl_nil)).ja) (jl_cons (jv_bin o_add (jv_bin o_mod (jv_callTy c_int (by rfl) Z.f_int bt_int (jl_cons (jv_name 0 rfl (Or.inl rfl)) jl_nil).ja) jv_int) jv_int) (jl_cons jv_int jl_nil))).ja)))
theorem ok__law_pen (Z : Tx K mg)  {f : Addr} {fd : FuncData} {kws : List (Str × V)} (G : FunD K "_law_pen" "_law_pen" (defArgs st__law_pen) (defBody st__law_pen) (defScope st__law_pen) [] kws f fd) : FnG P w K mg base 1 f fd ["_law_cell"] (spF0 K mg true 1 f__law_pen) :=
  fn0 (P := P) (w := w) (mg := mg) (base := base) (ro := true) (s := b__law_pen) (N := N__law_pen) (ps := ["_law_cell"]) rfl rfl G sc__law_pen fun cdv A outer s0 H E hr hgu => d__law_pen Z  hr hgu
abbrev N__law_cell_at : List Str := ["_law_script", "_law_k"]
theorem sc__law_cell_at : FnScope N__law_cell_at ["_law_script", "_law_k"] (defScope st__law_cell_at) := ⟨rfl, rfl, rfl, by decide +kernel, rfl, by decide +kernel, by decide +kernel⟩
theorem d__law_cell_at (Z : Tx K mg)  {f : Addr} {cdv : Value} {A : Around} {outer : List Env} {s0 : Shared} {H : Hp} {E : XK} (hr : Room 0 (A.deeper (envOfC "_law_cell_at" (defScope st__law_cell_at) s0.heap.objs.size f cdv))) (hgu : A.guards = some []) : JSs (cxOf (L2.CX P w) P w K mg base N__law_cell_at "_law_cell_at" (defScope st__law_cell_at) f cdv A outer s0 H E) [] (WE0 E) (defBody st__law_cell_at) b__law_cell_at := by
  have hp : Pl (cxOf (L2.CX P w) P w K mg base N__law_cell_at "_law_cell_at" (defScope st__law_cell_at) f cdv A outer s0 H E) 0 := ⟨hr, hgu⟩
  exact (js_cons (js_if (jt_cmp (p_lt hp) (jv_name 1 rfl (Or.inl rfl)) (jv_callV1 c_len (by rfl) Z.f_len bt_len (jv_name 0 rfl (Or.inl rfl)))) (js_one (js_ret (jv_ix (jv_name 0 rfl (Or.inl rfl)) (jv_name 1 rfl (Or.inl rfl))))) js_nil)
    (js_one (js_ret jv_int)))
theorem ok__law_cell_at (Z : Tx K mg)  {f : Addr} {fd : FuncData} {kws : List (Str × V)} (G : FunD K "_law_cell_at" "_law_cell_at" (defArgs st__law_cell_at) (defBody st__law_cell_at) (defScope st__law_cell_at) [] kws f fd) : FnG P w K mg base 1 f fd ["_law_script", "_law_k"] (spF0 K mg false 2 f__law_cell_at) :=
  fn0 (P := P) (w := w) (mg := mg) (base := base) (ro := false) (s := b__law_cell_at) (N := N__law_cell_at) (ps := ["_law_script", "_law_k"]) rfl rfl G sc__law_cell_at fun cdv A outer s0 H E hr hgu => d__law_cell_at Z  hr hgu
abbrev N__law_draw : List Str := ["_law_pen_here", "_law_many", "_law_found", "_law_mixed"]
theorem sc__law_draw : FnScope N__law_draw ["_law_pen_here", "_law_many"] (defScope st__law_draw) := ⟨rfl, rfl, rfl, by decide +kernel, rfl, by decide +kernel, by decide +kernel⟩
theorem d__law_draw (Z : Tx K mg)  {f : Addr} {cdv : Value} {A : Around} {outer : List Env} {s0 : Shared} {H : Hp} {E : XK} {p : Addr} (hr : Room 0 (A.deeper (envOfC "_law_draw" (defScope st__law_draw) s0.heap.objs.size f cdv))) (hgu : A.guards = some []) : JSs (cxOf (L2.CX P w) P w K mg base N__law_draw "_law_draw" (defScope st__law_draw) f cdv A outer s0 H E) [(0, p)] (WE0 E) (defBody st__law_draw) b__law_draw := by
  have hp : Pl (cxOf (L2.CX P w) P w K mg base N__law_draw "_law_draw" (defScope st__law_draw) f cdv A outer s0 H E) 0 := ⟨hr, hgu⟩
  exact (js_cons (js_if (jt_cmp p_gt (jv_ixB (jb_name 0 rfl (Or.inl rfl)) jv_int) jv_int) (js_cons (js_set (noP_cons (by decide) noP_nil) sc__law_draw.nd rfl (Or.inl rfl) (jv_bin o_mod (jv_callTy c_int (by rfl) Z.f_int bt_int (jl_cons (jv_ixB (jb_name 0 rfl (Or.inl rfl)) jv_int) jl_nil).ja) (jv_name 1 rfl (Or.inl rfl))))
    (js_cons (js_putI rfl (Or.inl rfl) (jv_bin o_div (jv_ixB (jb_name 0 rfl (Or.inl rfl)) jv_int) (jv_name 1 rfl (Or.inl rfl))) jv_int)
    (js_one (js_ret (jv_name 2 rfl (Or.inl rfl)))))) js_nil)
    (js_cons (js_putI rfl (Or.inl rfl) (jv_bin o_add (jv_ixB (jb_name 0 rfl (Or.inl rfl)) jv_int) jv_int) jv_int)
    (js_cons (js_putI rfl (Or.inl rfl) (jv_bin o_mod (jv_callTy c_int (by rfl) Z.f_int bt_int (jl_cons (jv_bin o_add (jv_bin o_add (jv_bin o_mul (jv_ixB (jb_name 0 rfl (Or.inl rfl)) jv_int) jv_int) (jv_bin o_mul jv_int (jv_ixB (jb_name 0 rfl (Or.inl rfl)) jv_int))) jv_int) jl_nil).ja) jv_int) jv_int)
    (js_cons (js_set (noP_cons (by decide) noP_nil) sc__law_draw.nd rfl (Or.inl rfl) (jv_bin o_mod (jv_callTy c_int (by rfl) Z.f_int bt_int (jl_cons (jv_bin o_add (jv_bin o_add (jv_bin o_mul (jv_ixB (jb_name 0 rfl (Or.inl rfl)) jv_int) (jv_ixB (jb_name 0 rfl (Or.inl rfl)) jv_int)) (jv_bin o_mul jv_int (jv_ixB (jb_name 0 rfl (Or.inl rfl)) jv_int))) jv_int) jl_nil).ja) jv_int))
    (js_cons (js_set (noP_cons (by decide) noP_nil) sc__law_draw.nd rfl (Or.inl rfl) (jv_bin o_mod (jv_callTy c_int (by rfl) Z.f_int bt_int (jl_cons (jv_bin o_add (jv_bin o_mul (jv_name 3 rfl (Or.inl rfl)) (jv_name 3 rfl (Or.inl rfl))) (jv_bin o_mul jv_int (jv_name 3 rfl (Or.inl rfl)))) jl_nil).ja) jv_int))
    (js_one (js_ret (jv_bin o_mod (jv_callTy c_int (by rfl) Z.f_int bt_int (jl_cons (jv_bin o_div (jv_name 3 rfl (Or.inl rfl)) jv_int) jl_nil).ja) (jv_name 1 rfl (Or.inl rfl))))))))))
theorem ok__law_draw (Z : Tx K mg)  {f : Addr} {fd : FuncData} {kws : List (Str × V)} (G : FunD K "_law_draw" "_law_draw" (defArgs st__law_draw) (defBody st__law_draw) (defScope st__law_draw) [] kws f fd) : FnG P w K mg base 1 f fd ["_law_pen_here", "_law_many"] (spF1 K mg false 2 f__law_draw) :=
  fn1 (P := P) (w := w) (mg := mg) (base := base) (ro := false) (s := b__law_draw) (N := N__law_draw) (ps := ["_law_pen_here", "_law_many"]) rfl rfl G sc__law_draw fun cdv A outer s0 H E p hr hgu => d__law_draw Z  hr hgu
abbrev N__law_numbers : List Str := ["_law_pen_here", "_law_most", "_law_span", "_law_wide"]
theorem sc__law_numbers : FnScope N__law_numbers ["_law_pen_here", "_law_most"] (defScope st__law_numbers) := ⟨rfl, rfl, rfl, by decide +kernel, rfl, by decide +kernel, by decide +kernel⟩
theorem d__law_numbers (Z : Tx K mg) (hF__law_draw : FnC P w K mg base 1 "_law_draw" (spF1 K mg false 2 f__law_draw) ["_law_pen_here", "_law_many"] []) {f : Addr} {cdv : Value} {A : Around} {outer : List Env} {s0 : Shared} {H : Hp} {E : XK} {p : Addr} (hr : Room 1 (A.deeper (envOfC "_law_numbers" (defScope st__law_numbers) s0.heap.objs.size f cdv))) (hgu : A.guards = some []) : JSs (cxOf (L2.CX P w) P w K mg base N__law_numbers "_law_numbers" (defScope st__law_numbers) f cdv A outer s0 H E) [(0, p)] (WE0 E) (defBody st__law_numbers) b__law_numbers := by
  have hp : Pl (cxOf (L2.CX P w) P w K mg base N__law_numbers "_law_numbers" (defScope st__law_numbers) f cdv A outer s0 H E) 1 := ⟨hr, hgu⟩
  exact (js_cons (js_set (noP_cons (by decide) noP_nil) sc__law_numbers.nd rfl (Or.inl rfl) (jv_bin o_add jv_int (jv_c1 0 ⟨hF__law_draw⟩ hp (takes_of rfl rfl rfl rfl) nodd (by rfl) (by rfl) (Or.inl rfl) (jl_cons (jv_name 1 rfl (Or.inl rfl)) jl_nil))))
    (js_cons (js_set (noP_cons (by decide) noP_nil) sc__law_numbers.nd rfl (Or.inl rfl) (jv_callB (c_min (by rfl)) (by rfl) Z.f_min bt_min (jl_cons jv_int (jl_cons (jv_bin o_add (jv_name 2 rfl (Or.inl rfl)) jv_int) jl_nil)).ja))
    (js_one (js_ret (jv_tup (jl_cons (jv_c1 0 ⟨hF__law_draw⟩ hp (takes_of rfl rfl rfl rfl) nodd (by rfl) (by rfl) (Or.inl rfl) (jl_cons (jv_name 3 rfl (Or.inl rfl)) jl_nil)) (jl_cons (jv_c1 0 ⟨hF__law_draw⟩ hp (takes_of rfl rfl rfl rfl) nodd (by rfl) (by rfl) (Or.inl rfl) (jl_cons (jv_name 3 rfl (Or.inl rfl)) jl_nil)) (jl_cons (jv_name 2 rfl (Or.inl rfl)) (jl_cons (jv_bin o_add jv_int (jv_c1 0 ⟨hF__law_draw⟩ hp (takes_of rfl rfl rfl rfl) nodd (by rfl) (by rfl) (Or.inl rfl) (jl_cons jv_int jl_nil))) jl_nil)))).ja)))))
theorem ok__law_numbers (Z : Tx K mg) (hF__law_draw : FnC P w K mg base 1 "_law_draw" (spF1 K mg false 2 f__law_draw) ["_law_pen_here", "_law_many"] []) {f : Addr} {fd : FuncData} {kws : List (Str × V)} (G : FunD K "_law_numbers" "_law_numbers" (defArgs st__law_numbers) (defBody st__law_numbers) (defScope st__law_numbers) [] kws f fd) : FnG P w K mg base 2 f fd ["_law_pen_here", "_law_most"] (spF1 K mg false 2 f__law_numbers) :=
  fn1 (P := P) (w := w) (mg := mg) (base := base) (ro := false) (s := b__law_numbers) (N := N__law_numbers) (ps := ["_law_pen_here", "_law_most"]) rfl rfl G sc__law_numbers fun cdv A outer s0 H E p hr hgu => d__law_numbers Z hF__law_draw hr hgu
abbrev N_is_integer : List Str := ["value"]
theorem sc_is_integer : FnScope N_is_integer ["value"] (defScope st_is_integer) := ⟨rfl, rfl, rfl, by decide +kernel, rfl, by decide +kernel, by decide +kernel⟩
theorem d_is_integer (Z : Tx K mg)  {f : Addr} {cdv : Value} {A : Around} {outer : List Env} {s0 : Shared} {H : Hp} {E : XK} (hr : Room 0 (A.deeper (envOfC "is_integer" (defScope st_is_integer) s0.heap.objs.size f cdv))) (hgu : A.guards = some []) : JSs (cxOf (L2.CX P w) P w K mg base N_is_integer "is_integer" (defScope st_is_integer) f cdv A outer s0 H E) [] (WE0 E) (defBody st_is_integer) b_is_integer := by
  have hp : Pl (cxOf (L2.CX P w) P w K mg base N_is_integer "is_integer" (defScope st_is_integer) f cdv A outer s0 H E) 0 := ⟨hr, hgu⟩
  exact (js_one (js_ret (jv_and (jv_isiB Z.i_int (by rfl) Z.f_isinstance (by rfl) Z.f_int bt_int (jv_name 0 rfl (Or.inl rfl))) (jv_one (jv_not (jv_isiB Z.i_bool (by rfl) Z.f_isinstance (by rfl) Z.f_bool bt_bool (jv_name 0 rfl (Or.inl rfl))))))))
theorem ok_is_integer (Z : Tx K mg)  {f : Addr} {fd : FuncData} {kws : List (Str × V)} (G : FunD K "is_integer" "is_integer" (defArgs st_is_integer) (defBody st_is_integer) (defScope st_is_integer) [] kws f fd) : FnG P w K mg base 1 f fd ["value"] (spF0 K mg false 1 f_is_integer) :=
  fn0 (P := P) (w := w) (mg := mg) (base := base) (ro := false) (s := b_is_integer) (N := N_is_integer) (ps := ["value"]) rfl rfl G sc_is_integer fun cdv A outer s0 H E hr hgu => d_is_integer Z  hr hgu
abbrev N_is_between : List Str := ["value", "low", "high"]
theorem sc_is_between : FnScope N_is_between ["value", "low", "high"] (defScope st_is_between) := ⟨rfl, rfl, rfl, by decide +kernel, rfl, by decide +kernel, by decide +kernel⟩
theorem d_is_between (Z : Tx K mg) (hF_is_integer : FnC P w K mg base 1 "is_integer" (spF0 K mg false 1 f_is_integer) ["value"] []) {f : Addr} {cdv : Value} {A : Around} {outer : List Env} {s0 : Shared} {H : Hp} {E : XK} (hr : Room 1 (A.deeper (envOfC "is_between" (defScope st_is_between) s0.heap.objs.size f cdv))) (hgu : A.guards = some []) : JSs (cxOf (L2.CX P w) P w K mg base N_is_between "is_between" (defScope st_is_between) f cdv A outer s0 H E) [] (WE0 E) (defBody st_is_between) b_is_between := by
  have hp : Pl (cxOf (L2.CX P w) P w K mg base N_is_between "is_between" (defScope st_is_between) f cdv A outer s0 H E) 1 := ⟨hr, hgu⟩
  exact (js_one (js_ret (jv_and (jv_c0 ⟨hF_is_integer⟩ hp (takes_of rfl rfl rfl rfl) nodd (by rfl) (jl_cons (jv_name 0 rfl (Or.inl rfl)) jl_nil)) (jv_one (jv_chain p_le p_le (jv_name 1 rfl (Or.inl rfl)) (jv_name 0 rfl (Or.inl rfl)) (jv_name 2 rfl (Or.inl rfl)))))))
theorem ok_is_between (Z : Tx K mg) (hF_is_integer : FnC P w K mg base 1 "is_integer" (spF0 K mg false 1 f_is_integer) ["value"] []) {f : Addr} {fd : FuncData} {kws : List (Str × V)} (G : FunD K "is_between" "is_between" (defArgs st_is_between) (defBody st_is_between) (defScope st_is_between) [] kws f fd) : FnG P w K mg base 2 f fd ["value", "low", "high"] (spF0 K mg false 3 f_is_between) :=
  fn0 (P := P) (w := w) (mg := mg) (base := base) (ro := false) (s := b_is_between) (N := N_is_between) (ps := ["value", "low", "high"]) rfl rfl G sc_is_between fun cdv A outer s0 H E hr hgu => d_is_between Z hF_is_integer hr hgu
abbrev N_LimitsU_initU : List Str := ["self", "false_passes", "false_fails", "span", "settled", "bounds", "value", "low", "high"]
theorem sc_LimitsU_initU : FnScope N_LimitsU_initU ["self", "false_passes", "false_fails", "span", "settled"] (defScope st_LimitsU_initU) := ⟨rfl, rfl, rfl, by decide +kernel, rfl, by decide +kernel, by decide +kernel⟩
theorem d_LimitsU_initU (Z : Tx K mg) (hF_is_between : FnC P w K mg base 2 "is_between" (spF0 K mg false 3 f_is_between) ["value", "low", "high"] []) {f : Addr} {cdv : Value} {A : Around} {outer : List Env} {s0 : Shared} {H : Hp} {E : XK} {p : Addr} (hr : Room 2 (A.deeper (envOfC "Limits.__init__" (defScope st_LimitsU_initU) s0.heap.objs.size f cdv))) (hgu : A.guards = some []) : JSs (cxOf (L2.CX P w) P w K mg base N_LimitsU_initU "Limits.__init__" (defScope st_LimitsU_initU) f cdv A outer s0 H E) [(0, p)] (WE0 E) (defBody st_LimitsU_initU) b_LimitsU_initU := by
  have hp : Pl (cxOf (L2.CX P w) P w K mg base N_LimitsU_initU "Limits.__init__" (defScope st_LimitsU_initU) f cdv A outer s0 H E) 2 := ⟨hr, hgu⟩
  exact (js_cons (js_set (noP_cons (by decide) noP_nil) sc_LimitsU_initU.nd rfl (Or.inl rfl) (jv_tup (jl_cons (jv_tup (jl_cons (jv_name 1 rfl (Or.inl rfl)) (jl_cons jv_int (jl_cons (jv_gI (by rfl) Z.c_MOST_FALSE) jl_nil))).ja) (jl_cons (jv_tup (jl_cons (jv_name 2 rfl (Or.inl rfl)) (jl_cons jv_int (jl_cons (jv_gI (by rfl) Z.c_MOST_FALSE) jl_nil))).ja) (jl_cons (jv_tup (jl_cons (jv_name 3 rfl (Or.inl rfl)) (jl_cons jv_int (jl_cons (jv_gI (by rfl) Z.c_MOST_SPAN) jl_nil))).ja) jl_nil))).ja))
    (js_cons (js_for (passes_of rfl) rfl (ji_v (jv_bin o_add (jv_name 5 rfl (Or.inl rfl)) (jv_tup (jl_cons (jv_tup (jl_cons (jv_name 4 rfl (Or.inl rfl)) (jl_cons jv_int (jl_cons (jv_gI (by rfl) Z.c_MOST_SETTLED) jl_nil))).ja) jl_nil).ja))) (jg_tup rfl (jgs_cons (jg_name (noP_cons (by decide) noP_nil) sc_LimitsU_initU.nd rfl (Or.inl rfl)) (jgs_cons (jg_name (noP_cons (by decide) noP_nil) sc_LimitsU_initU.nd rfl (Or.inl rfl)) (jgs_cons (jg_name (noP_cons (by decide) noP_nil) sc_LimitsU_initU.nd rfl (Or.inl rfl)) jgs_nil)))) (ne_tup (nes_cons ne_name (nes_cons ne_name (nes_cons ne_name nes_nil))))
    (js_one (js_if (jt_not (jt_val (jv_c0 ⟨hF_is_between⟩ hp (takes_of rfl rfl rfl rfl) nodd (by rfl) (jl_cons (jv_name 6 rfl (Or.inl rfl)) (jl_cons (jv_name 7 rfl (Or.inl rfl)) (jl_cons (jv_name 8 rfl (Or.inl rfl)) jl_nil)))))) (js_one (js_raise rfl (takes_of rfl rfl rfl rfl) Z.x_NumberError (by rfl))) js_nil)))
    (js_cons (js_asg (jv_tup (jl_cons (jv_name 1 rfl (Or.inl rfl)) (jl_cons (jv_name 2 rfl (Or.inl rfl)) jl_nil)).ja) (jg_tup rfl (jgs_cons (jg_attr ⟨Z.k_Limits, Z.cl_Limits⟩ Z.n_Limits_most_passes rfl (Or.inl rfl)) (jgs_cons (jg_attr ⟨Z.k_Limits, Z.cl_Limits⟩ Z.n_Limits_most_fails rfl (Or.inl rfl)) jgs_nil))) (ne_tup (nes_cons ne_attr (nes_cons ne_attr nes_nil))))
    (js_one (js_asg (jv_tup (jl_cons (jv_name 3 rfl (Or.inl rfl)) (jl_cons (jv_name 4 rfl (Or.inl rfl)) jl_nil)).ja) (jg_tup rfl (jgs_cons (jg_attr ⟨Z.k_Limits, Z.cl_Limits⟩ Z.n_Limits_most_checks rfl (Or.inl rfl)) (jgs_cons (jg_attr ⟨Z.k_Limits, Z.cl_Limits⟩ Z.n_Limits_least_stay rfl (Or.inl rfl)) jgs_nil))) (ne_tup (nes_cons ne_attr (nes_cons ne_attr nes_nil))))))))
theorem ok_LimitsU_initU (Z : Tx K mg) (hF_is_between : FnC P w K mg base 2 "is_between" (spF0 K mg false 3 f_is_between) ["value", "low", "high"] []) {f : Addr} {fd : FuncData} {kws : List (Str × V)} (G : FunD K "__init__" "Limits.__init__" (defArgs st_LimitsU_initU) (defBody st_LimitsU_initU) (defScope st_LimitsU_initU) [] kws f fd) : FnG P w K mg base 3 f fd ["self", "false_passes", "false_fails", "span", "settled"] (spF1 K mg false 5 f_LimitsU_initU) :=
  fn1 (P := P) (w := w) (mg := mg) (base := base) (ro := false) (s := b_LimitsU_initU) (N := N_LimitsU_initU) (ps := ["self", "false_passes", "false_fails", "span", "settled"]) rfl rfl G sc_LimitsU_initU fun cdv A outer s0 H E p hr hgu => d_LimitsU_initU Z hF_is_between hr hgu
abbrev N__law_limits : List Str := ["_law_numbers_here"]
theorem sc__law_limits : FnScope N__law_limits ["_law_numbers_here"] (defScope st__law_limits) := ⟨rfl, rfl, rfl, by decide +kernel, rfl, by decide +kernel, by decide +kernel⟩
theorem d__law_limits (Z : Tx K mg) (hM_Limits_3_settled : ∃ f fd g, Mk K (He.ga K "Limits") f ∧ FnG P w K mg base 3 f fd ["self", "false_passes", "false_fails", "span", "settled"] (spF1 K mg false 5 f_LimitsU_initU) ∧ KBn K fd ["self", "false_passes", "false_fails", "span", "settled"] 4 ["settled"] g gV_Limits_3_settled) {f : Addr} {cdv : Value} {A : Around} {outer : List Env} {s0 : Shared} {H : Hp} {E : XK} (hr : Room 4 (A.deeper (envOfC "_law_limits" (defScope st__law_limits) s0.heap.objs.size f cdv))) (hgu : A.guards = some []) : JSs (cxOf (L2.CX P w) P w K mg base N__law_limits "_law_limits" (defScope st__law_limits) f cdv A outer s0 H E) [] (WE0 E) (defBody st__law_limits) b__law_limits := by
  have hp : Pl (cxOf (L2.CX P w) P w K mg base N__law_limits "_law_limits" (defScope st__law_limits) f cdv A outer s0 H E) 4 := ⟨hr, hgu⟩
  exact (js_one (js_ret (ofO (jo_make (C := He.ga K "Limits") ⟨⟨Z.k_Limits, Z.cl_Limits⟩, hM_Limits_3_settled⟩ (hp.room.mono (by decide)) hp.gu (takes_of rfl rfl rfl rfl) (by rfl) (jl_cons (jv_ix (jv_name 0 rfl (Or.inl rfl)) jv_int) (jl_cons (jv_ix (jv_name 0 rfl (Or.inl rfl)) jv_int) (jl_cons (jv_ix (jv_name 0 rfl (Or.inl rfl)) jv_int) jl_nil))) (jk_cons (jv_ix (jv_name 0 rfl (Or.inl rfl)) jv_int) jk_nil) rel_Limits_3_settled))))
theorem ok__law_limits (Z : Tx K mg) (hM_Limits_3_settled : ∃ f fd g, Mk K (He.ga K "Limits") f ∧ FnG P w K mg base 3 f fd ["self", "false_passes", "false_fails", "span", "settled"] (spF1 K mg false 5 f_LimitsU_initU) ∧ KBn K fd ["self", "false_passes", "false_fails", "span", "settled"] 4 ["settled"] g gV_Limits_3_settled) {f : Addr} {fd : FuncData} {kws : List (Str × V)} (G : FunD K "_law_limits" "_law_limits" (defArgs st__law_limits) (defBody st__law_limits) (defScope st__law_limits) [] kws f fd) : FnG P w K mg base 5 f fd ["_law_numbers_here"] (spF0 K mg false 1 f__law_limits) :=
  fn0 (P := P) (w := w) (mg := mg) (base := base) (ro := false) (s := b__law_limits) (N := N__law_limits) (ps := ["_law_numbers_here"]) rfl rfl G sc__law_limits fun cdv A outer s0 H E hr hgu => d__law_limits Z hM_Limits_3_settled hr hgu
abbrev N__law_same : List Str := ["_law_found", "_law_due"]
theorem sc__law_same : FnScope N__law_same ["_law_found", "_law_due"] (defScope st__law_same) := ⟨rfl, rfl, rfl, by decide +kernel, rfl, by decide +kernel, by decide +kernel⟩
theorem d__law_same (Z : Tx K mg)  {f : Addr} {cdv : Value} {A : Around} {outer : List Env} {s0 : Shared} {H : Hp} {E : XK} (hr : Room 0 (A.deeper (envOfC "_law_same" (defScope st__law_same) s0.heap.objs.size f cdv))) (hgu : A.guards = some []) : JSs (cxOf (L2.CX P w) P w K mg base N__law_same "_law_same" (defScope st__law_same) f cdv A outer s0 H E) [] (WE0 E) (defBody st__law_same) b__law_same := by
  have hp : Pl (cxOf (L2.CX P w) P w K mg base N__law_same "_law_same" (defScope st__law_same) f cdv A outer s0 H E) 0 := ⟨hr, hgu⟩
  exact (js_one (js_ret (jv_cmp (o_eq hp.u64) (jv_callV1 (c_repr hp.gu hp.u100) (by rfl) Z.f_repr bt_repr (jv_name 0 rfl (Or.inl rfl))) (jv_callV1 (c_repr hp.gu hp.u100) (by rfl) Z.f_repr bt_repr (jv_name 1 rfl (Or.inl rfl))))))
theorem ok__law_same (Z : Tx K mg)  {f : Addr} {fd : FuncData} {kws : List (Str × V)} (G : FunD K "_law_same" "_law_same" (defArgs st__law_same) (defBody st__law_same) (defScope st__law_same) [] kws f fd) : FnG P w K mg base 1 f fd ["_law_found", "_law_due"] (spF0 K mg false 2 f__law_same) :=
  fn0 (P := P) (w := w) (mg := mg) (base := base) (ro := false) (s := b__law_same) (N := N__law_same) (ps := ["_law_found", "_law_due"]) rfl rfl G sc__law_same fun cdv A outer s0 H E hr hgu => d__law_same Z  hr hgu
abbrev N_LimitsU_reprU : List Str := ["self"]
theorem sc_LimitsU_reprU : FnScope N_LimitsU_reprU ["self"] (defScope st_LimitsU_reprU) := ⟨rfl, rfl, rfl, by decide +kernel, rfl, by decide +kernel, by decide +kernel⟩
theorem d_LimitsU_reprU (Z : Tx K mg)  {f : Addr} {cdv : Value} {A : Around} {outer : List Env} {s0 : Shared} {H : Hp} {E : XK} (hr : Room 0 (A.deeper (envOfC "Limits.__repr__" (defScope st_LimitsU_reprU) s0.heap.objs.size f cdv))) (hgu : A.guards = some []) : JSs (cxOf (L2.CX P w) P w K mg base N_LimitsU_reprU "Limits.__repr__" (defScope st_LimitsU_reprU) f cdv A outer s0 H E) [] (WE0 E) (defBody st_LimitsU_reprU) b_LimitsU_reprU := by
  have hp : Pl (cxOf (L2.CX P w) P w K mg base N_LimitsU_reprU "Limits.__repr__" (defScope st_LimitsU_reprU) f cdv A outer s0 H E) 0 := ⟨hr, hgu⟩
  exact (js_one (js_ret (jv_js (jj_cons jv_str (jj_cons (jv_fmt (jv_fldV ⟨Z.k_Limits, Z.cl_Limits⟩ Z.n_Limits_most_passes (jv_name 0 rfl (Or.inl rfl)))) (jj_cons jv_str (jj_cons (jv_fmt (jv_fldV ⟨Z.k_Limits, Z.cl_Limits⟩ Z.n_Limits_most_fails (jv_name 0 rfl (Or.inl rfl)))) (jj_cons jv_str (jj_cons (jv_fmt (jv_fldV ⟨Z.k_Limits, Z.cl_Limits⟩ Z.n_Limits_most_checks (jv_name 0 rfl (Or.inl rfl)))) (jj_cons jv_str (jj_cons (jv_fmt (jv_fldV ⟨Z.k_Limits, Z.cl_Limits⟩ Z.n_Limits_least_stay (jv_name 0 rfl (Or.inl rfl)))) (jj_cons jv_str jj_nil))))))))))))
theorem ok_LimitsU_reprU (Z : Tx K mg)  {f : Addr} {fd : FuncData} {kws : List (Str × V)} (G : FunD K "__repr__" "Limits.__repr__" (defArgs st_LimitsU_reprU) (defBody st_LimitsU_reprU) (defScope st_LimitsU_reprU) [] kws f fd) : FnG P w K mg base 1 f fd ["self"] (spF0 K mg false 1 f_LimitsU_reprU) :=
  fn0 (P := P) (w := w) (mg := mg) (base := base) (ro := false) (s := b_LimitsU_reprU) (N := N_LimitsU_reprU) (ps := ["self"]) rfl rfl G sc_LimitsU_reprU fun cdv A outer s0 H E hr hgu => d_LimitsU_reprU Z  hr hgu
abbrev N__law_is_seen : List Str := ["_law_limits_here", "_law_numbers_here", "_law_seen", "_law_text", "_law_due", "_law_number"]
theorem sc__law_is_seen : FnScope N__law_is_seen ["_law_limits_here", "_law_numbers_here"] (defScope st__law_is_seen) := ⟨rfl, rfl, rfl, by decide +kernel, rfl, by decide +kernel, by decide +kernel⟩
theorem d__law_is_seen (Z : Tx K mg) (hP_false_passes : ∃ pp ga fd, PropOf K (He.ga K "Limits") "false_passes" pp ga ∧ FnOk P w K mg base CX0 1 ga fd ["self"] (getSp (He.ga K "Limits") "most_passes") ∧ Binds K fd ["self"] []) (hP_false_fails : ∃ pp ga fd, PropOf K (He.ga K "Limits") "false_fails" pp ga ∧ FnOk P w K mg base CX0 1 ga fd ["self"] (getSp (He.ga K "Limits") "most_fails") ∧ Binds K fd ["self"] []) (hP_span : ∃ pp ga fd, PropOf K (He.ga K "Limits") "span" pp ga ∧ FnOk P w K mg base CX0 1 ga fd ["self"] (getSp (He.ga K "Limits") "most_checks") ∧ Binds K fd ["self"] []) (hP_settled : ∃ pp ga fd, PropOf K (He.ga K "Limits") "settled" pp ga ∧ FnOk P w K mg base CX0 1 ga fd ["self"] (getSp (He.ga K "Limits") "least_stay") ∧ Binds K fd ["self"] []) (hF__law_same : FnC P w K mg base 1 "_law_same" (spF0 K mg false 2 f__law_same) ["_law_found", "_law_due"] []) (hO_LimitsU_reprU : ∃ fa fd, Meth K (He.ga K "Limits") "__repr__" fa ∧ FnG P w K mg base 1 fa fd ["self"] (spF0 K mg false 1 f_LimitsU_reprU) ∧ Binds K fd ["self"] []) {f : Addr} {cdv : Value} {A : Around} {outer : List Env} {s0 : Shared} {H : Hp} {E : XK} (hr : Room 2 (A.deeper (envOfC "_law_is_seen" (defScope st__law_is_seen) s0.heap.objs.size f cdv))) (hgu : A.guards = some []) : JSs (cxOf (L2.CX P w) P w K mg base N__law_is_seen "_law_is_seen" (defScope st__law_is_seen) f cdv A outer s0 H E) [] (WE0 E) (defBody st__law_is_seen) b__law_is_seen := by
  have hp : Pl (cxOf (L2.CX P w) P w K mg base N__law_is_seen "_law_is_seen" (defScope st__law_is_seen) f cdv A outer s0 H E) 2 := ⟨hr, hgu⟩
  exact (js_cons (js_set noP_nil sc__law_is_seen.nd rfl (Or.inl rfl) (jv_tup (jl_cons (jv_propV ⟨⟨Z.k_Limits, Z.cl_Limits⟩, hP_false_passes⟩ hp (jv_name 0 rfl (Or.inl rfl))) (jl_cons (jv_propV ⟨⟨Z.k_Limits, Z.cl_Limits⟩, hP_false_fails⟩ hp (jv_name 0 rfl (Or.inl rfl))) (jl_cons (jv_propV ⟨⟨Z.k_Limits, Z.cl_Limits⟩, hP_span⟩ hp (jv_name 0 rfl (Or.inl rfl))) (jl_cons (jv_propV ⟨⟨Z.k_Limits, Z.cl_Limits⟩, hP_settled⟩ hp (jv_name 0 rfl (Or.inl rfl))) jl_nil)))).ja))
    (js_cons (js_set noP_nil sc__law_is_seen.nd rfl (Or.inl rfl) (jv_mt PySem.F.slot_str_join PySem.F.type_str_join m_join jv_str (jl_cons (ofO (jo_lc [("_law_number", 5)] hp rfl sc__law_is_seen.nd noPs_nil (blkOk_by (by rfl)) (ji_v (jv_slice (jv_name 1 rfl (Or.inl rfl)) jp_none (jp_some jv_int))) (fun s1 H1 C1 cl1 fp1 hp => (jh_name noP_nil sc__law_is_seen.nd rfl (Or.inl rfl) (by decide))) (fun s1 H1 C1 cl1 fp1 hp => jts_nil) (fun s1 H1 C1 cl1 fp1 hp => (jv_callT1 c_str (by rfl) Z.f_str bt_str (jv_name 5 rfl (Or.inl rfl)))))) jl_nil).ja))
    (js_cons (js_set noP_nil sc__law_is_seen.nd rfl (Or.inl rfl) (jv_bin o_add (jv_bin o_add (jv_bin o_add (jv_bin o_add jv_str (jv_name 3 rfl (Or.inl rfl))) jv_str) (jv_callT1 c_str (by rfl) Z.f_str bt_str (jv_ix (jv_name 1 rfl (Or.inl rfl)) jv_int))) jv_str))
    (js_one (js_ret (jv_and (jv_c0 ⟨hF__law_same⟩ hp (takes_of rfl rfl rfl rfl) nodd (by rfl) (jl_cons (jv_name 2 rfl (Or.inl rfl)) (jl_cons (jv_name 1 rfl (Or.inl rfl)) jl_nil))) (jv_one (jv_cmp (o_eq hp.u64) (jv_reprO (OwnK.m ⟨⟨Z.k_Limits, Z.cl_Limits⟩, hO_LimitsU_reprU⟩) hp (c_repr hp.gu hp.u100) (by rfl) Z.f_repr bt_repr (jv_name 0 rfl (Or.inl rfl))) (jv_name 4 rfl (Or.inl rfl))))))))))
theorem ok__law_is_seen (Z : Tx K mg) (hP_false_passes : ∃ pp ga fd, PropOf K (He.ga K "Limits") "false_passes" pp ga ∧ FnOk P w K mg base CX0 1 ga fd ["self"] (getSp (He.ga K "Limits") "most_passes") ∧ Binds K fd ["self"] []) (hP_false_fails : ∃ pp ga fd, PropOf K (He.ga K "Limits") "false_fails" pp ga ∧ FnOk P w K mg base CX0 1 ga fd ["self"] (getSp (He.ga K "Limits") "most_fails") ∧ Binds K fd ["self"] []) (hP_span : ∃ pp ga fd, PropOf K (He.ga K "Limits") "span" pp ga ∧ FnOk P w K mg base CX0 1 ga fd ["self"] (getSp (He.ga K "Limits") "most_checks") ∧ Binds K fd ["self"] []) (hP_settled : ∃ pp ga fd, PropOf K (He.ga K "Limits") "settled" pp ga ∧ FnOk P w K mg base CX0 1 ga fd ["self"] (getSp (He.ga K "Limits") "least_stay") ∧ Binds K fd ["self"] []) (hF__law_same : FnC P w K mg base 1 "_law_same" (spF0 K mg false 2 f__law_same) ["_law_found", "_law_due"] []) (hO_LimitsU_reprU : ∃ fa fd, Meth K (He.ga K "Limits") "__repr__" fa ∧ FnG P w K mg base 1 fa fd ["self"] (spF0 K mg false 1 f_LimitsU_reprU) ∧ Binds K fd ["self"] []) {f : Addr} {fd : FuncData} {kws : List (Str × V)} (G : FunD K "_law_is_seen" "_law_is_seen" (defArgs st__law_is_seen) (defBody st__law_is_seen) (defScope st__law_is_seen) [] kws f fd) : FnG P w K mg base 3 f fd ["_law_limits_here", "_law_numbers_here"] (spF0 K mg false 2 f__law_is_seen) :=
  fn0 (P := P) (w := w) (mg := mg) (base := base) (ro := false) (s := b__law_is_seen) (N := N__law_is_seen) (ps := ["_law_limits_here", "_law_numbers_here"]) rfl rfl G sc__law_is_seen fun cdv A outer s0 H E hr hgu => d__law_is_seen Z hP_false_passes hP_false_fails hP_span hP_settled hF__law_same hO_LimitsU_reprU hr hgu
abbrev N_Limits_numbers : List Str := ["self"]
theorem sc_Limits_numbers : FnScope N_Limits_numbers ["self"] (defScope st_Limits_numbers) := ⟨rfl, rfl, rfl, by decide +kernel, rfl, by decide +kernel, by decide +kernel⟩
theorem d_Limits_numbers (Z : Tx K mg)  {f : Addr} {cdv : Value} {A : Around} {outer : List Env} {s0 : Shared} {H : Hp} {E : XK} (hr : Room 0 (A.deeper (envOfC "Limits.numbers" (defScope st_Limits_numbers) s0.heap.objs.size f cdv))) (hgu : A.guards = some []) : JSs (cxOf (L2.CX P w) P w K mg base N_Limits_numbers "Limits.numbers" (defScope st_Limits_numbers) f cdv A outer s0 H E) [] (WE0 E) (defBody st_Limits_numbers) b_Limits_numbers := by
  have hp : Pl (cxOf (L2.CX P w) P w K mg base N_Limits_numbers "Limits.numbers" (defScope st_Limits_numbers) f cdv A outer s0 H E) 0 := ⟨hr, hgu⟩
  exact (js_one (js_ret (jv_tup (jl_cons (jv_fldV ⟨Z.k_Limits, Z.cl_Limits⟩ Z.n_Limits_most_passes (jv_name 0 rfl (Or.inl rfl))) (jl_cons (jv_fldV ⟨Z.k_Limits, Z.cl_Limits⟩ Z.n_Limits_most_fails (jv_name 0 rfl (Or.inl rfl))) (jl_cons (jv_fldV ⟨Z.k_Limits, Z.cl_Limits⟩ Z.n_Limits_most_checks (jv_name 0 rfl (Or.inl rfl))) (jl_cons (jv_fldV ⟨Z.k_Limits, Z.cl_Limits⟩ Z.n_Limits_least_stay (jv_name 0 rfl (Or.inl rfl))) jl_nil)))).ja)))
theorem ok_Limits_numbers (Z : Tx K mg)  {f : Addr} {fd : FuncData} {kws : List (Str × V)} (G : FunD K "numbers" "Limits.numbers" (defArgs st_Limits_numbers) (defBody st_Limits_numbers) (defScope st_Limits_numbers) [] kws f fd) : FnG P w K mg base 1 f fd ["self"] (spF0 K mg false 1 f_Limits_numbers) :=
  fn0 (P := P) (w := w) (mg := mg) (base := base) (ro := false) (s := b_Limits_numbers) (N := N_Limits_numbers) (ps := ["self"]) rfl rfl G sc_Limits_numbers fun cdv A outer s0 H E hr hgu => d_Limits_numbers Z  hr hgu
abbrev N_LimitsU_eqU : List Str := ["self", "other"]
theorem sc_LimitsU_eqU : FnScope N_LimitsU_eqU ["self", "other"] (defScope st_LimitsU_eqU) := ⟨rfl, rfl, rfl, by decide +kernel, rfl, by decide +kernel, by decide +kernel⟩
theorem d_LimitsU_eqU (Z : Tx K mg) (hO_Limits_numbers : ∃ fa fd, Meth K (He.ga K "Limits") "numbers" fa ∧ FnG P w K mg base 1 fa fd ["self"] (spF0 K mg false 1 f_Limits_numbers) ∧ Binds K fd ["self"] []) {f : Addr} {cdv : Value} {A : Around} {outer : List Env} {s0 : Shared} {H : Hp} {E : XK} (hr : Room 1 (A.deeper (envOfC "Limits.__eq__" (defScope st_LimitsU_eqU) s0.heap.objs.size f cdv))) (hgu : A.guards = some []) : JSs (cxOf (L2.CX P w) P w K mg base N_LimitsU_eqU "Limits.__eq__" (defScope st_LimitsU_eqU) f cdv A outer s0 H E) [] (WE0 E) (defBody st_LimitsU_eqU) b_LimitsU_eqU := by
  have hp : Pl (cxOf (L2.CX P w) P w K mg base N_LimitsU_eqU "Limits.__eq__" (defScope st_LimitsU_eqU) f cdv A outer s0 H E) 1 := ⟨hr, hgu⟩
  exact (js_one (js_ret (jv_and (jv_isiC (C := He.ga K "Limits") Z.i_Limits (by rfl) Z.f_isinstance (by rfl) Z.k_Limits (jv_name 1 rfl (Or.inl rfl))) (jv_one (jv_cmp (o_eq hp.u64) (jv_me0 ⟨⟨Z.k_Limits, Z.cl_Limits⟩, hO_Limits_numbers⟩ hp (takes_of rfl rfl rfl rfl) (jv_name 0 rfl (Or.inl rfl))) (jv_me0 ⟨⟨Z.k_Limits, Z.cl_Limits⟩, hO_Limits_numbers⟩ hp (takes_of rfl rfl rfl rfl) (jv_name 1 rfl (Or.inl rfl))))))))
theorem ok_LimitsU_eqU (Z : Tx K mg) (hO_Limits_numbers : ∃ fa fd, Meth K (He.ga K "Limits") "numbers" fa ∧ FnG P w K mg base 1 fa fd ["self"] (spF0 K mg false 1 f_Limits_numbers) ∧ Binds K fd ["self"] []) {f : Addr} {fd : FuncData} {kws : List (Str × V)} (G : FunD K "__eq__" "Limits.__eq__" (defArgs st_LimitsU_eqU) (defBody st_LimitsU_eqU) (defScope st_LimitsU_eqU) [] kws f fd) : FnG P w K mg base 2 f fd ["self", "other"] (spF0 K mg false 2 f_LimitsU_eqU) :=
  fn0 (P := P) (w := w) (mg := mg) (base := base) (ro := false) (s := b_LimitsU_eqU) (N := N_LimitsU_eqU) (ps := ["self", "other"]) rfl rfl G sc_LimitsU_eqU fun cdv A outer s0 H E hr hgu => d_LimitsU_eqU Z hO_Limits_numbers hr hgu
abbrev N__law_pick : List Str := ["_law_pen_here", "_law_values"]
theorem sc__law_pick : FnScope N__law_pick ["_law_pen_here", "_law_values"] (defScope st__law_pick) := ⟨rfl, rfl, rfl, by decide +kernel, rfl, by decide +kernel, by decide +kernel⟩
theorem d__law_pick (Z : Tx K mg) (hF__law_draw : FnC P w K mg base 1 "_law_draw" (spF1 K mg false 2 f__law_draw) ["_law_pen_here", "_law_many"] []) {f : Addr} {cdv : Value} {A : Around} {outer : List Env} {s0 : Shared} {H : Hp} {E : XK} {p : Addr} (hr : Room 1 (A.deeper (envOfC "_law_pick" (defScope st__law_pick) s0.heap.objs.size f cdv))) (hgu : A.guards = some []) : JSs (cxOf (L2.CX P w) P w K mg base N__law_pick "_law_pick" (defScope st__law_pick) f cdv A outer s0 H E) [(0, p)] (WE0 E) (defBody st__law_pick) b__law_pick := by
  have hp : Pl (cxOf (L2.CX P w) P w K mg base N__law_pick "_law_pick" (defScope st__law_pick) f cdv A outer s0 H E) 1 := ⟨hr, hgu⟩
  exact (js_one (js_ret (jv_ix (jv_name 1 rfl (Or.inl rfl)) (jv_c1 0 ⟨hF__law_draw⟩ hp (takes_of rfl rfl rfl rfl) nodd (by rfl) (by rfl) (Or.inl rfl) (jl_cons (jv_callV1 c_len (by rfl) Z.f_len bt_len (jv_name 1 rfl (Or.inl rfl))) jl_nil)))))
theorem ok__law_pick (Z : Tx K mg) (hF__law_draw : FnC P w K mg base 1 "_law_draw" (spF1 K mg false 2 f__law_draw) ["_law_pen_here", "_law_many"] []) {f : Addr} {fd : FuncData} {kws : List (Str × V)} (G : FunD K "_law_pick" "_law_pick" (defArgs st__law_pick) (defBody st__law_pick) (defScope st__law_pick) [] kws f fd) : FnG P w K mg base 2 f fd ["_law_pen_here", "_law_values"] (spF1 K mg false 2 f__law_pick) :=
  fn1 (P := P) (w := w) (mg := mg) (base := base) (ro := false) (s := b__law_pick) (N := N__law_pick) (ps := ["_law_pen_here", "_law_values"]) rfl rfl G sc__law_pick fun cdv A outer s0 H E p hr hgu => d__law_pick Z hF__law_draw hr hgu
abbrev N__law_odd : List Str := ["_law_pen_here", "_law_some"]
theorem sc__law_odd : FnScope N__law_odd ["_law_pen_here"] (defScope st__law_odd) := ⟨rfl, rfl, rfl, by decide +kernel, rfl, by decide +kernel, by decide +kernel⟩
theorem d__law_odd (Z : Tx K mg) (hF__law_pick : FnC P w K mg base 2 "_law_pick" (spF1 K mg false 2 f__law_pick) ["_law_pen_here", "_law_values"] []) {f : Addr} {cdv : Value} {A : Around} {outer : List Env} {s0 : Shared} {H : Hp} {E : XK} {p : Addr} (hr : Room 2 (A.deeper (envOfC "_law_odd" (defScope st__law_odd) s0.heap.objs.size f cdv))) (hgu : A.guards = some []) : JSs (cxOf (L2.CX P w) P w K mg base N__law_odd "_law_odd" (defScope st__law_odd) f cdv A outer s0 H E) [(0, p)] (WE0 E) (defBody st__law_odd) b__law_odd := by
  have hp : Pl (cxOf (L2.CX P w) P w K mg base N__law_odd "_law_odd" (defScope st__law_odd) f cdv A outer s0 H E) 2 := ⟨hr, hgu⟩
  exact (js_cons (js_set (noP_cons (by decide) noP_nil) sc__law_odd.nd rfl (Or.inl rfl) (ofO (jo_lst (jl_cons jv_non (jl_cons jv_bl (jl_cons jv_bl (jl_cons (jv_neg jv_int) (jl_cons jv_int (jl_cons jv_int (jl_cons jv_int (jl_cons jv_int (jl_cons (jv_bin o_pow jv_int jv_int) (jl_cons jv_str (jl_cons jv_str (jl_cons jv_str (jl_cons jv_str (jl_cons jv_str (jl_cons jv_str (jl_cons jv_str (jl_cons (jv_tup jl_nil.ja) (jl_cons (ofO (jo_lst jl_nil.ja)) (jl_cons (ofO jo_dnewK) (jl_cons (jv_tup (jl_cons jv_int jl_nil).ja) (jl_cons (ofO (jo_lst (jl_cons jv_int jl_nil).ja)) jl_nil))))))))))))))))))))).ja)))
    (js_cons (js_set (noP_cons (by decide) noP_nil) sc__law_odd.nd rfl (Or.inl rfl) (jv_bin o_add (jv_name 1 rfl (Or.inl rfl)) (ofO (jo_lst (jl_cons (ofO (jo_disp (jps_cons jv_int jv_int jps_nil))) (jl_cons (jv_tup (jl_cons jv_str (jl_cons jv_int (jl_cons jv_int jl_nil))).ja) (jl_cons (jv_tup (jl_cons (jv_tup (jl_cons jv_str (jl_cons jv_int (jl_cons jv_int jl_nil))).ja) jl_nil).ja) (jl_cons (ofO (jo_lst (jl_cons (jv_tup (jl_cons jv_str (jl_cons jv_int (jl_cons jv_int jl_nil))).ja) jl_nil).ja)) (jl_cons (jv_tup (jl_cons jv_str (jl_cons jv_str jl_nil)).ja) (jl_cons (jv_tup (jl_cons jv_str (jl_cons jv_str jl_nil)).ja) (jl_cons jv_str (jl_cons (jv_tup (jl_cons jv_non jl_nil).ja) (jl_cons jv_str jl_nil))))))))).ja))))
    (js_one (js_ret (jv_c1 0 ⟨hF__law_pick⟩ hp (takes_of rfl rfl rfl rfl) nodd (by rfl) (by rfl) (Or.inl rfl) (jl_cons (jv_name 1 rfl (Or.inl rfl)) jl_nil))))))
theorem ok__law_odd (Z : Tx K mg) (hF__law_pick : FnC P w K mg base 2 "_law_pick" (spF1 K mg false 2 f__law_pick) ["_law_pen_here", "_law_values"] []) {f : Addr} {fd : FuncData} {kws : List (Str × V)} (G : FunD K "_law_odd" "_law_odd" (defArgs st__law_odd) (defBody st__law_odd) (defScope st__law_odd) [] kws f fd) : FnG P w K mg base 3 f fd ["_law_pen_here"] (spF1 K mg false 1 f__law_odd) :=
  fn1 (P := P) (w := w) (mg := mg) (base := base) (ro := false) (s := b__law_odd) (N := N__law_odd) (ps := ["_law_pen_here"]) rfl rfl G sc__law_odd fun cdv A outer s0 H E p hr hgu => d__law_odd Z hF__law_pick hr hgu
abbrev N__law_wrongs : List Str := ["_law_numbers_here", "_law_found", "_law_at", "_law_bad"]
theorem sc__law_wrongs : FnScope N__law_wrongs ["_law_numbers_here"] (defScope st__law_wrongs) := ⟨rfl, rfl, rfl, by decide +kernel, rfl, by decide +kernel, by decide +kernel⟩
theorem d__law_wrongs (Z : Tx K mg)  {f : Addr} {cdv : Value} {A : Around} {outer : List Env} {s0 : Shared} {H : Hp} {E : XK} (hr : Room 0 (A.deeper (envOfC "_law_wrongs" (defScope st__law_wrongs) s0.heap.objs.size f cdv))) (hgu : A.guards = some []) : JSs (cxOf (L2.CX P w) P w K mg base N__law_wrongs "_law_wrongs" (defScope st__law_wrongs) f cdv A outer s0 H E) [] (WE0 E) (defBody st__law_wrongs) b__law_wrongs := by
  have hp : Pl (cxOf (L2.CX P w) P w K mg base N__law_wrongs "_law_wrongs" (defScope st__law_wrongs) f cdv A outer s0 H E) 0 := ⟨hr, hgu⟩
  exact (js_cons (js_setO noP_nil sc__law_wrongs.nd rfl (Or.inl rfl) (jo_lst jl_nil.ja))
    (js_cons (js_for (passes_of rfl) rfl (ji_range1 (by rfl) Z.f_range (jl_cons jv_int jl_nil).ja) (jg_name noP_nil sc__law_wrongs.nd rfl (Or.inl rfl)) ne_name
    (js_one (js_for (passes_of rfl) rfl (ji_v (ofO (jo_lst (jl_cons (jv_neg jv_int) (jl_cons (jv_ix (ofO (jo_lst (jl_cons jv_int (jl_cons jv_int (jl_cons jv_int (jl_cons jv_int jl_nil)))).ja)) (jv_name 2 rfl (Or.inl rfl))) (jl_cons jv_non (jl_cons jv_bl (jl_cons jv_bl (jl_cons jv_str (jl_cons (jv_tup (jl_cons jv_int jl_nil).ja) (jl_cons (ofO (jo_lst (jl_cons jv_int jl_nil).ja)) (jl_cons (jv_bin o_pow jv_int jv_int) jl_nil))))))))).ja))) (jg_name noP_nil sc__law_wrongs.nd rfl (Or.inl rfl)) ne_name
    (js_one (js_append (i := 1) rfl (Or.inl rfl) (jv_bin o_add (jv_bin o_add (jv_slice (jv_name 0 rfl (Or.inl rfl)) jp_none (jp_some (jv_name 2 rfl (Or.inl rfl)))) (jv_tup (jl_cons (jv_name 3 rfl (Or.inl rfl)) jl_nil).ja)) (jv_slice (jv_name 0 rfl (Or.inl rfl)) (jp_some (jv_bin o_add (jv_name 2 rfl (Or.inl rfl)) jv_int)) jp_none)))))))
    (js_one (js_ret (jv_bin o_add (jv_name 1 rfl (Or.inl rfl)) (ofO (jo_lst (jl_cons (jv_bin o_add (jv_bin o_add (jv_slice (jv_name 0 rfl (Or.inl rfl)) jp_none (jp_some jv_int)) (jv_tup (jl_cons jv_int jl_nil).ja)) (jv_slice (jv_name 0 rfl (Or.inl rfl)) (jp_some jv_int) jp_none)) (jl_cons (jv_bin o_add (jv_slice (jv_name 0 rfl (Or.inl rfl)) jp_none (jp_some jv_int)) (jv_tup (jl_cons jv_int jl_nil).ja)) jl_nil)).ja)))))))
theorem ok__law_wrongs (Z : Tx K mg)  {f : Addr} {fd : FuncData} {kws : List (Str × V)} (G : FunD K "_law_wrongs" "_law_wrongs" (defArgs st__law_wrongs) (defBody st__law_wrongs) (defScope st__law_wrongs) [] kws f fd) : FnG P w K mg base 1 f fd ["_law_numbers_here"] (spF0 K mg false 1 f__law_wrongs) :=
  fn0 (P := P) (w := w) (mg := mg) (base := base) (ro := false) (s := b__law_wrongs) (N := N__law_wrongs) (ps := ["_law_numbers_here"]) rfl rfl G sc__law_wrongs fun cdv A outer s0 H E hr hgu => d__law_wrongs Z  hr hgu
abbrev N__law_refused : List Str := ["_law_numbers_here", "e"]
theorem sc__law_refused : FnScope N__law_refused ["_law_numbers_here"] (defScope st__law_refused) := ⟨rfl, rfl, rfl, by decide +kernel, rfl, by decide +kernel, by decide +kernel⟩
theorem d__law_refused (Z : Tx K mg) (hF__law_limits : FnC P w K mg base 5 "_law_limits" (spF0 K mg false 1 f__law_limits) ["_law_numbers_here"] []) {f : Addr} {cdv : Value} {A : Around} {outer : List Env} {s0 : Shared} {H : Hp} {E : XK} (hr : Room 5 (A.deeper (envOfC "_law_refused" (defScope st__law_refused) s0.heap.objs.size f cdv))) (hgu : A.guards = some []) : JSs (cxOf (L2.CX P w) P w K mg base N__law_refused "_law_refused" (defScope st__law_refused) f cdv A outer s0 H E) [] (WE0 E) (defBody st__law_refused) b__law_refused := by
  have hp : Pl (cxOf (L2.CX P w) P w K mg base N__law_refused "_law_refused" (defScope st__law_refused) f cdv A outer s0 H E) 5 := ⟨hr, hgu⟩
  exact (js_cons (js_try hp rfl rfl sc__law_refused.nd rfl rfl ⟨by rfl, by decide, .inl Z.k_NumberError⟩ (takes_of rfl rfl rfl rfl) noP_nil Z.ct_NumberError (fun W1 pn1 xe1 hp tk pp => (js_one (js_expr (jv_c0 ⟨hF__law_limits⟩ hp tk nodd (by rfl) (jl_cons (jv_name 0 rfl (Or.inl rfl)) jl_nil)))))
    (fun a1 oe1 cls1 d1 pn1 ex hz hfs hm hd => (js_one (js_ret (jv_and (jv_isE (c := .ty "ValueError") Z.e_ValueError hz hfs hm hd (fun u h => h) (pe_bltn (v := .ty "ValueError") (by rfl) Z.f_ValueError bt_ValueError rfl (by decide) (by decide)) (fun _ _ _ h => h) (by rfl) Z.f_isinstance rfl (Or.inl rfl)) (jv_one (jv_not (jv_isE (c := .ref (He.ga K "LimitsError")) Z.e_LimitsError hz hfs hm hd (fun u h => h) (pe_glob (v := .ref (He.ga K "LimitsError")) (by rfl) Z.k_LimitsError rfl (by decide)) (fun _ _ _ h => h) (by rfl) Z.f_isinstance rfl (Or.inl rfl)))))))))
    (js_one (js_ret jv_bl)))
theorem ok__law_refused (Z : Tx K mg) (hF__law_limits : FnC P w K mg base 5 "_law_limits" (spF0 K mg false 1 f__law_limits) ["_law_numbers_here"] []) {f : Addr} {fd : FuncData} {kws : List (Str × V)} (G : FunD K "_law_refused" "_law_refused" (defArgs st__law_refused) (defBody st__law_refused) (defScope st__law_refused) [] kws f fd) : FnG P w K mg base 6 f fd ["_law_numbers_here"] (spF0 K mg false 1 f__law_refused) :=
  fn0 (P := P) (w := w) (mg := mg) (base := base) (ro := false) (s := b__law_refused) (N := N__law_refused) (ps := ["_law_numbers_here"]) rfl rfl G sc__law_refused fun cdv A outer s0 H E hr hgu => d__law_refused Z hF__law_limits hr hgu
abbrev N_law : List Str := ["_law_script", "_law_k", "_law_pen_here", "_law_great", "_law_numbers_here", "_law_limits_here", "_law_plain", "_law_others", "_law_other", "_law_its", "_law_is_equal", "_law_value", "_law_wrong"]
theorem sc_law : FnScope N_law ["_law_script"] (defScope st_law) := ⟨rfl, rfl, rfl, by decide +kernel, rfl, by decide +kernel, by decide +kernel⟩
theorem d_law (Z : Tx K mg) (hF__law_pen : FnC P w K mg base 1 "_law_pen" (spF0 K mg true 1 f__law_pen) ["_law_cell"] []) (hF__law_cell_at : FnC P w K mg base 1 "_law_cell_at" (spF0 K mg false 2 f__law_cell_at) ["_law_script", "_law_k"] []) (hF__law_draw : FnC P w K mg base 1 "_law_draw" (spF1 K mg false 2 f__law_draw) ["_law_pen_here", "_law_many"] []) (hF__law_numbers : FnC P w K mg base 2 "_law_numbers" (spF1 K mg false 2 f__law_numbers) ["_law_pen_here", "_law_most"] []) (hF__law_limits : FnC P w K mg base 5 "_law_limits" (spF0 K mg false 1 f__law_limits) ["_law_numbers_here"] []) (hM_Limits_3_ : ∃ f fd g, Mk K (He.ga K "Limits") f ∧ FnG P w K mg base 3 f fd ["self", "false_passes", "false_fails", "span", "settled"] (spF1 K mg false 5 f_LimitsU_initU) ∧ KBn K fd ["self", "false_passes", "false_fails", "span", "settled"] 4 [] g gV_Limits_3_) (hF__law_is_seen : FnC P w K mg base 3 "_law_is_seen" (spF0 K mg false 2 f__law_is_seen) ["_law_limits_here", "_law_numbers_here"] []) (hF__law_same : FnC P w K mg base 1 "_law_same" (spF0 K mg false 2 f__law_same) ["_law_found", "_law_due"] []) (hO_LimitsU_eqU : ∃ fa fd, Meth K (He.ga K "Limits") "__eq__" fa ∧ FnG P w K mg base 2 fa fd ["self", "other"] (spF0 K mg false 2 f_LimitsU_eqU) ∧ Binds K fd ["self", "other"] []) (hF__law_odd : FnC P w K mg base 3 "_law_odd" (spF1 K mg false 1 f__law_odd) ["_law_pen_here"] []) (hO_LimitsU_reprU : ∃ fa fd, Meth K (He.ga K "Limits") "__repr__" fa ∧ FnG P w K mg base 1 fa fd ["self"] (spF0 K mg false 1 f_LimitsU_reprU) ∧ Binds K fd ["self"] []) (hF__law_wrongs : FnC P w K mg base 1 "_law_wrongs" (spF0 K mg false 1 f__law_wrongs) ["_law_numbers_here"] []) (hF__law_refused : FnC P w K mg base 6 "_law_refused" (spF0 K mg false 1 f__law_refused) ["_law_numbers_here"] []) {f : Addr} {cdv : Value} {A : Around} {outer : List Env} {s0 : Shared} {H : Hp} {E : XK} (hr : Room 6 (A.deeper (envOfC "law" (defScope st_law) s0.heap.objs.size f cdv))) (hgu : A.guards = some []) : JSs (cxOf (L2.CX P w) P w K mg base N_law "law" (defScope st_law) f cdv A outer s0 H E) [] (WE0 E) (defBody st_law) b_law := by
  have hp : Pl (cxOf (L2.CX P w) P w K mg base N_law "law" (defScope st_law) f cdv A outer s0 H E) 6 := ⟨hr, hgu⟩
  exact (js_cons (js_for (passes_of rfl) rfl (ji_range1 (by rfl) Z.f_range (jl_cons (jv_callB (c_max (by rfl)) (by rfl) Z.f_max bt_max (jl_cons jv_int (jl_cons (jv_callB (c_min (by rfl)) (by rfl) Z.f_min bt_min (jl_cons (jv_callV1 c_len (by rfl) Z.f_len bt_len (jv_name 0 rfl (Or.inl rfl))) (jl_cons jv_int jl_nil)).ja) jl_nil)).ja) jl_nil).ja) (jg_name noP_nil sc_law.nd rfl (Or.inl rfl)) ne_name
    (js_cons (js_setO noP_nil sc_law.nd rfl (Or.inl rfl) (jo_c0 ⟨hF__law_pen⟩ hp (takes_of rfl rfl rfl rfl) nodd (by rfl) (jl_cons (jv_c0 ⟨hF__law_cell_at⟩ hp (takes_of rfl rfl rfl rfl) nodd (by rfl) (jl_cons (jv_name 0 rfl (Or.inl rfl)) (jl_cons (jv_name 1 rfl (Or.inl rfl)) jl_nil))) jl_nil)))
    (js_cons (js_set noP_nil sc_law.nd rfl (Or.inl rfl) (jv_tup (jl_cons (jv_c1 2 ⟨hF__law_draw⟩ hp (takes_of rfl rfl rfl rfl) nodd (by rfl) (by rfl) (Or.inl rfl) (jl_cons jv_int jl_nil)) (jl_cons (jv_c1 2 ⟨hF__law_draw⟩ hp (takes_of rfl rfl rfl rfl) nodd (by rfl) (by rfl) (Or.inl rfl) (jl_cons jv_int jl_nil)) (jl_cons jv_int (jl_cons jv_int jl_nil)))).ja))
    (js_one (js_for (passes_of rfl) rfl (ji_v (ofO (jo_lst (jl_cons (jv_c1 2 ⟨hF__law_numbers⟩ hp (takes_of rfl rfl rfl rfl) nodd (by rfl) (by rfl) (Or.inl rfl) (jl_cons jv_int jl_nil)) (jl_cons (jv_tup (jl_cons jv_int (jl_cons jv_int (jl_cons jv_int (jl_cons jv_int jl_nil)))).ja) (jl_cons (jv_tup (jl_cons jv_int (jl_cons jv_int (jl_cons jv_int (jl_cons jv_int jl_nil)))).ja) (jl_cons (jv_name 3 rfl (Or.inl rfl)) jl_nil)))).ja))) (jg_name noP_nil sc_law.nd rfl (Or.inl rfl)) ne_name
    (js_cons (js_set noP_nil sc_law.nd rfl (Or.inl rfl) (jv_c0 ⟨hF__law_limits⟩ hp (takes_of rfl rfl rfl rfl) nodd (by rfl) (jl_cons (jv_name 4 rfl (Or.inl rfl)) jl_nil)))
    (js_cons (js_set noP_nil sc_law.nd rfl (Or.inl rfl) (ofO (jo_make (C := He.ga K "Limits") ⟨⟨Z.k_Limits, Z.cl_Limits⟩, hM_Limits_3_⟩ (hp.room.mono (by decide)) hp.gu (takes_of rfl rfl rfl rfl) (by rfl) (jl_cons (jv_ix (jv_name 4 rfl (Or.inl rfl)) jv_int) (jl_cons (jv_ix (jv_name 4 rfl (Or.inl rfl)) jv_int) (jl_cons (jv_ix (jv_name 4 rfl (Or.inl rfl)) jv_int) jl_nil))) jk_nil rel_Limits_3_)))
    (js_cons (js_if (ofW (jw_or (jt_not (jt_val (jv_c0 ⟨hF__law_is_seen⟩ hp (takes_of rfl rfl rfl rfl) nodd (by rfl) (jl_cons (jv_name 5 rfl (Or.inl rfl)) (jl_cons (jv_name 4 rfl (Or.inl rfl)) jl_nil))))) (jw_or1 (jt_not (jt_val (jv_c0 ⟨hF__law_is_seen⟩ hp (takes_of rfl rfl rfl rfl) nodd (by rfl) (jl_cons (jv_name 6 rfl (Or.inl rfl)) (jl_cons (jv_bin o_add (jv_slice (jv_name 4 rfl (Or.inl rfl)) jp_none (jp_some jv_int)) (jv_tup (jl_cons jv_int jl_nil).ja)) jl_nil)))))))) (js_one (js_ret jv_bl)) js_nil)
    (js_cons (js_set noP_nil sc_law.nd rfl (Or.inl rfl) (ofO (jo_lst (jl_cons (jv_name 4 rfl (Or.inl rfl)) (jl_cons (jv_c1 2 ⟨hF__law_numbers⟩ hp (takes_of rfl rfl rfl rfl) nodd (by rfl) (by rfl) (Or.inl rfl) (jl_cons jv_int jl_nil)) (jl_cons (jv_bin o_add (jv_slice (jv_name 4 rfl (Or.inl rfl)) jp_none (jp_some jv_int)) (jv_tup (jl_cons jv_int jl_nil).ja)) jl_nil))).ja)))
    (js_cons (js_for (passes_of rfl) rfl (ji_v (jv_bin o_add (jv_name 7 rfl (Or.inl rfl)) (ofO (jo_lst (jl_cons (jv_bin o_add (jv_tup (jl_cons (jv_ix (jv_name 4 rfl (Or.inl rfl)) jv_int) (jl_cons (jv_ix (jv_name 4 rfl (Or.inl rfl)) jv_int) jl_nil)).ja) (jv_slice (jv_name 4 rfl (Or.inl rfl)) (jp_some jv_int) jp_none)) jl_nil).ja)))) (jg_name noP_nil sc_law.nd rfl (Or.inl rfl)) ne_name
    (js_cons (js_par noP_nil noP_nil rfl sc_law.nd rfl rfl (by decide) rfl rfl (jl_cons (jv_c0 ⟨hF__law_limits⟩ hp (takes_of rfl rfl rfl rfl) nodd (by rfl) (jl_cons (jv_name 8 rfl (Or.inl rfl)) jl_nil)) (jl_cons (jv_cmp (o_eq hp.u64) (jv_name 4 rfl (Or.inl rfl)) (jv_name 8 rfl (Or.inl rfl))) jl_nil)).ja)
    (js_one (js_if (jt_not (jt_val (jv_c0 ⟨hF__law_same⟩ hp (takes_of rfl rfl rfl rfl) nodd (by rfl) (jl_cons (ofO (jo_lst (jl_cons (jv_cmpO (fun _ _ => rfl) (OwnK.m ⟨⟨Z.k_Limits, Z.cl_Limits⟩, hO_LimitsU_eqU⟩) Z.nf_Limits hp (o_eq hp.u64) (jv_name 5 rfl (Or.inl rfl)) (jv_name 9 rfl (Or.inl rfl))) (jl_cons (jv_neO (OwnK.m ⟨⟨Z.k_Limits, Z.cl_Limits⟩, hO_LimitsU_eqU⟩) (neK_of Z.ne_Limits) Z.nf_Limits hp (o_ne hp.u64) (jv_name 5 rfl (Or.inl rfl)) (jv_name 9 rfl (Or.inl rfl))) jl_nil)).ja)) (jl_cons (ofO (jo_lst (jl_cons (jv_name 10 rfl (Or.inl rfl)) (jl_cons (jv_not (jv_name 10 rfl (Or.inl rfl))) jl_nil)).ja)) jl_nil))))) (js_one (js_ret jv_bl)) js_nil))))
    (js_cons (js_for (passes_of rfl) rfl (ji_v (ofO (jo_lst (jl_cons (jv_c1 2 ⟨hF__law_odd⟩ hp (takes_of rfl rfl rfl rfl) nodd (by rfl) (by rfl) (Or.inl rfl) jl_nil) (jl_cons (jv_name 4 rfl (Or.inl rfl)) (jl_cons jv_non (jl_cons (jv_reprO (OwnK.m ⟨⟨Z.k_Limits, Z.cl_Limits⟩, hO_LimitsU_reprU⟩) hp (c_repr hp.gu hp.u100) (by rfl) Z.f_repr bt_repr (jv_name 5 rfl (Or.inl rfl))) jl_nil)))).ja))) (jg_name noP_nil sc_law.nd rfl (Or.inl rfl)) ne_name
    (js_one (js_if (jt_not (jt_val (jv_c0 ⟨hF__law_same⟩ hp (takes_of rfl rfl rfl rfl) nodd (by rfl) (jl_cons (ofO (jo_lst (jl_cons (jv_cmpO (fun _ _ => rfl) (OwnK.m ⟨⟨Z.k_Limits, Z.cl_Limits⟩, hO_LimitsU_eqU⟩) Z.nf_Limits hp (o_eq hp.u64) (jv_name 5 rfl (Or.inl rfl)) (jv_name 11 rfl (Or.inl rfl))) (jl_cons (jv_neO (OwnK.m ⟨⟨Z.k_Limits, Z.cl_Limits⟩, hO_LimitsU_eqU⟩) (neK_of Z.ne_Limits) Z.nf_Limits hp (o_ne hp.u64) (jv_name 5 rfl (Or.inl rfl)) (jv_name 11 rfl (Or.inl rfl))) jl_nil)).ja)) (jl_cons (ofO (jo_lst (jl_cons jv_bl (jl_cons jv_bl jl_nil)).ja)) jl_nil))))) (js_one (js_ret jv_bl)) js_nil)))
    (js_one (js_if (jt_cmp (o_ne hp.u64) (ofO (jo_lc [("_law_wrong", 12)] hp rfl sc_law.nd noPs_nil (blkOk_by (by rfl)) (ji_v (jv_c0 ⟨hF__law_wrongs⟩ hp (takes_of rfl rfl rfl rfl) nodd (by rfl) (jl_cons (jv_name 4 rfl (Or.inl rfl)) jl_nil))) (fun s1 H1 C1 cl1 fp1 hp => (jh_name noP_nil sc_law.nd rfl (Or.inl rfl) (by decide))) (fun s1 H1 C1 cl1 fp1 hp => (jts_one (jt_not (jt_val (jv_c0 ⟨hF__law_refused⟩ hp Sr.takes0 nodd (by rfl) (jl_cons (jv_name 12 rfl (Or.inl rfl)) jl_nil)))))) (fun s1 H1 C1 cl1 fp1 hp => jv_int))) (ofO (jo_lst jl_nil.ja))) (js_one (js_ret jv_bl)) js_nil)))))))))))))
    (js_one (js_ret jv_bl)))
theorem ok_law (Z : Tx K mg) (hF__law_pen : FnC P w K mg base 1 "_law_pen" (spF0 K mg true 1 f__law_pen) ["_law_cell"] []) (hF__law_cell_at : FnC P w K mg base 1 "_law_cell_at" (spF0 K mg false 2 f__law_cell_at) ["_law_script", "_law_k"] []) (hF__law_draw : FnC P w K mg base 1 "_law_draw" (spF1 K mg false 2 f__law_draw) ["_law_pen_here", "_law_many"] []) (hF__law_numbers : FnC P w K mg base 2 "_law_numbers" (spF1 K mg false 2 f__law_numbers) ["_law_pen_here", "_law_most"] []) (hF__law_limits : FnC P w K mg base 5 "_law_limits" (spF0 K mg false 1 f__law_limits) ["_law_numbers_here"] []) (hM_Limits_3_ : ∃ f fd g, Mk K (He.ga K "Limits") f ∧ FnG P w K mg base 3 f fd ["self", "false_passes", "false_fails", "span", "settled"] (spF1 K mg false 5 f_LimitsU_initU) ∧ KBn K fd ["self", "false_passes", "false_fails", "span", "settled"] 4 [] g gV_Limits_3_) (hF__law_is_seen : FnC P w K mg base 3 "_law_is_seen" (spF0 K mg false 2 f__law_is_seen) ["_law_limits_here", "_law_numbers_here"] []) (hF__law_same : FnC P w K mg base 1 "_law_same" (spF0 K mg false 2 f__law_same) ["_law_found", "_law_due"] []) (hO_LimitsU_eqU : ∃ fa fd, Meth K (He.ga K "Limits") "__eq__" fa ∧ FnG P w K mg base 2 fa fd ["self", "other"] (spF0 K mg false 2 f_LimitsU_eqU) ∧ Binds K fd ["self", "other"] []) (hF__law_odd : FnC P w K mg base 3 "_law_odd" (spF1 K mg false 1 f__law_odd) ["_law_pen_here"] []) (hO_LimitsU_reprU : ∃ fa fd, Meth K (He.ga K "Limits") "__repr__" fa ∧ FnG P w K mg base 1 fa fd ["self"] (spF0 K mg false 1 f_LimitsU_reprU) ∧ Binds K fd ["self"] []) (hF__law_wrongs : FnC P w K mg base 1 "_law_wrongs" (spF0 K mg false 1 f__law_wrongs) ["_law_numbers_here"] []) (hF__law_refused : FnC P w K mg base 6 "_law_refused" (spF0 K mg false 1 f__law_refused) ["_law_numbers_here"] []) {f : Addr} {fd : FuncData} {kws : List (Str × V)} (G : FunD K "law" "law" (defArgs st_law) (defBody st_law) (defScope st_law) [] kws f fd) : FnG P w K mg base 7 f fd ["_law_script"] (spF0 K mg false 1 f_law) :=
  fn0 (P := P) (w := w) (mg := mg) (base := base) (ro := false) (s := b_law) (N := N_law) (ps := ["_law_script"]) rfl rfl G sc_law fun cdv A outer s0 H E hr hgu => d_law Z hF__law_pen hF__law_cell_at hF__law_draw hF__law_numbers hF__law_limits hM_Limits_3_ hF__law_is_seen hF__law_same hO_LimitsU_eqU hF__law_odd hO_LimitsU_reprU hF__law_wrongs hF__law_refused hr hgu
end
end Lw
namespace Lw
open PySem hiding start
open PySem.Spec L2 Sr
open PyProof.Rows hiding St
def fa : List He.Fa := [.free "max", .free "int", .free "len", .free "min", .free "isinstance", .free "bool", .int "MOST_FALSE" 5, .int "MOST_SPAN" 5, .int "MOST_SETTLED" 4, .free "repr", .free "str", .free "range", .free "ValueError", .glo "Limits", .cls "Limits", .glo "NumberError", .glo "LimitsError", .noat "Limits" "most_passes", .noat "Limits" "most_fails", .noat "Limits" "most_checks", .noat "Limits" "least_stay", .exc "NumberError", .meth "Limits" "__repr__", .meth "Limits" "numbers", .meth "Limits" "__eq__", .mkr "Limits", .glo "_law_pen", .glo "_law_cell_at", .glo "_law_draw", .glo "_law_numbers", .glo "is_integer", .glo "is_between", .glo "_law_limits", .glo "_law_same", .glo "_law_is_seen", .glo "_law_pick", .glo "_law_odd", .glo "_law_wrongs", .glo "_law_refused", .glo "law"]
def dz__law_pen : DefZ := ⟨fun K => He.ga K "_law_pen", "_law_pen", "_law_pen", st__law_pen, []⟩
def dz__law_cell_at : DefZ := ⟨fun K => He.ga K "_law_cell_at", "_law_cell_at", "_law_cell_at", st__law_cell_at, []⟩
def dz__law_draw : DefZ := ⟨fun K => He.ga K "_law_draw", "_law_draw", "_law_draw", st__law_draw, []⟩
def dz__law_numbers : DefZ := ⟨fun K => He.ga K "_law_numbers", "_law_numbers", "_law_numbers", st__law_numbers, []⟩
def dz_is_integer : DefZ := ⟨fun K => He.ga K "is_integer", "is_integer", "is_integer", st_is_integer, []⟩
def dz_is_between : DefZ := ⟨fun K => He.ga K "is_between", "is_between", "is_between", st_is_between, []⟩
def dz_LimitsU_initU : DefZ := ⟨fun K => He.ma K (He.ga K "Limits") "__init__", "__init__", "Limits.__init__", st_LimitsU_initU, [("settled", .int 1)]⟩
def dz__law_limits : DefZ := ⟨fun K => He.ga K "_law_limits", "_law_limits", "_law_limits", st__law_limits, []⟩
def dz__law_same : DefZ := ⟨fun K => He.ga K "_law_same", "_law_same", "_law_same", st__law_same, []⟩
def dz_LimitsU_reprU : DefZ := ⟨fun K => He.ma K (He.ga K "Limits") "__repr__", "__repr__", "Limits.__repr__", st_LimitsU_reprU, []⟩
def dz__law_is_seen : DefZ := ⟨fun K => He.ga K "_law_is_seen", "_law_is_seen", "_law_is_seen", st__law_is_seen, []⟩
def dz_Limits_numbers : DefZ := ⟨fun K => He.ma K (He.ga K "Limits") "numbers", "numbers", "Limits.numbers", st_Limits_numbers, []⟩
def dz_LimitsU_eqU : DefZ := ⟨fun K => He.ma K (He.ga K "Limits") "__eq__", "__eq__", "Limits.__eq__", st_LimitsU_eqU, []⟩
def dz__law_pick : DefZ := ⟨fun K => He.ga K "_law_pick", "_law_pick", "_law_pick", st__law_pick, []⟩
def dz__law_odd : DefZ := ⟨fun K => He.ga K "_law_odd", "_law_odd", "_law_odd", st__law_odd, []⟩
def dz__law_wrongs : DefZ := ⟨fun K => He.ga K "_law_wrongs", "_law_wrongs", "_law_wrongs", st__law_wrongs, []⟩
def dz__law_refused : DefZ := ⟨fun K => He.ga K "_law_refused", "_law_refused", "_law_refused", st__law_refused, []⟩
def dz_law : DefZ := ⟨fun K => He.ga K "law", "law", "law", st_law, []⟩
def dz_Limits_false_passes : DefZ := ⟨fun K => (prG K "Limits" "false_passes").2, "false_passes", "Limits.false_passes", st_Limits_false_passes, []⟩
def dz_Limits_false_fails : DefZ := ⟨fun K => (prG K "Limits" "false_fails").2, "false_fails", "Limits.false_fails", st_Limits_false_fails, []⟩
def dz_Limits_span : DefZ := ⟨fun K => (prG K "Limits" "span").2, "span", "Limits.span", st_Limits_span, []⟩
def dz_Limits_settled : DefZ := ⟨fun K => (prG K "Limits" "settled").2, "settled", "Limits.settled", st_Limits_settled, []⟩
def fn : List DefZ := [dz__law_pen, dz__law_cell_at, dz__law_draw, dz__law_numbers, dz_is_integer, dz_is_between, dz_LimitsU_initU, dz__law_limits, dz__law_same, dz_LimitsU_reprU, dz__law_is_seen, dz_Limits_numbers, dz_LimitsU_eqU, dz__law_pick, dz__law_odd, dz__law_wrongs, dz__law_refused, dz_law, dz_Limits_false_passes, dz_Limits_false_fails, dz_Limits_span, dz_Limits_settled]
def ex (K : PySem.W.Frag) : Bool := cliB K "Limits" && (ownB K (.type "int") isl_int && (ownB K (.type "bool") isl_bool && (noKd K "Limits" && (ownB K (.ref (He.ga K "Limits")) isl_Limits && (catB K (.ref (He.ga K "NumberError")) ctl_NumberError && (exsB K (.type "ValueError") isE_ValueError && (exsB K (.ref (He.ga K "LimitsError")) isE_LimitsError && (notFB K "Limits" nfl_Limits && (neB K "Limits" && (propB K "Limits" "false_passes" && (propB K "Limits" "false_fails" && (propB K "Limits" "span" && (propB K "Limits" "settled")))))))))))))
section
variable {P : Program} {w : World} {K : PySem.W.Frag} {h : Heap} {mg : Str → Option Value}
theorem tx_mk (X : K.In h) (G : h.Ns mainGlobals mg) (c : SaysZ fa fn ex K) : Tx K mg := by
  have hx : (cliB K "Limits" && (ownB K (.type "int") isl_int && (ownB K (.type "bool") isl_bool && (noKd K "Limits" && (ownB K (.ref (He.ga K "Limits")) isl_Limits && (catB K (.ref (He.ga K "NumberError")) ctl_NumberError && (exsB K (.type "ValueError") isE_ValueError && (exsB K (.ref (He.ga K "LimitsError")) isE_LimitsError && (notFB K "Limits" nfl_Limits && (neB K "Limits" && (propB K "Limits" "false_passes" && (propB K "Limits" "false_fails" && (propB K "Limits" "span" && (propB K "Limits" "settled")))))))))))))) = true := c.all.2.2
  simp only [Bool.and_eq_true] at hx
  obtain ⟨hx0, hx1, hx2, hx3, hx4, hx5, hx6, hx7, hx8, hx9, hx10, hx11, hx12, hx13⟩ := hx
  have hI_int : ∀ q ∈ isl_int, ClI K mg q.1 (He.ga K q.1) := by
    intro q hq
    simp only [isl_int, List.mem_cons, List.not_mem_nil, or_false] at hq
    subst hq
    exact cliB_ok ⟨He.glo_ok X G (c.fact 13), He.cls_ok (c.fact 14)⟩ hx0
  have hI_bool : ∀ q ∈ isl_bool, ClI K mg q.1 (He.ga K q.1) := by
    intro q hq
    simp only [isl_bool, List.mem_cons, List.not_mem_nil, or_false] at hq
    subst hq
    exact cliB_ok ⟨He.glo_ok X G (c.fact 13), He.cls_ok (c.fact 14)⟩ hx0
  have hI_Limits : ∀ q ∈ isl_Limits, ClI K mg q.1 (He.ga K q.1) := by
    intro q hq
    simp only [isl_Limits, List.mem_cons, List.not_mem_nil, or_false] at hq
    subst hq
    exact cliB_ok ⟨He.glo_ok X G (c.fact 13), He.cls_ok (c.fact 14)⟩ hx0
  exact ⟨He.free_ok X G (c.fact 0), He.free_ok X G (c.fact 1), He.free_ok X G (c.fact 2), He.free_ok X G (c.fact 3), He.free_ok X G (c.fact 4), He.free_ok X G (c.fact 5), He.int_ok X G (c.fact 6), He.int_ok X G (c.fact 7), He.int_ok X G (c.fact 8), He.free_ok X G (c.fact 9), He.free_ok X G (c.fact 10), He.free_ok X G (c.fact 11), He.free_ok X G (c.fact 12), He.glo_ok X G (c.fact 13), He.cls_ok (c.fact 14), He.glo_ok X G (c.fact 15), He.glo_ok X G (c.fact 16), He.noat_ok (c.fact 17), He.noat_ok (c.fact 18), He.noat_ok (c.fact 19), He.noat_ok (c.fact 20), isi_of tInt_ok (ownB_ok hx1 hI_int), isi_of tBool_ok (ownB_ok hx2 hI_bool), isi_of (noKd_ok hx3) (ownB_ok hx4 hI_Limits), rai_of (He.glo_ok X G (c.fact 15)) (c.fact 21), cat_of hx5 (by intro q hq; simp only [ctl_NumberError, List.mem_cons, List.not_mem_nil, or_false] at hq; rcases hq with rfl <;> first | exact He.glo_ok X G (c.fact 15)), isE_of hx6 (by intro q hq; simp only [isE_ValueError, List.mem_cons, List.not_mem_nil, or_false] at hq; rcases hq with rfl <;> first | exact He.glo_ok X G (c.fact 15)), isE_of hx7 (by intro q hq; simp only [isE_LimitsError, List.mem_cons, List.not_mem_nil, or_false] at hq; rcases hq with rfl <;> first | exact He.glo_ok X G (c.fact 15)), notF_of hx8 (by intro q hq; simp only [nfl_Limits, List.mem_cons, List.not_mem_nil, or_false] at hq; subst hq <;> first | exact cliB_ok ⟨He.glo_ok X G (c.fact 13), He.cls_ok (c.fact 14)⟩ hx0), hx9⟩
theorem all_mk {fl : Addr} (X : K.In h) (G : h.Ns mainGlobals mg) (hl : mg "law" = some (.ref fl)) (c : SaysZ fa fn ex K) : ∃ fd : FuncData, (∀ (s : Shared) (v : Value), BindsTo s fd ⟨[v], []⟩ [("_law_script", v)]) ∧ ∀ base : Heap, FnG P w K mg base 7 fl fd ["_law_script"] (spF0 K mg false 1 f_law) := by
  have Z : Tx K mg := tx_mk X G c
  have hx : (cliB K "Limits" && (ownB K (.type "int") isl_int && (ownB K (.type "bool") isl_bool && (noKd K "Limits" && (ownB K (.ref (He.ga K "Limits")) isl_Limits && (catB K (.ref (He.ga K "NumberError")) ctl_NumberError && (exsB K (.type "ValueError") isE_ValueError && (exsB K (.ref (He.ga K "LimitsError")) isE_LimitsError && (notFB K "Limits" nfl_Limits && (neB K "Limits" && (propB K "Limits" "false_passes" && (propB K "Limits" "false_fails" && (propB K "Limits" "span" && (propB K "Limits" "settled")))))))))))))) = true := c.all.2.2
  simp only [Bool.and_eq_true] at hx
  obtain ⟨hx0, hx1, hx2, hx3, hx4, hx5, hx6, hx7, hx8, hx9, hx10, hx11, hx12, hx13⟩ := hx
  obtain ⟨fd__law_pen, G__law_pen⟩ := c.def_ 0 (d := dz__law_pen)
  obtain ⟨fd__law_cell_at, G__law_cell_at⟩ := c.def_ 1 (d := dz__law_cell_at)
  obtain ⟨fd__law_draw, G__law_draw⟩ := c.def_ 2 (d := dz__law_draw)
  obtain ⟨fd__law_numbers, G__law_numbers⟩ := c.def_ 3 (d := dz__law_numbers)
  obtain ⟨fd_is_integer, G_is_integer⟩ := c.def_ 4 (d := dz_is_integer)
  obtain ⟨fd_is_between, G_is_between⟩ := c.def_ 5 (d := dz_is_between)
  obtain ⟨fd_LimitsU_initU, G_LimitsU_initU⟩ := c.def_ 6 (d := dz_LimitsU_initU)
  obtain ⟨fd__law_limits, G__law_limits⟩ := c.def_ 7 (d := dz__law_limits)
  obtain ⟨fd__law_same, G__law_same⟩ := c.def_ 8 (d := dz__law_same)
  obtain ⟨fd_LimitsU_reprU, G_LimitsU_reprU⟩ := c.def_ 9 (d := dz_LimitsU_reprU)
  obtain ⟨fd__law_is_seen, G__law_is_seen⟩ := c.def_ 10 (d := dz__law_is_seen)
  obtain ⟨fd_Limits_numbers, G_Limits_numbers⟩ := c.def_ 11 (d := dz_Limits_numbers)
  obtain ⟨fd_LimitsU_eqU, G_LimitsU_eqU⟩ := c.def_ 12 (d := dz_LimitsU_eqU)
  obtain ⟨fd__law_pick, G__law_pick⟩ := c.def_ 13 (d := dz__law_pick)
  obtain ⟨fd__law_odd, G__law_odd⟩ := c.def_ 14 (d := dz__law_odd)
  obtain ⟨fd__law_wrongs, G__law_wrongs⟩ := c.def_ 15 (d := dz__law_wrongs)
  obtain ⟨fd__law_refused, G__law_refused⟩ := c.def_ 16 (d := dz__law_refused)
  obtain ⟨fd_law, G_law⟩ := c.def_ 17 (d := dz_law)
  obtain ⟨fd_Limits_false_passes, G_Limits_false_passes⟩ := c.def_ 18 (d := dz_Limits_false_passes)
  obtain ⟨fd_Limits_false_fails, G_Limits_false_fails⟩ := c.def_ 19 (d := dz_Limits_false_fails)
  obtain ⟨fd_Limits_span, G_Limits_span⟩ := c.def_ 20 (d := dz_Limits_span)
  obtain ⟨fd_Limits_settled, G_Limits_settled⟩ := c.def_ 21 (d := dz_Limits_settled)
  have e := hl.symm.trans (He.glo_ok X G (c.fact 39))
  cases e
  refine ⟨fd_law, fun s v => FunD.bindsA (ps := ["_law_script"]) G_law (fun _ _ _ _ _ _ us hl => match us, hl with | [_], _ => rfl) s [v] rfl, fun base => ?_⟩
  have hP_false_passes : ∃ pp ga fd, PropOf K (He.ga K "Limits") "false_passes" pp ga ∧ FnOk P w K mg base CX0 1 ga fd ["self"] (getSp (He.ga K "Limits") "most_passes") ∧ Binds K fd ["self"] [] := ⟨_, _, fd_Limits_false_passes, propB_ok hx10, fn_get G_Limits_false_passes Z.cl_Limits Z.n_Limits_most_passes ⟨rfl, rfl, rfl, by decide +kernel, rfl, by decide +kernel, by decide +kernel⟩ rfl, G_Limits_false_passes.bindsN fun _ _ _ _ _ _ us hl => match us, hl with | [_], _ => rfl⟩
  have hP_false_fails : ∃ pp ga fd, PropOf K (He.ga K "Limits") "false_fails" pp ga ∧ FnOk P w K mg base CX0 1 ga fd ["self"] (getSp (He.ga K "Limits") "most_fails") ∧ Binds K fd ["self"] [] := ⟨_, _, fd_Limits_false_fails, propB_ok hx11, fn_get G_Limits_false_fails Z.cl_Limits Z.n_Limits_most_fails ⟨rfl, rfl, rfl, by decide +kernel, rfl, by decide +kernel, by decide +kernel⟩ rfl, G_Limits_false_fails.bindsN fun _ _ _ _ _ _ us hl => match us, hl with | [_], _ => rfl⟩
  have hP_span : ∃ pp ga fd, PropOf K (He.ga K "Limits") "span" pp ga ∧ FnOk P w K mg base CX0 1 ga fd ["self"] (getSp (He.ga K "Limits") "most_checks") ∧ Binds K fd ["self"] [] := ⟨_, _, fd_Limits_span, propB_ok hx12, fn_get G_Limits_span Z.cl_Limits Z.n_Limits_most_checks ⟨rfl, rfl, rfl, by decide +kernel, rfl, by decide +kernel, by decide +kernel⟩ rfl, G_Limits_span.bindsN fun _ _ _ _ _ _ us hl => match us, hl with | [_], _ => rfl⟩
  have hP_settled : ∃ pp ga fd, PropOf K (He.ga K "Limits") "settled" pp ga ∧ FnOk P w K mg base CX0 1 ga fd ["self"] (getSp (He.ga K "Limits") "least_stay") ∧ Binds K fd ["self"] [] := ⟨_, _, fd_Limits_settled, propB_ok hx13, fn_get G_Limits_settled Z.cl_Limits Z.n_Limits_least_stay ⟨rfl, rfl, rfl, by decide +kernel, rfl, by decide +kernel, by decide +kernel⟩ rfl, G_Limits_settled.bindsN fun _ _ _ _ _ _ us hl => match us, hl with | [_], _ => rfl⟩
  have hG__law_pen : FnG P w K mg base 1 _ fd__law_pen ["_law_cell"] (spF0 K mg true 1 f__law_pen) := ok__law_pen Z  G__law_pen
  have hF__law_pen : FnC P w K mg base 1 "_law_pen" (spF0 K mg true 1 f__law_pen) ["_law_cell"] [] := ⟨_, _, [], hG__law_pen, He.glo_ok X G (c.fact 26), G__law_pen.kp, G__law_pen.bindsN fun _ _ _ _ _ _ us hl => (match us, hl with | [_], _ => rfl), .nil⟩
  have hG__law_cell_at : FnG P w K mg base 1 _ fd__law_cell_at ["_law_script", "_law_k"] (spF0 K mg false 2 f__law_cell_at) := ok__law_cell_at Z  G__law_cell_at
  have hF__law_cell_at : FnC P w K mg base 1 "_law_cell_at" (spF0 K mg false 2 f__law_cell_at) ["_law_script", "_law_k"] [] := ⟨_, _, [], hG__law_cell_at, He.glo_ok X G (c.fact 27), G__law_cell_at.kp, G__law_cell_at.bindsN fun _ _ _ _ _ _ us hl => (match us, hl with | [_, _], _ => rfl), .nil⟩
  have hG__law_draw : FnG P w K mg base 1 _ fd__law_draw ["_law_pen_here", "_law_many"] (spF1 K mg false 2 f__law_draw) := ok__law_draw Z  G__law_draw
  have hF__law_draw : FnC P w K mg base 1 "_law_draw" (spF1 K mg false 2 f__law_draw) ["_law_pen_here", "_law_many"] [] := ⟨_, _, [], hG__law_draw, He.glo_ok X G (c.fact 28), G__law_draw.kp, G__law_draw.bindsN fun _ _ _ _ _ _ us hl => (match us, hl with | [_, _], _ => rfl), .nil⟩
  have hG__law_numbers : FnG P w K mg base 2 _ fd__law_numbers ["_law_pen_here", "_law_most"] (spF1 K mg false 2 f__law_numbers) := ok__law_numbers Z hF__law_draw G__law_numbers
  have hF__law_numbers : FnC P w K mg base 2 "_law_numbers" (spF1 K mg false 2 f__law_numbers) ["_law_pen_here", "_law_most"] [] := ⟨_, _, [], hG__law_numbers, He.glo_ok X G (c.fact 29), G__law_numbers.kp, G__law_numbers.bindsN fun _ _ _ _ _ _ us hl => (match us, hl with | [_, _], _ => rfl), .nil⟩
  have hG_is_integer : FnG P w K mg base 1 _ fd_is_integer ["value"] (spF0 K mg false 1 f_is_integer) := ok_is_integer Z  G_is_integer
  have hF_is_integer : FnC P w K mg base 1 "is_integer" (spF0 K mg false 1 f_is_integer) ["value"] [] := ⟨_, _, [], hG_is_integer, He.glo_ok X G (c.fact 30), G_is_integer.kp, G_is_integer.bindsN fun _ _ _ _ _ _ us hl => (match us, hl with | [_], _ => rfl), .nil⟩
  have hG_is_between : FnG P w K mg base 2 _ fd_is_between ["value", "low", "high"] (spF0 K mg false 3 f_is_between) := ok_is_between Z hF_is_integer G_is_between
  have hF_is_between : FnC P w K mg base 2 "is_between" (spF0 K mg false 3 f_is_between) ["value", "low", "high"] [] := ⟨_, _, [], hG_is_between, He.glo_ok X G (c.fact 31), G_is_between.kp, G_is_between.bindsN fun _ _ _ _ _ _ us hl => (match us, hl with | [_, _, _], _ => rfl), .nil⟩
  have hG_LimitsU_initU : FnG P w K mg base 3 _ fd_LimitsU_initU ["self", "false_passes", "false_fails", "span", "settled"] (spF1 K mg false 5 f_LimitsU_initU) := ok_LimitsU_initU Z hF_is_between G_LimitsU_initU
  obtain ⟨mv_Limits_3_settled, kb_Limits_3_settled⟩ := G_LimitsU_initU.kbinds0 (ps := ["self", "false_passes", "false_fails", "span", "settled"]) 4 ["settled"] [] (fun us mv ws => us ++ ws) (by decide) (fun q hq => by cases hq) (fun r1 r2 r3 => r1.append r3) (fun D doc pm an cdv ct us mv ws l1 l2 l3 => match us, mv, ws, l1, l2, l3 with | [_, _, _, _], [], [_], _, _, _ => rfl)
  have hM_Limits_3_settled : ∃ f fd g, Mk K (He.ga K "Limits") f ∧ FnG P w K mg base 3 f fd ["self", "false_passes", "false_fails", "span", "settled"] (spF1 K mg false 5 f_LimitsU_initU) ∧ KBn K fd ["self", "false_passes", "false_fails", "span", "settled"] 4 ["settled"] g gV_Limits_3_settled := ⟨_, _, _, He.mkr_ok (c.fact 25), hG_LimitsU_initU, kb_Limits_3_settled⟩
  obtain ⟨mv_Limits_3_, kb_Limits_3_⟩ := G_LimitsU_initU.kbinds0 (ps := ["self", "false_passes", "false_fails", "span", "settled"]) 4 [] [("settled", .int 1)] (fun us mv ws => us ++ mv) (by decide) (fun q hq => by exact hq) (fun r1 r2 r3 => r1.append r2) (fun D doc pm an cdv ct us mv ws l1 l2 l3 => match us, mv, ws, l1, l2, l3 with | [_, _, _, _], [_], [], _, _, _ => ⟨_, _, _, _, _, _, rfl, rfl, rfl⟩)
  have hM_Limits_3_ : ∃ f fd g, Mk K (He.ga K "Limits") f ∧ FnG P w K mg base 3 f fd ["self", "false_passes", "false_fails", "span", "settled"] (spF1 K mg false 5 f_LimitsU_initU) ∧ KBn K fd ["self", "false_passes", "false_fails", "span", "settled"] 4 [] g gV_Limits_3_ := ⟨_, _, _, He.mkr_ok (c.fact 25), hG_LimitsU_initU, kb_Limits_3_⟩
  have hG__law_limits : FnG P w K mg base 5 _ fd__law_limits ["_law_numbers_here"] (spF0 K mg false 1 f__law_limits) := ok__law_limits Z hM_Limits_3_settled G__law_limits
  have hF__law_limits : FnC P w K mg base 5 "_law_limits" (spF0 K mg false 1 f__law_limits) ["_law_numbers_here"] [] := ⟨_, _, [], hG__law_limits, He.glo_ok X G (c.fact 32), G__law_limits.kp, G__law_limits.bindsN fun _ _ _ _ _ _ us hl => (match us, hl with | [_], _ => rfl), .nil⟩
  have hG__law_same : FnG P w K mg base 1 _ fd__law_same ["_law_found", "_law_due"] (spF0 K mg false 2 f__law_same) := ok__law_same Z  G__law_same
  have hF__law_same : FnC P w K mg base 1 "_law_same" (spF0 K mg false 2 f__law_same) ["_law_found", "_law_due"] [] := ⟨_, _, [], hG__law_same, He.glo_ok X G (c.fact 33), G__law_same.kp, G__law_same.bindsN fun _ _ _ _ _ _ us hl => (match us, hl with | [_, _], _ => rfl), .nil⟩
  have hG_LimitsU_reprU : FnG P w K mg base 1 _ fd_LimitsU_reprU ["self"] (spF0 K mg false 1 f_LimitsU_reprU) := ok_LimitsU_reprU Z  G_LimitsU_reprU
  have hO_LimitsU_reprU : ∃ fa fd, Meth K (He.ga K "Limits") "__repr__" fa ∧ FnG P w K mg base 1 fa fd ["self"] (spF0 K mg false 1 f_LimitsU_reprU) ∧ Binds K fd ["self"] [] := ⟨_, _, He.meth_ok (c.fact 22), hG_LimitsU_reprU, G_LimitsU_reprU.bindsN fun _ _ _ _ _ _ us hl => (match us, hl with | [_], _ => rfl)⟩
  have hG__law_is_seen : FnG P w K mg base 3 _ fd__law_is_seen ["_law_limits_here", "_law_numbers_here"] (spF0 K mg false 2 f__law_is_seen) := ok__law_is_seen Z hP_false_passes hP_false_fails hP_span hP_settled hF__law_same hO_LimitsU_reprU G__law_is_seen
  have hF__law_is_seen : FnC P w K mg base 3 "_law_is_seen" (spF0 K mg false 2 f__law_is_seen) ["_law_limits_here", "_law_numbers_here"] [] := ⟨_, _, [], hG__law_is_seen, He.glo_ok X G (c.fact 34), G__law_is_seen.kp, G__law_is_seen.bindsN fun _ _ _ _ _ _ us hl => (match us, hl with | [_, _], _ => rfl), .nil⟩
  have hG_Limits_numbers : FnG P w K mg base 1 _ fd_Limits_numbers ["self"] (spF0 K mg false 1 f_Limits_numbers) := ok_Limits_numbers Z  G_Limits_numbers
  have hO_Limits_numbers : ∃ fa fd, Meth K (He.ga K "Limits") "numbers" fa ∧ FnG P w K mg base 1 fa fd ["self"] (spF0 K mg false 1 f_Limits_numbers) ∧ Binds K fd ["self"] [] := ⟨_, _, He.meth_ok (c.fact 23), hG_Limits_numbers, G_Limits_numbers.bindsN fun _ _ _ _ _ _ us hl => (match us, hl with | [_], _ => rfl)⟩
  have hG_LimitsU_eqU : FnG P w K mg base 2 _ fd_LimitsU_eqU ["self", "other"] (spF0 K mg false 2 f_LimitsU_eqU) := ok_LimitsU_eqU Z hO_Limits_numbers G_LimitsU_eqU
  have hO_LimitsU_eqU : ∃ fa fd, Meth K (He.ga K "Limits") "__eq__" fa ∧ FnG P w K mg base 2 fa fd ["self", "other"] (spF0 K mg false 2 f_LimitsU_eqU) ∧ Binds K fd ["self", "other"] [] := ⟨_, _, He.meth_ok (c.fact 24), hG_LimitsU_eqU, G_LimitsU_eqU.bindsN fun _ _ _ _ _ _ us hl => (match us, hl with | [_, _], _ => rfl)⟩
  have hG__law_pick : FnG P w K mg base 2 _ fd__law_pick ["_law_pen_here", "_law_values"] (spF1 K mg false 2 f__law_pick) := ok__law_pick Z hF__law_draw G__law_pick
  have hF__law_pick : FnC P w K mg base 2 "_law_pick" (spF1 K mg false 2 f__law_pick) ["_law_pen_here", "_law_values"] [] := ⟨_, _, [], hG__law_pick, He.glo_ok X G (c.fact 35), G__law_pick.kp, G__law_pick.bindsN fun _ _ _ _ _ _ us hl => (match us, hl with | [_, _], _ => rfl), .nil⟩
  have hG__law_odd : FnG P w K mg base 3 _ fd__law_odd ["_law_pen_here"] (spF1 K mg false 1 f__law_odd) := ok__law_odd Z hF__law_pick G__law_odd
  have hF__law_odd : FnC P w K mg base 3 "_law_odd" (spF1 K mg false 1 f__law_odd) ["_law_pen_here"] [] := ⟨_, _, [], hG__law_odd, He.glo_ok X G (c.fact 36), G__law_odd.kp, G__law_odd.bindsN fun _ _ _ _ _ _ us hl => (match us, hl with | [_], _ => rfl), .nil⟩
  have hG__law_wrongs : FnG P w K mg base 1 _ fd__law_wrongs ["_law_numbers_here"] (spF0 K mg false 1 f__law_wrongs) := ok__law_wrongs Z  G__law_wrongs
  have hF__law_wrongs : FnC P w K mg base 1 "_law_wrongs" (spF0 K mg false 1 f__law_wrongs) ["_law_numbers_here"] [] := ⟨_, _, [], hG__law_wrongs, He.glo_ok X G (c.fact 37), G__law_wrongs.kp, G__law_wrongs.bindsN fun _ _ _ _ _ _ us hl => (match us, hl with | [_], _ => rfl), .nil⟩
  have hG__law_refused : FnG P w K mg base 6 _ fd__law_refused ["_law_numbers_here"] (spF0 K mg false 1 f__law_refused) := ok__law_refused Z hF__law_limits G__law_refused
  have hF__law_refused : FnC P w K mg base 6 "_law_refused" (spF0 K mg false 1 f__law_refused) ["_law_numbers_here"] [] := ⟨_, _, [], hG__law_refused, He.glo_ok X G (c.fact 38), G__law_refused.kp, G__law_refused.bindsN fun _ _ _ _ _ _ us hl => (match us, hl with | [_], _ => rfl), .nil⟩
  exact ok_law Z hF__law_pen hF__law_cell_at hF__law_draw hF__law_numbers hF__law_limits hM_Limits_3_ hF__law_is_seen hF__law_same hO_LimitsU_eqU hF__law_odd hO_LimitsU_reprU hF__law_wrongs hF__law_refused G_law
end
end Lw
namespace Lw
open PySem hiding start
open PySem.Spec L2 Sr
open PyProof.Rows hiding St
abbrev R : PySem.W.OpenRow := PySem.W.OpenLaw.row PySem.Challenge.rw_statusrules_k17_limits_made
abbrev hk : PySem.W.Hook := hookZ 6 fa fn ex
def ob (s : PySem.W.SharedT) : AlZ := obsZ 6 fa fn ex (HandSHeadRun.getT s)
theorem ob_eq (s : PySem.W.SharedT) : ob s = hk.obs s.abs := obsZ_eq (HandSHeadRun.getT_eq s)
def lo : List Str := (["_wall", "StatusError", "NumberError", "LimitsError", "is_integer", "is_between", "MOST_FALSE", "MOST_SPAN", "MOST_SETTLED", "Limits", "_law_cell_at", "_law_pen", "_law_draw", "_law_numbers", "_law_limits", "_law_pick", "_law_odd", "_law_same", "_law_refused", "_law_is_seen", "_law_wrongs", "__name__"] : List Str)
theorem run (w : World) : HandSHeadRun.RunEq R (PySem.W.view R.prog [25]) hk ob 4000 lo w := by
  intro os
  kernel_rfl
end Lw
open PySem PySem.W PySem.Calls PyProof.Rows
theorem PySem.Challenge.cw_statusrules_k17_limits_made_holds : PySem.Challenge.rw_statusrules_k17_limits_made.Holds := by
  w_on; o_law
  refine HandSHeadRun.head_any (r := OpenLaw.row PySem.Challenge.rw_statusrules_k17_limits_made) (q := view (OpenLaw.row PySem.Challenge.rw_statusrules_k17_limits_made).prog [25]) (H := Lw.hk) (ob := Lw.ob) (M := 4000) (loose := Lw.lo) (d := HandSHeadRun.topDef (OpenLaw.row PySem.Challenge.rw_statusrules_k17_limits_made).prog 25) (kwd := []) Lw.ob_eq
    (by kernel_rfl) (fun s => by kernel_rfl) Lw.run (by kernel_rfl) (by kernel_rfl) (by kernel_rfl) (by rfl) (by first | assumption | decide +kernel) (by decide +kernel) ⟨rfl, rfl, rfl, rfl, rfl, by decide +kernel⟩ ?hw ?hc
  case hw => w_witness2
  case hc =>
    refine Sr.walk_g (l := PySem.Challenge.rw_statusrules_k17_limits_made) (n := 63) (k := 7) (x := "_law_script") rfl (by decide) (by kernel_rfl) ⟨rfl, by decide, by decide⟩ ?F
    intro w mg fa h Y G hm0
    obtain ⟨K, KX, c⟩ := Y
    have hm : mg ("law" : PySem.Str) = some (.ref fa) := by
      have e : (HandSHeadRun.topDef (OpenLaw.row PySem.Challenge.rw_statusrules_k17_limits_made).prog 25).name = ("law" : PySem.Str) := by kernel_rfl
      rw [← e]
      exact hm0
    obtain ⟨fd, hb, hF⟩ := Lw.all_mk (P := (PySem.Challenge.rw_statusrules_k17_limits_made).prog) (w := w) KX G hm c
    refine ⟨K, fd, _, KX, hb, fun H a ns hl hS => ?_, fun base _ _ => hF base⟩
    exact Sr.law_true (Lw.law_holds ns hl) hS
