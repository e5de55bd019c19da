import PyProof.Rows.All
import Wide.All
import OpenK.AllK
import Wide.FinOn
import HandS.ForMost
import HandS.Walk
import HandS.Exc
import HandS.CallSlots
import HandS.WordsExc
import HandS.TupAny
import HandS.IsInst
import HandS.Deep
import HandS.TupLe
import HandS.Style
import HandS.Defaults
import HandS.MakeKwOnly
import HandS.Property
import HandS.HeadEnd
import HandS.Ends
import Lean
import HandS.Head0
import HandS.Head1
import HandS.Head2
import HandS.HeadHook1
import HandS.HeadHook2
import HandS.Comp
import HandS.ExcOwn
import HandS.ExcIs
import HandS.TryOnly
import HandS.Text
import HandS.List
import HandS.StrMore
import HandS.RaiseMore
import HandS.FStr
import HandS.Dict
import HandS.Zip
import HandS.TupMul
import HandS.RevRange
import HandS.TupLen
import HandS.ClsMeth
import KE.KCallOwn
import KE.KOpsOwn
import KE.GoesEnum
import PyProof.ListStr
import PyProof.ListMulRight
import PyProof.Rows.ListMulR
import PyProof.Rows.StrIntSpec
import OpenK.KOwn
import KE.GoesMore
import PyProof.StrLawsRepr
import PyProof.Rows.RegReprOcc
import PySem.Challenge.RW_statusrules_k18_histories_allowed
set_option Elab.async false
set_option autoImplicit false
set_option linter.all false
set_option maxHeartbeats 4000000
set_option maxRecDepth 100000
namespace Sr
open PySem PySem.Spec L2
inductive D where
  | non
  | bl (b : Bool)
  | int (i : Int)
  | str (x : Str)
  | byt (b : Array UInt8)
  | lst (xs : List D)
  | tup (xs : List D)
  | dk (kvs : List (Key × D))
  | dt (kvs : List (List Key × D))
  | obj (c : Str) (fs : List (Str × D))
  | scr (ns : List Int)
  | ct (xs : List D)
instance : Inhabited D := ⟨.non⟩
section
variable (K : PySem.W.Frag) (mg : Str → Option Value) (F : Hp)
mutual
def Rp : D → V → Prop
  | .non, v => v = .non
  | .bl b, v => v = .bl b
  | .int i, v => v = .int i
  | .str x, v => v = .str x
  | .byt b, v => v = .byt b
  | .lst ds, v => ∃ a xs, v = .ref a ∧ F a = some (.lst xs) ∧ RpL ds xs
  | .tup ds, v => ∃ a xs, v = .ref a ∧ F a = some (.tup xs) ∧ RpL ds xs
  | .ct ds, v => ∃ a xs, v = .ref a ∧ SqT K F a xs ∧ RpL ds xs
  | .dk kvs, v => ∃ a ys, v = .ref a ∧ F a = some (.dK ys) ∧ RpK kvs ys
  | .dt kvs, v => ∃ a ys, v = .ref a ∧ F a = some (.dT ys) ∧ RpT kvs ys
  | .obj c fs, v => ∃ a C dx gs, v = .ref a ∧ mg c = some (.ref C) ∧ F a = some (.ins C dx gs) ∧ RpF fs gs
  | .scr ns, v => ∃ a, v = .ref a ∧ SqL K F a (ns.map V.int)
def RpL : List D → List V → Prop
  | [], xs => xs = []
  | d :: ds, xs => ∃ v vs, xs = v :: vs ∧ Rp d v ∧ RpL ds vs
def RpK : List (Key × D) → List (Key × V) → Prop
  | [], xs => xs = []
  | (k, d) :: ds, xs => ∃ v vs, xs = (k, v) :: vs ∧ Rp d v ∧ RpK ds vs
def RpT : List (List Key × D) → List (List Key × V) → Prop
  | [], xs => xs = []
  | (k, d) :: ds, xs => ∃ v vs, xs = (k, v) :: vs ∧ Rp d v ∧ RpT ds vs
def RpF : List (Str × D) → List (Str × V) → Prop
  | [], xs => xs = []
  | (k, d) :: ds, xs => ∃ v vs, xs = (k, v) :: vs ∧ Rp d v ∧ RpF ds vs
end
end
theorem seqC_mono {K : PySem.W.Frag} {H H' : Hp} {a : Addr} {xs : List V} (e : Same H H') (h : SqT K H a xs) : SqT K H' a xs := by
  rcases h with (h | ⟨o, h⟩) | h
  · exact .inl (.inl (e _ _ h))
  · exact .inl (.inr ⟨o, e _ _ h⟩)
  · exact .inr h
theorem seqT_mono {K : PySem.W.Frag} {H H' : Hp} {a : Addr} {xs : List V} (e : Same H H') (h : H a = some (.tup xs)) : SqT K H' a xs := SqT.of (e _ _ h)
section
variable {K : PySem.W.Frag} {mg : Str → Option Value} {F F' : Hp}
mutual
theorem Rp.mono (s : Same F F') : ∀ (d : D) (v : V), Rp K mg F d v → Rp K mg F' d v
  | .non, v, h => h
  | .bl b, v, h => h
  | .int i, v, h => h
  | .str x, v, h => h
  | .byt b, v, h => h
  | .lst ds, v, h => by
    unfold Rp at h ⊢
    obtain ⟨a, xs, e, q, r⟩ := h
    exact ⟨a, xs, e, s _ _ q, RpL.mono s ds xs r⟩
  | .tup ds, v, h => by
    unfold Rp at h ⊢
    obtain ⟨a, xs, e, q, r⟩ := h
    exact ⟨a, xs, e, s _ _ q, RpL.mono s ds xs r⟩
  | .ct ds, v, h => by
    unfold Rp at h ⊢
    obtain ⟨a, xs, e, q, r⟩ := h
    exact ⟨a, xs, e, seqC_mono s q, RpL.mono s ds xs r⟩
  | .dk ds, v, h => by
    unfold Rp at h ⊢
    obtain ⟨a, xs, e, q, r⟩ := h
    exact ⟨a, xs, e, s _ _ q, RpK.mono s ds xs r⟩
  | .dt ds, v, h => by
    unfold Rp at h ⊢
    obtain ⟨a, xs, e, q, r⟩ := h
    exact ⟨a, xs, e, s _ _ q, RpT.mono s ds xs r⟩
  | .obj c fs, v, h => by
    unfold Rp at h ⊢
    obtain ⟨a, C, dx, gs, e, m, q, r⟩ := h
    exact ⟨a, C, dx, gs, e, m, s _ _ q, RpF.mono s fs gs r⟩
  | .scr ns, v, h => by
    unfold Rp at h ⊢
    obtain ⟨a, e, q⟩ := h
    exact ⟨a, e, s.seq q⟩
theorem RpL.mono (s : Same F F') : ∀ (ds : List D) (xs : List V), RpL K mg F ds xs → RpL K mg F' ds xs
  | [], xs, h => h
  | d :: ds, xs, h => by
    unfold RpL at h ⊢
    obtain ⟨v, vs, e, r, q⟩ := h
    exact ⟨v, vs, e, Rp.mono s d v r, RpL.mono s ds vs q⟩
theorem RpK.mono (s : Same F F') : ∀ (ds : List (Key × D)) (xs : List (Key × V)), RpK K mg F ds xs → RpK K mg F' ds xs
  | [], xs, h => h
  | (k, d) :: ds, xs, h => by
    unfold RpK at h ⊢
    obtain ⟨v, vs, e, r, q⟩ := h
    exact ⟨v, vs, e, Rp.mono s d v r, RpK.mono s ds vs q⟩
theorem RpT.mono (s : Same F F') : ∀ (ds : List (List Key × D)) (xs : List (List Key × V)), RpT K mg F ds xs → RpT K mg F' ds xs
  | [], xs, h => h
  | (k, d) :: ds, xs, h => by
    unfold RpT at h ⊢
    obtain ⟨v, vs, e, r, q⟩ := h
    exact ⟨v, vs, e, Rp.mono s d v r, RpT.mono s ds vs q⟩
theorem RpF.mono (s : Same F F') : ∀ (ds : List (Str × D)) (xs : List (Str × V)), RpF K mg F ds xs → RpF K mg F' ds xs
  | [], xs, h => h
  | (k, d) :: ds, xs, h => by
    unfold RpF at h ⊢
    obtain ⟨v, vs, e, r, q⟩ := h
    exact ⟨v, vs, e, Rp.mono s d v r, RpF.mono s ds vs q⟩
end
end
end Sr
namespace Sr
open PySem PySem.Spec L2
inductive Sl where
  | no
  | val (d : D)
  | own (d : D)
abbrev En := List Sl
structure Ex where
  c : Str
  fs : List (Str × D)
inductive Out (A : Type) where
  | ok (a : A) (e : En)
  | exc (x : Ex) (e : En)
  | bad
abbrev M (A : Type) := En → Out A
def bnd {A B : Type} (m : M A) (f : A → M B) : M B := fun e => match m e with
  | .ok a e1 => f a e1
  | .exc x e1 => .exc x e1
  | .bad => .bad
def ret {A : Type} (a : A) : M A := fun e => .ok a e
def opt {A : Type} (o : Option A) : M A := fun e => match o with
  | some a => .ok a e
  | none => .bad
section
variable (K : PySem.W.Frag) (mg : Str → Option Value)
def OwnAt (H F : Hp) (p : Addr) : D → Prop
  | .lst ds => ∃ xs, H p = some (.lst xs) ∧ RpL K mg F ds xs
  | .dk ds => ∃ xs, H p = some (.dK xs) ∧ RpK K mg F ds xs
  | .dt ds => ∃ xs, H p = some (.dT xs) ∧ RpT K mg F ds xs
  | .obj c fs => ∃ C dx gs, mg c = some (.ref C) ∧ H p = some (.ins C dx gs) ∧ RpF K mg F fs gs
  | _ => False
def Rq (H F : Hp) : D → V → Prop
  | .lst ds, v => ∃ a xs, v = .ref a ∧ H a = some (.lst xs) ∧ RpL K mg F ds xs
  | .dk ds, v => ∃ a xs, v = .ref a ∧ H a = some (.dK xs) ∧ RpK K mg F ds xs
  | .dt ds, v => ∃ a xs, v = .ref a ∧ H a = some (.dT xs) ∧ RpT K mg F ds xs
  | .obj c fs, v => ∃ a C dx gs, v = .ref a ∧ mg c = some (.ref C) ∧ H a = some (.ins C dx gs) ∧ RpF K mg F fs gs
  | d, v => Rp K mg F d v
end
def Ow (e : En) (σ : St) (a : Addr) : Prop := ∃ (i : Nat) (d : D), e[i]? = some (Sl.own d) ∧ σ[i]? = some (some (V.ref a))
abbrev Pn := List (Nat × Addr)
def NoP (T : Pn) (i : Nat) : Prop := ∀ q ∈ T, q.1 ≠ i
theorem noP_nil {i : Nat} : NoP [] i := fun _ h => nomatch h
theorem noP_cons {T : Pn} {i j : Nat} {p : Addr} (h : j ≠ i) (hs : NoP T i) : NoP ((j, p) :: T) i := fun q hq => by
  rcases List.mem_cons.mp hq with rfl | hq
  · exact h
  · exact hs q hq
theorem noPs_nil {vs : List Nat} : ∀ v ∈ vs, NoP [] v := fun _ _ => noP_nil
theorem noPs_cons {T : Pn} {vs : List Nat} {j : Nat} {p : Addr} (h : j ∉ vs) (hs : ∀ v ∈ vs, NoP T v) : ∀ v ∈ vs, NoP ((j, p) :: T) v := fun v hv => noP_cons (fun z => h (by rw [z]; exact hv)) (hs v hv)
structure ER (K : PySem.W.Frag) (mg : Str → Option Value) (T : Pn) (e : En) (σ : St) (H F : Hp) : Prop where
  sub : Same F H
  val : ∀ (i : Nat) (d : D), e[i]? = some (.val d) → ∃ v, σ[i]? = some (some v) ∧ Rp K mg F d v
  own : ∀ (i : Nat) (d : D), e[i]? = some (.own d) → ∃ p, σ[i]? = some (some (.ref p)) ∧ F p = none ∧ OwnAt K mg H F p d
  inj : ∀ (i j : Nat) (p : Addr) (d d' : D), e[i]? = some (.own d) → e[j]? = some (.own d') → σ[i]? = some (some (.ref p)) → σ[j]? = some (some (.ref p)) → i = j
  len : e.length = σ.length
  pin : ∀ q ∈ T, σ[q.1]? = some (some (.ref q.2))
structure Mv (e : En) (σ : St) (H F : Hp) (e' : En) (σ' : St) (H' F' : Hp) : Prop where
  sub : Same F F'
  keep : ∀ a o, H a = some o → ¬ Ow e σ a → H' a = some o ∧ ¬ Ow e' σ' a
  new : ∀ a o, F' a = some o → F a = some o ∨ H a = none ∨ Ow e σ a
  there : ∀ a, H' a = none → H a = none
theorem Mv.refl {e : En} {σ : St} {H F : Hp} : Mv e σ H F e σ H F := ⟨Same.refl _, fun _ _ h n => ⟨h, n⟩, fun _ _ h => .inl h, fun _ h => h⟩
theorem Mv.trans {e e1 e2 : En} {σ σ1 σ2 : St} {H F H1 F1 H2 F2 : Hp} (a : Mv e σ H F e1 σ1 H1 F1) (b : Mv e1 σ1 H1 F1 e2 σ2 H2 F2) : Mv e σ H F e2 σ2 H2 F2 := by
  refine ⟨a.sub.trans b.sub, fun c o h n => ?_, fun c o h => ?_, fun c h => a.there c (b.there c h)⟩
  · obtain ⟨h1, n1⟩ := a.keep c o h n
    exact b.keep c o h1 n1
  · rcases b.new c o h with h1 | h1 | h1
    · exact a.new c o h1
    · cases q : H c with
      | none => exact .inr (.inl rfl)
      | some u =>
        by_cases w : Ow e σ c
        · exact .inr (.inr w)
        · rw [(a.keep c u q w).1] at h1; cases h1
    · cases q : H c with
      | none => exact .inr (.inl rfl)
      | some u =>
        by_cases w : Ow e σ c
        · exact .inr (.inr w)
        · exact absurd h1 (a.keep c u q w).2
def Al (H F H' F' : Hp) : Prop := (H' = H ∧ F' = F) ∨ ∃ p o, H p = none ∧ H' = upd H p o ∧ F' = upd F p o
theorem Al.refl {H F : Hp} : Al H F H F := .inl ⟨rfl, rfl⟩
theorem Al.one {H F : Hp} {p : Addr} {o : HO} (h : H p = none) : Al H F (upd H p o) (upd F p o) := .inr ⟨p, o, h, rfl, rfl⟩
theorem same_upd {H : Hp} {p : Addr} {o : HO} (h : H p = none) : Same H (upd H p o) := fun b u e => by
  rw [upd_ne (ne_of_none e h)]; exact e
theorem Al.same {H F H' F' : Hp} (s : Same F H) (a : Al H F H' F') : Same F F' ∧ Same H H' ∧ Same F' H' := by
  rcases a with ⟨rfl, rfl⟩ | ⟨p, o, h, rfl, rfl⟩
  · exact ⟨Same.refl _, Same.refl _, s⟩
  · refine ⟨same_upd (s.free h), same_upd h, fun b u e => ?_⟩
    by_cases hb : b = p
    · subst hb; rw [upd_same] at e ⊢; exact e
    · rw [upd_ne hb] at e ⊢; exact s b u e
section
variable {K : PySem.W.Frag} {mg : Str → Option Value} {T : Pn} {e e' : En} {σ σ' : St} {H F H' F' : Hp} {p a : Addr} {d : D} {v : V}
theorem OwnAt.keep (h : OwnAt K mg H F p d) (s : Same F F') (q : ∀ o, H p = some o → H' p = some o) : OwnAt K mg H' F' p d := by
  cases d <;> try (exact h.elim)
  · obtain ⟨xs, h1, h2⟩ := h
    exact ⟨xs, q _ h1, RpL.mono s _ _ h2⟩
  · obtain ⟨xs, h1, h2⟩ := h
    exact ⟨xs, q _ h1, RpK.mono s _ _ h2⟩
  · obtain ⟨xs, h1, h2⟩ := h
    exact ⟨xs, q _ h1, RpT.mono s _ _ h2⟩
  · obtain ⟨C, dx, xs, m, h1, h2⟩ := h
    exact ⟨C, dx, xs, m, q _ h1, RpF.mono s _ _ h2⟩
theorem OwnAt.there (h : OwnAt K mg H F p d) : ∃ o, H p = some o := by
  cases d <;> try (exact h.elim)
  · obtain ⟨xs, h1, h2⟩ := h; exact ⟨_, h1⟩
  · obtain ⟨xs, h1, h2⟩ := h; exact ⟨_, h1⟩
  · obtain ⟨xs, h1, h2⟩ := h; exact ⟨_, h1⟩
  · obtain ⟨C, dx, xs, m, h1, h2⟩ := h; exact ⟨_, h1⟩
theorem OwnAt.rp (h : OwnAt K mg H F p d) (n : F p = none) {o : HO} (ho : H p = some o) : Rp K mg (upd F p o) d (.ref p) := by
  have s : Same F (upd F p o) := same_upd n
  cases d <;> try (exact h.elim)
  · obtain ⟨xs, h1, h2⟩ := h; rw [ho] at h1; cases h1
    unfold Rp
    exact ⟨p, xs, rfl, upd_same, RpL.mono s _ _ h2⟩
  · obtain ⟨xs, h1, h2⟩ := h; rw [ho] at h1; cases h1
    unfold Rp
    exact ⟨p, xs, rfl, upd_same, RpK.mono s _ _ h2⟩
  · obtain ⟨xs, h1, h2⟩ := h; rw [ho] at h1; cases h1
    unfold Rp
    exact ⟨p, xs, rfl, upd_same, RpT.mono s _ _ h2⟩
  · obtain ⟨C, dx, xs, m, h1, h2⟩ := h; rw [ho] at h1; cases h1
    unfold Rp
    exact ⟨p, C, dx, xs, rfl, m, upd_same, RpF.mono s _ _ h2⟩
theorem OwnAt.rq (h : OwnAt K mg H F p d) : Rq K mg H F d (.ref p) := by
  cases d <;> try (exact h.elim)
  · obtain ⟨xs, h1, h2⟩ := h; exact ⟨p, xs, rfl, h1, h2⟩
  · obtain ⟨xs, h1, h2⟩ := h; exact ⟨p, xs, rfl, h1, h2⟩
  · obtain ⟨xs, h1, h2⟩ := h; exact ⟨p, xs, rfl, h1, h2⟩
  · obtain ⟨C, dx, xs, m, h1, h2⟩ := h; exact ⟨p, C, dx, xs, rfl, m, h1, h2⟩
theorem Rp.rq (s : Same F H) (h : Rp K mg F d v) : Rq K mg H F d v := by
  cases d <;> unfold Rq <;> try (exact h)
  · unfold Rp at h
    obtain ⟨a, xs, e, q, r⟩ := h
    exact ⟨a, xs, e, s _ _ q, r⟩
  · unfold Rp at h
    obtain ⟨a, xs, e, q, r⟩ := h
    exact ⟨a, xs, e, s _ _ q, r⟩
  · unfold Rp at h
    obtain ⟨a, xs, e, q, r⟩ := h
    exact ⟨a, xs, e, s _ _ q, r⟩
  · unfold Rp at h
    obtain ⟨a, C, dx, xs, e, m, q, r⟩ := h
    exact ⟨a, C, dx, xs, e, m, s _ _ q, r⟩
theorem ER.al (r : ER K mg T e σ H F) (a : Al H F H' F') : ER K mg T e σ H' F' := by
  obtain ⟨s1, s2, s3⟩ := a.same r.sub
  refine ⟨s3, fun i d h => ?_, fun i d h => ?_, r.inj, r.len, r.pin⟩
  · obtain ⟨v, h1, h2⟩ := r.val i d h
    exact ⟨v, h1, Rp.mono s1 _ _ h2⟩
  · obtain ⟨p, h1, h2, h3⟩ := r.own i d h
    refine ⟨p, h1, ?_, h3.keep s1 (s2 p)⟩
    obtain ⟨o, ho⟩ := h3.there
    rcases a with ⟨rfl, rfl⟩ | ⟨q, u, hq, rfl, rfl⟩
    · exact h2
    · rw [upd_ne (ne_of_none ho hq)]; exact h2
theorem Mv.al (r : ER K mg T e σ H F) (a : Al H F H' F') : Mv e σ H F e σ H' F' := by
  obtain ⟨s1, s2, s3⟩ := a.same r.sub
  refine ⟨s1, fun b o h n => ⟨s2 b o h, n⟩, fun b o h => ?_, fun b h => s2.free h⟩
  rcases a with ⟨rfl, rfl⟩ | ⟨q, u, hq, rfl, rfl⟩
  · exact .inl h
  · by_cases hb : b = q
    · subst hb; exact .inr (.inl hq)
    · rw [upd_ne hb] at h; exact .inl h
theorem Ow.ne_of_free (r : ER K mg T e σ H F) (h : H a = none) : ¬ Ow e σ a := by
  rintro ⟨i, d, h1, h2⟩
  obtain ⟨p, h3, _, h4⟩ := r.own i d h1
  rw [h3] at h2; cases h2
  obtain ⟨o, ho⟩ := h4.there
  rw [ho] at h; cases h
theorem ER.freeze (r : ER K mg T e σ H F) (n : F p = none) (w : ¬ Ow e σ p) {o : HO} (ho : H p = some o) : ER K mg T e σ H (upd F p o) := by
  have s : Same F (upd F p o) := same_upd n
  refine ⟨fun b u q => ?_, fun i d h => ?_, fun i d h => ?_, r.inj, r.len, r.pin⟩
  · by_cases hb : b = p
    · subst hb; rw [upd_same] at q; cases q; exact ho
    · rw [upd_ne hb] at q; exact r.sub b u q
  · obtain ⟨v, h1, h2⟩ := r.val i d h
    exact ⟨v, h1, Rp.mono s _ _ h2⟩
  · obtain ⟨q, h1, h2, h3⟩ := r.own i d h
    refine ⟨q, h1, ?_, h3.keep s fun _ z => z⟩
    have hqp : q ≠ p := by
      rintro rfl
      exact w ⟨i, d, h, h1⟩
    rw [upd_ne hqp]; exact h2
theorem ER.freezeAt {i : Nat} (r : ER K mg T e σ H F) (h : e[i]? = some (.own d)) (hp : σ[i]? = some (some (.ref p))) {o : HO} (ho : H p = some o) : ER K mg T (e.set i (.val d)) σ H (upd F p o) ∧ Rp K mg (upd F p o) d (.ref p) ∧ Mv e σ H F (e.set i (.val d)) σ H (upd F p o) := by
  obtain ⟨q, h1, h2, h3⟩ := r.own i d h
  rw [hp] at h1; cases h1
  have s : Same F (upd F p o) := same_upd h2
  have hrp := h3.rp h2 ho
  have hi : i < e.length := (List.getElem?_eq_some_iff.mp h).1
  have other : ∀ (j : Nat) (x : D), (e.set i (Sl.val d))[j]? = some (.own x) → e[j]? = some (.own x) ∧ j ≠ i := fun j x q => by
    by_cases hj : j = i
    · subst hj; rw [List.getElem?_set_self hi] at q; cases q
    · rw [List.getElem?_set_ne (Ne.symm hj)] at q; exact ⟨q, hj⟩
  refine ⟨⟨fun b u q => ?_, fun j x q => ?_, fun j x q => ?_, fun j k p' x y q1 q2 => r.inj j k p' x y (other j x q1).1 (other k y q2).1, by rw [List.length_set]; exact r.len, r.pin⟩, hrp, s, fun a u q n => ⟨q, ?_⟩, fun a u q => ?_, fun a q => q⟩
  · by_cases hb : b = p
    · subst hb; rw [upd_same] at q; cases q; exact ho
    · rw [upd_ne hb] at q; exact r.sub b u q
  · by_cases hj : j = i
    · subst hj; rw [List.getElem?_set_self hi] at q; cases q
      exact ⟨_, hp, hrp⟩
    · rw [List.getElem?_set_ne (Ne.symm hj)] at q
      obtain ⟨v, h4, h5⟩ := r.val j x q
      exact ⟨v, h4, Rp.mono s _ _ h5⟩
  · obtain ⟨q, hj⟩ := other j x q
    obtain ⟨p', h4, h5, h6⟩ := r.own j x q
    refine ⟨p', h4, ?_, h6.keep s fun _ z => z⟩
    rw [upd_ne]; exact h5
    rintro rfl
    exact hj (r.inj j i p' x d q h h4 hp)
  · rintro ⟨j, x, q1, q2⟩
    exact n ⟨j, x, (other j x q1).1, q2⟩
  · by_cases hb : a = p
    · subst hb; exact .inr (.inr ⟨i, d, h, hp⟩)
    · rw [upd_ne hb] at q; exact .inl q
end
def XR (K : PySem.W.Frag) (mg : Str → Option Value) (x : Ex) (cl : Value) (dd : Option Addr) (H F : Hp) : Prop :=
  mg x.c = some cl ∧ ((x.fs = [] ∧ dd = none) ∨ (x.fs ≠ [] ∧ ∃ a gs, dd = some a ∧ H a = some (.xd gs) ∧ RpF K mg F x.fs gs))
section
variable (K : PySem.W.Frag) (mg : Str → Option Value) (T : Pn) (W : WX)
def RunAt {A : Type} (e : En) (F : Hp) (m : M A) (σ : St) (H : Hp) (P : A → En → Hp → Hp → Prop) : Prop :=
  match m e with
  | .ok a e' => ∀ H' F', ER K mg T e' σ H' F' → Mv e σ H F e' σ H' F' → P a e' H' F'
  | .exc x e' => ∀ H' F' cl dd, ER K mg T e' σ H' F' → Mv e σ H F e' σ H' F' → XR K mg x cl dd H' F' → W cl dd σ H'
  | .bad => False
def TV (m : M D) : TE := fun σ H Q => ∃ e F, ER K mg T e σ H F ∧ RunAt K mg T W e F m σ H fun d _ H' F' => ∀ v, Rp K mg F' d v → Q v H'
def TO (m : M D) : TE := fun σ H Q => ∃ e F, ER K mg T e σ H F ∧ RunAt K mg T W e F m σ H fun d e' H' F' => ∀ p, H p = none → F' p = none → ¬ Ow e' σ p → OwnAt K mg H' F' p d → Q (.ref p) H'
def TT' (m : M Bool) : TT := fun σ H Q => ∃ e F, ER K mg T e σ H F ∧ RunAt K mg T W e F m σ H fun b _ H' F' => Q b H'
def TAs (m : M (List D)) : TA := fun σ H Q => ∃ e F, ER K mg T e σ H F ∧ RunAt K mg T W e F m σ H fun ds _ H' F' => ∀ vs, RpL K mg F' ds vs → Q vs H'
end
section
variable {K : PySem.W.Frag} {mg : Str → Option Value} {T : Pn} {W : WX} {A B : Type} {e : En} {σ : St} {H F : Hp}
theorem RunAt.mono {m : M A} {P P' : A → En → Hp → Hp → Prop} (h : RunAt K mg T W e F m σ H P) (hp : ∀ a e' H' F', ER K mg T e' σ H' F' → Mv e σ H F e' σ H' F' → P a e' H' F' → P' a e' H' F') : RunAt K mg T W e F m σ H P' := by
  unfold RunAt at h ⊢
  cases q : m e with
  | ok a e' =>
    rw [q] at h
    exact fun H' F' er mv => hp _ _ _ _ er mv (h H' F' er mv)
  | exc x e' => rw [q] at h; exact h
  | bad => rw [q] at h; exact h
theorem RunAt.bind {m : M A} {f : A → M B} {P : B → En → Hp → Hp → Prop} (h : RunAt K mg T W e F (bnd m f) σ H P) : RunAt K mg T W e F m σ H fun a e1 H1 F1 => RunAt K mg T W e1 F1 (f a) σ H1 P := by
  unfold RunAt bnd at h
  unfold RunAt
  cases q : m e with
  | ok a e1 =>
    rw [q] at h
    dsimp only at h ⊢
    intro H1 F1 er1 mv1
    cases q2 : f a e1 with
    | ok b e2 =>
      rw [q2] at h
      exact fun H2 F2 er2 mv2 => h H2 F2 er2 (mv1.trans mv2)
    | exc x e2 =>
      rw [q2] at h
      exact fun H2 F2 cl dd er2 mv2 => h H2 F2 cl dd er2 (mv1.trans mv2)
    | bad => rw [q2] at h; exact h
  | exc x e' => rw [q] at h; exact h
  | bad => rw [q] at h; exact h
theorem RunAt.fin {o : Option A} {P : A → En → Hp → Hp → Prop} (h : RunAt K mg T W e F (opt o) σ H P) (er : ER K mg T e σ H F) : ∃ a, o = some a ∧ ∀ H' F', Al H F H' F' → P a e H' F' := by
  unfold RunAt opt at h
  cases o with
  | none => exact h.elim
  | some a => exact ⟨a, rfl, fun H' F' al => h H' F' (er.al al) (Mv.al er al)⟩
theorem RunAt.rfin {a : A} {P : A → En → Hp → Hp → Prop} (h : RunAt K mg T W e F (ret a) σ H P) (er : ER K mg T e σ H F) : ∀ H' F', Al H F H' F' → P a e H' F' :=
  fun H' F' al => h H' F' (er.al al) (Mv.al er al)
end
end Sr
namespace Sr
open PySem PySem.Spec L2
open PyProof.Rows hiding St
theorem PEimp {X : Cx} {e : Expr} {t t' : TE} (h : PE X e t) (k : ∀ σ H Q, t' σ H Q → t σ H Q) : PE X e t' := ⟨fun pins s σ H Q I q => h.run pins s σ H Q I (k σ H Q q)⟩
abbrev JV (X : Cx) (T : Pn) (W : WX) (e : Expr) (m : M D) : Prop := PE X e (TV X.K X.mg T W m)
abbrev JO (X : Cx) (T : Pn) (W : WX) (e : Expr) (m : M D) : Prop := PE X e (TO X.K X.mg T W m)
abbrev JT (X : Cx) (T : Pn) (W : WX) (e : Expr) (m : M Bool) : Prop := PT X e (TT' X.K X.mg T W m)
abbrev JW (X : Cx) (T : Pn) (W : WX) (e : Expr) (m : M Bool) : Prop := PW X e (TT' X.K X.mg T W m)
abbrev JA (X : Cx) (T : Pn) (W : WX) (es : List Expr) (m : M (List D)) : Prop := PA X es (TAs X.K X.mg T W m)
inductive Bv where
  | val (d : D)
  | slot (i : Nat)
def BwR (K : PySem.W.Frag) (mg : Str → Option Value) (σ : St) (F : Hp) : Bv → V → Prop
  | .val d, v => Rp K mg F d v
  | .slot i, v => σ[i]? = some (some v)
def TBw (K : PySem.W.Frag) (mg : Str → Option Value) (T : Pn) (W : WX) (m : M Bv) : TE := fun σ H Q => ∃ e F, ER K mg T e σ H F ∧ RunAt K mg T W e F m σ H fun b _ H' F' => ∀ v, BwR K mg σ F' b v → Q v H'
abbrev JB (X : Cx) (T : Pn) (W : WX) (e : Expr) (m : M Bv) : Prop := PE X e (TBw X.K X.mg T W m)
def der (b : Bv) : M D := fun e => match b with
  | .val d => .ok d e
  | .slot i => match e[i]? with
    | some (.val d) => .ok d e
    | some (.own d) => .ok d e
    | _ => .bad
section
variable {K : PySem.W.Frag} {mg : Str → Option Value} {T : Pn} {W : WX} {e : En} {σ : St} {H F F' : Hp} {b : Bv} {v : V}
theorem BwR.mono (s : Same F F') (h : BwR K mg σ F b v) : BwR K mg σ F' b v := by
  cases b with
  | val d => exact Rp.mono s _ _ h
  | slot i => exact h
theorem der_fin {P : D → En → Hp → Hp → Prop} (h : RunAt K mg T W e F (der b) σ H P) (er : ER K mg T e σ H F) (hb : BwR K mg σ F b v) : ∃ d, Rq K mg H F d v ∧ P d e H F := by
  cases b with
  | val d => exact ⟨d, Rp.rq er.sub hb, h H F er Mv.refl⟩
  | slot i =>
    unfold RunAt der at h
    cases q : e[i]? with
    | none => simp only [q] at h
    | some sl =>
      cases sl with
      | no => simp only [q] at h
      | val d =>
        simp only [q] at h
        obtain ⟨w, h1, h2⟩ := er.val i d q
        have hv : σ[i]? = some (some v) := hb
        rw [h1] at hv; cases hv
        exact ⟨d, Rp.rq er.sub h2, h H F er Mv.refl⟩
      | own d =>
        simp only [q] at h
        obtain ⟨p, h1, h2, h3⟩ := er.own i d q
        have hv : σ[i]? = some (some v) := hb
        rw [h1] at hv; cases hv
        exact ⟨d, h3.rq, h H F er Mv.refl⟩
end
section
variable {X : Cx} {T : Pn} {W : WX} {pos : Pos} {a b c : Expr} {ma mb mc : M D}
theorem ofO {m : M D} (h : JO X T W a m) : JV X T W a m := by
  refine PEimp h fun σ H Q ⟨e, F, er, q⟩ => ⟨e, F, er, ?_⟩
  unfold RunAt at q ⊢
  cases r : m e with
  | ok d e' =>
    rw [r] at q
    intro H' F' er' mv p hp fp np ow
    obtain ⟨o, ho⟩ := ow.there
    refine q H' (upd F' p o) (er'.freeze fp np ho) ⟨mv.sub.trans (same_upd fp), mv.keep, fun c u hc => ?_, mv.there⟩ _ (ow.rp fp ho)
    by_cases hcp : c = p
    · subst hcp; exact .inr (.inl hp)
    · rw [upd_ne hcp] at hc; exact mv.new c u hc
  | exc x e' => rw [r] at q; exact q
  | bad => rw [r] at q; exact q
def mB (m : M D) : M Bv := bnd m fun d => ret (.val d)
theorem ofV {m : M D} (h : JV X T W a m) : JB X T W a (mB m) := by
  refine PEimp h fun σ H Q ⟨e, F, er, q⟩ => ⟨e, F, er, q.bind.mono fun d e1 H1 F1 er1 mv1 q1 v hv => q1.rfin er1 H1 F1 Al.refl v hv⟩
theorem jv_int {i j} : JV X T W (.Constant (.int i) j pos) (ret (.int i)) := PEimp pe_int fun σ H Q ⟨e, F, er, h⟩ => h.rfin er H F Al.refl _ (by unfold Rp; rfl)
theorem jv_bl {i j} : JV X T W (.Constant (.bool i) j pos) (ret (.bl i)) := PEimp pe_bl fun σ H Q ⟨e, F, er, h⟩ => h.rfin er H F Al.refl _ (by unfold Rp; rfl)
theorem jv_str {i j} : JV X T W (.Constant (.str i) j pos) (ret (.str i)) := PEimp pe_str fun σ H Q ⟨e, F, er, h⟩ => h.rfin er H F Al.refl _ (by unfold Rp; rfl)
theorem jv_non {j} : JV X T W (.Constant .none j pos) (ret .non) := PEimp pe_non fun σ H Q ⟨e, F, er, h⟩ => h.rfin er H F Al.refl _ (by unfold Rp; rfl)
theorem jv_glob {x : Str} {v : V} {u : Value} {d : D} (hg : Gl X x) (hm : X.mg x = some u) (r : RelV v u) (hd : ∀ F, Rp X.K X.mg F d v) (hx : (x == ("__debug__" : Str)) = false := by decide) : JV X T W (.Name x pos) (ret d) :=
  PEimp (pe_glob hg hm r hx) fun σ H Q ⟨e, F, er, h⟩ => h.rfin er H F Al.refl _ (hd F)
def mN (i : Nat) : M D := fun e => match e[i]? with
  | some (.val d) => .ok d e
  | some (.own d) => .ok d (e.set i (.val d))
  | _ => .bad
def mNB (i : Nat) : M Bv := fun e => match e[i]? with
  | some (.val d) => .ok (.val d) e
  | some (.own _) => .ok (.slot i) e
  | _ => .bad
theorem jv_name (i : Nat) {x : Str} (hN : X.N[i]? = some x := by rfl) (hv : Vis X.env.scope x := by first | exact Or.inl rfl | exact Or.inr (Or.inl rfl) | exact Or.inr (Or.inr rfl)) (hd : (x == ("__debug__" : Str)) = false := by decide)
    (hcd : (x == ("__classdict__" : Str)) = false := by decide) : JV X T W (.Name x pos) (mN i) := by
  refine PEimp (pe_var hN hv hd hcd) fun σ H Q ⟨e, F, er, h⟩ => ?_
  unfold RunAt mN at h
  cases q : e[i]? with
  | none => simp only [q] at h
  | some sl =>
    cases sl with
    | no => simp only [q] at h
    | val d =>
      simp only [q] at h
      obtain ⟨v, h1, h2⟩ := er.val i d q
      exact ⟨v, h1, h H F er Mv.refl v h2⟩
    | own d =>
      simp only [q] at h
      obtain ⟨p, h1, h2, h3⟩ := er.own i d q
      obtain ⟨o, ho⟩ := h3.there
      obtain ⟨er', hr, mv⟩ := er.freezeAt q h1 ho
      exact ⟨_, h1, h H _ er' mv _ hr⟩
theorem jb_name (i : Nat) {x : Str} (hN : X.N[i]? = some x := by rfl) (hv : Vis X.env.scope x := by first | exact Or.inl rfl | exact Or.inr (Or.inl rfl) | exact Or.inr (Or.inr rfl)) (hd : (x == ("__debug__" : Str)) = false := by decide)
    (hcd : (x == ("__classdict__" : Str)) = false := by decide) : JB X T W (.Name x pos) (mNB i) := by
  refine PEimp (pe_var hN hv hd hcd) fun σ H Q ⟨e, F, er, h⟩ => ?_
  unfold RunAt mNB at h
  cases q : e[i]? with
  | none => simp only [q] at h
  | some sl =>
    cases sl with
    | no => simp only [q] at h
    | val d =>
      simp only [q] at h
      obtain ⟨v, h1, h2⟩ := er.val i d q
      exact ⟨v, h1, h H F er Mv.refl v h2⟩
    | own d =>
      simp only [q] at h
      obtain ⟨p, h1, h2, h3⟩ := er.own i d q
      exact ⟨_, h1, h H F er Mv.refl _ h1⟩
def Op2 (X : Cx) (f : Value → Value → Sem Value) (g : D → D → Option D) : Prop :=
  ∀ (H F : Hp) (x y : V) (d1 d2 d : D), Same F H → Rq X.K X.mg H F d1 x → Rq X.K X.mg H F d2 y → g d1 d2 = some d →
    ∃ r : R2, OpR X f r ∧ ∀ Q : VK, (∀ H' F' z, Al H F H' F' → Rp X.K X.mg F' d z → Q z H') → r x y H Q
theorem Op2.or {f : Value → Value → Sem Value} {g g' : D → D → Option D} (h : Op2 X f g) (h' : Op2 X f g') : Op2 X f (fun a b => (g a b).or (g' a b)) := by
  intro H F x y d1 d2 d s r1 r2 e
  cases q : g d1 d2 with
  | some z => simp only [q, Option.some_or] at e; cases e; exact h H F x y d1 d2 _ s r1 r2 q
  | none => simp only [q, Option.none_or] at e; exact h' H F x y d1 d2 d s r1 r2 e
def m2 (g : D → D → Option D) (ma mb : M D) : M D := bnd ma fun d1 => bnd mb fun d2 => opt (g d1 d2)
def m2b (g : D → D → Option D) (ma : M Bv) (mb : M D) : M D := bnd ma fun b1 => bnd mb fun d2 => bnd (der b1) fun d1 => opt (g d1 d2)
def m2r (g : D → D → Option D) (ma : M D) (mb : M Bv) : M D := bnd ma fun d1 => bnd mb fun b2 => bnd (der b2) fun d2 => opt (g d1 d2)
section
variable {f : Value → Value → Sem Value} {g : D → D → Option D} {R : V → V → Hp → Prop} {Q : VK}
theorem run2 (ho : Op2 X f g) {σ : St} {H : Hp} (h : TV X.K X.mg T W (m2 g ma mb) σ H Q) : TV X.K X.mg T W ma σ H fun x H1 => TV X.K X.mg T W mb σ H1 fun y H2 => ∃ r, OpR X f r ∧ r x y H2 Q := by
  obtain ⟨e, F, er, h⟩ := h
  refine ⟨e, F, er, h.bind.mono fun d1 e1 H1 F1 er1 mv1 h1 v hv => ⟨e1, F1, er1, h1.bind.mono fun d2 e2 H2 F2 er2 mv2 h2 w hw => ?_⟩⟩
  obtain ⟨d, hd, fin⟩ := h2.fin er2
  obtain ⟨r, hr, q⟩ := ho H2 F2 v w d1 d2 d er2.sub (Rp.rq er2.sub (Rp.mono mv2.sub _ _ hv)) (Rp.rq er2.sub hw) hd
  exact ⟨r, hr, q Q fun H' F' z al hz => fin H' F' al z hz⟩
theorem run2b {mb1 : M Bv} (ho : Op2 X f g) {σ : St} {H : Hp} (h : TV X.K X.mg T W (m2b g mb1 mb) σ H Q) : TBw X.K X.mg T W mb1 σ H fun x H1 => TV X.K X.mg T W mb σ H1 fun y H2 => ∃ r, OpR X f r ∧ r x y H2 Q := by
  obtain ⟨e, F, er, h⟩ := h
  refine ⟨e, F, er, h.bind.mono fun b1 e1 H1 F1 er1 mv1 h1 v hv => ⟨e1, F1, er1, h1.bind.mono fun d2 e2 H2 F2 er2 mv2 h2 w hw => ?_⟩⟩
  obtain ⟨d1, r1, h3⟩ := der_fin h2.bind er2 (hv.mono mv2.sub)
  obtain ⟨d, hd, fin⟩ := h3.fin er2
  obtain ⟨r, hr, q⟩ := ho H2 F2 v w d1 d2 d er2.sub r1 (Rp.rq er2.sub hw) hd
  exact ⟨r, hr, q Q fun H' F' z al hz => fin H' F' al z hz⟩
theorem run2r {mb2 : M Bv} (ho : Op2 X f g) {σ : St} {H : Hp} (h : TV X.K X.mg T W (m2r g ma mb2) σ H Q) : TV X.K X.mg T W ma σ H fun x H1 => TBw X.K X.mg T W mb2 σ H1 fun y H2 => ∃ r, OpR X f r ∧ r x y H2 Q := by
  obtain ⟨e, F, er, h⟩ := h
  refine ⟨e, F, er, h.bind.mono fun d1 e1 H1 F1 er1 mv1 h1 v hv => ⟨e1, F1, er1, h1.bind.mono fun b2 e2 H2 F2 er2 mv2 h2 w hw => ?_⟩⟩
  obtain ⟨d2, r2, h3⟩ := der_fin h2.bind er2 hw
  obtain ⟨d, hd, fin⟩ := h3.fin er2
  obtain ⟨r, hr, q⟩ := ho H2 F2 v w d1 d2 d er2.sub (Rp.rq er2.sub (Rp.mono mv2.sub _ _ hv)) r2 hd
  exact ⟨r, hr, q Q fun H' F' z al hz => fin H' F' al z hz⟩
end
def rAny (X : Cx) (f : Value → Value → Sem Value) : R2 := fun x y H Q => ∃ r, OpR X f r ∧ r x y H Q
theorem opAny {f : Value → Value → Sem Value} : OpR X f (rAny X f) := fun pins s σ H x y v u Q I rx ry ⟨r, hr, q⟩ => hr pins s σ H x y v u Q I rx ry q
theorem jv_bin {op : Operator} {g : D → D → Option D} (ho : Op2 X (binaryOp op) g) (ha : JV X T W a ma) (hb : JV X T W b mb) : JV X T W (.BinOp a op b pos) (m2 g ma mb) :=
  PEimp (pe_op opAny ha hb) fun σ H Q h => run2 ho h
theorem jv_cmp {op : CmpOp} {g : D → D → Option D} (ho : Op2 X (compareOp op) g) (ha : JV X T W a ma) (hb : JV X T W b mb) (hm : behindInMarks op b = false := by first | exact nomark _ | rfl) : JV X T W (.Compare a [op] [b] pos) (m2 g ma mb) :=
  PEimp (pe_cmpR opAny ha hb hm) fun σ H Q h => run2 ho h
theorem jv_cmpB {op : CmpOp} {g : D → D → Option D} {m1 : M Bv} (ho : Op2 X (compareOp op) g) (ha : JB X T W a m1) (hb : JV X T W b mb) (hm : behindInMarks op b = false := by first | exact nomark _ | rfl) : JV X T W (.Compare a [op] [b] pos) (m2b g m1 mb) :=
  PEimp (pe_cmpR opAny ha hb hm) fun σ H Q h => run2b ho h
theorem jv_cmpR {op : CmpOp} {g : D → D → Option D} {m1 : M Bv} (ho : Op2 X (compareOp op) g) (ha : JV X T W a ma) (hb : JB X T W b m1) (hm : behindInMarks op b = false := by first | exact nomark _ | rfl) : JV X T W (.Compare a [op] [b] pos) (m2r g ma m1) :=
  PEimp (pe_cmpR opAny ha hb hm) fun σ H Q h => run2r ho h
def asB : D → Option Bool
  | .bl b => some b
  | _ => none
def mT (m : M D) : M Bool := bnd m fun d => opt (asB d)
theorem runT {σ : St} {H : Hp} {Q : Bool → Hp → Prop} (h : TT' X.K X.mg T W (mT ma) σ H Q) : TV X.K X.mg T W ma σ H fun x H1 => ∃ k, x = .bl k ∧ Q k H1 := by
  obtain ⟨e, F, er, h⟩ := h
  refine ⟨e, F, er, h.bind.mono fun d e1 H1 F1 er1 mv1 h1 v hv => ?_⟩
  obtain ⟨k, hk, fin⟩ := h1.fin er1
  cases d <;> cases hk
  unfold Rp at hv
  exact ⟨_, hv, fin H1 F1 Al.refl⟩
theorem PTimp {e : Expr} {t t' : TT} (h : PT X e t) (k : ∀ σ H Q, t' σ H Q → t σ H Q) : PT X e t' := ⟨fun pins s σ H Q I q => h.run pins s σ H Q I (k σ H Q q)⟩
theorem PWimp {e : Expr} {t t' : TT} (h : PW X e t) (k : ∀ σ H Q, t' σ H Q → t σ H Q) : PW X e t' := ⟨fun wh pins s σ H Q I q => h.run wh pins s σ H Q I (k σ H Q q)⟩
theorem jt_cmp {op : CmpOp} {g : D → D → Option D} (ho : Op2 X (compareOp op) g) (ha : JV X T W a ma) (hb : JV X T W b mb) (hm : behindInMarks op b = false := by first | exact nomark _ | rfl) : JT X T W (.Compare a [op] [b] pos) (mT (m2 g ma mb)) :=
  PTimp (pt_cmpR opAny ha hb hm) fun σ H Q h => run2 ho (runT h)
theorem jt_cmpB {op : CmpOp} {g : D → D → Option D} {m1 : M Bv} (ho : Op2 X (compareOp op) g) (ha : JB X T W a m1) (hb : JV X T W b mb) (hm : behindInMarks op b = false := by first | exact nomark _ | rfl) : JT X T W (.Compare a [op] [b] pos) (mT (m2b g m1 mb)) :=
  PTimp (pt_cmpR opAny ha hb hm) fun σ H Q h => run2b ho (runT h)
theorem jt_cmpR {op : CmpOp} {g : D → D → Option D} {m1 : M Bv} (ho : Op2 X (compareOp op) g) (ha : JV X T W a ma) (hb : JB X T W b m1) (hm : behindInMarks op b = false := by first | exact nomark _ | rfl) : JT X T W (.Compare a [op] [b] pos) (mT (m2r g ma m1)) :=
  PTimp (pt_cmpR opAny ha hb hm) fun σ H Q h => run2r ho (runT h)
def mChain (g g' : D → D → Option D) (ma mb mc : M D) : M D := bnd ma fun d1 => bnd mb fun d2 => bnd (opt ((g d1 d2).bind asB)) fun k => if k = true then bnd mc fun d3 => opt (g' d2 d3) else ret (.bl false)
theorem runChain {op op' : CmpOp} {g g' : D → D → Option D} {Q : VK} {σ : St} {H : Hp} (ho : Op2 X (compareOp op) g) (ho' : Op2 X (compareOp op') g') (h : TV X.K X.mg T W (mChain g g' ma mb mc) σ H Q) :
    tChain (rAny X (compareOp op)) (rAny X (compareOp op')) (TV X.K X.mg T W ma) (TV X.K X.mg T W mb) (TV X.K X.mg T W mc) σ H Q := by
  obtain ⟨e, F, er, h⟩ := h
  refine ⟨e, F, er, h.bind.mono fun d1 e1 H1 F1 er1 mv1 h1 v hv => ⟨e1, F1, er1, h1.bind.mono fun d2 e2 H2 F2 er2 mv2 h2 w hw => ?_⟩⟩
  obtain ⟨k, hk, fin⟩ := h2.bind.fin er2
  cases hg : g d1 d2 with
  | none => rw [hg] at hk; cases hk
  | some d =>
    rw [hg] at hk
    obtain ⟨r, hr, q⟩ := ho H2 F2 v w d1 d2 d er2.sub (Rp.rq er2.sub (Rp.mono mv2.sub _ _ hv)) (Rp.rq er2.sub hw) hg
    refine ⟨r, hr, q _ fun H' F' z al hz => ?_⟩
    cases d <;> cases hk
    unfold Rp at hz
    have er3 := er2.al al
    have s3 : Same F2 F' := (al.same er2.sub).1
    refine ⟨k, hz, ?_⟩
    have h3 := fin H' F' al
    cases k with
    | false =>
      rw [if_neg (by decide)] at h3 ⊢
      exact h3.rfin er3 H' F' Al.refl _ (by unfold Rp; rfl)
    | true =>
      rw [if_pos rfl] at h3 ⊢
      refine ⟨e2, F', er3, h3.bind.mono fun d3 e4 H4 F4 er4 mv4 h4 y hy => ?_⟩
      obtain ⟨d', hd', fin'⟩ := h4.fin er4
      obtain ⟨r', hr', q'⟩ := ho' H4 F4 w y d2 d3 d' er4.sub (Rp.rq er4.sub (Rp.mono (s3.trans mv4.sub) _ _ hw)) (Rp.rq er4.sub hy) hd'
      exact ⟨r', hr', q' Q fun H' F' z al hz => fin' H' F' al z hz⟩
theorem jv_chain {op op' : CmpOp} {g g' : D → D → Option D} (ho : Op2 X (compareOp op) g) (ho' : Op2 X (compareOp op') g') (ha : JV X T W a ma) (hb : JV X T W b mb) (hc : JV X T W c mc)
    (hm : lastMarks [op, op'] [b, c] = false := by with_unfolding_all rfl) : JV X T W (.Compare a [op, op'] [b, c] pos) (mChain g g' ma mb mc) :=
  PEimp (pe_chain opAny opAny ha hb hc hm) fun σ H Q h => runChain ho ho' h
theorem jt_chain {op op' : CmpOp} {g g' : D → D → Option D} (ho : Op2 X (compareOp op) g) (ho' : Op2 X (compareOp op') g') (ha : JV X T W a ma) (hb : JV X T W b mb) (hc : JV X T W c mc)
    (hm : lastMarks [op, op'] [b, c] = false := by with_unfolding_all rfl) : JT X T W (.Compare a [op, op'] [b, c] pos) (mT (mChain g g' ma mb mc)) :=
  PTimp (pt_chain opAny opAny ha hb hc hm) fun σ H Q h => runChain ho ho' (runT h)
def mAnd (m m' : M Bool) : M Bool := bnd m fun k => if k = true then m' else ret false
def mOr (m m' : M Bool) : M Bool := bnd m fun k => if k = true then ret true else m'
def mNot (m : M Bool) : M Bool := bnd m fun k => ret (!k)
variable {rest : List Expr} {n n' : M Bool}
theorem jw_and1 (ha : JT X T W a n) : JW X T W (.BoolOp .And [a] pos) n := pw_and1 ha
theorem jw_or1 (ha : JT X T W a n) : JW X T W (.BoolOp .Or [a] pos) n := pw_or1 ha
theorem jw_and (ha : JT X T W a n) (hb : JW X T W (.BoolOp .And (b :: rest) pos) n') : JW X T W (.BoolOp .And (a :: b :: rest) pos) (mAnd n n') := by
  refine PWimp (pw_and ha hb) fun σ H Q ⟨e, F, er, h⟩ => ⟨e, F, er, h.bind.mono fun k e1 H1 F1 er1 mv1 h1 => ?_⟩
  cases k with
  | true => rw [if_pos rfl] at h1 ⊢; exact ⟨e1, F1, er1, h1⟩
  | false => rw [if_neg (by decide)] at h1 ⊢; exact h1.rfin er1 H1 F1 Al.refl
theorem jw_or (ha : JT X T W a n) (hb : JW X T W (.BoolOp .Or (b :: rest) pos) n') : JW X T W (.BoolOp .Or (a :: b :: rest) pos) (mOr n n') := by
  refine PWimp (pw_or ha hb) fun σ H Q ⟨e, F, er, h⟩ => ⟨e, F, er, h.bind.mono fun k e1 H1 F1 er1 mv1 h1 => ?_⟩
  cases k with
  | false => rw [if_neg (by decide)] at h1 ⊢; exact ⟨e1, F1, er1, h1⟩
  | true => rw [if_pos rfl] at h1 ⊢; exact h1.rfin er1 H1 F1 Al.refl
theorem ofW (h : JW X T W a n) : JT X T W a n := h.pt
theorem jt_not (ha : JT X T W a n) : JT X T W (.UnaryOp .Not a pos) (mNot n) :=
  PTimp (pt_not ha) fun σ H Q ⟨e, F, er, h⟩ => ⟨e, F, er, h.bind.mono fun k e1 H1 F1 er1 mv1 h1 => h1.rfin er1 H1 F1 Al.refl⟩
def mAndV (m m' : M D) : M D := bnd m fun d => bnd (opt (asB d)) fun k => if k = true then m' else ret (.bl false)
def mOrV (m m' : M D) : M D := bnd m fun d => bnd (opt (asB d)) fun k => if k = true then ret (.bl true) else m'
def mNotV (m : M D) : M D := bnd m fun d => opt ((asB d).map fun k => .bl (!k))
theorem jv_one {op} (h : JV X T W a ma) : JV X T W (.BoolOp op [a] pos) ma := pe_one h
theorem jv_and (ha : JV X T W a ma) (hb : JV X T W (.BoolOp .And (b :: rest) pos) mb) : JV X T W (.BoolOp .And (a :: b :: rest) pos) (mAndV ma mb) := by
  refine PEimp (pe_and ha hb) fun σ H Q ⟨e, F, er, h⟩ => ⟨e, F, er, h.bind.mono fun d e1 H1 F1 er1 mv1 h1 v hv => ?_⟩
  obtain ⟨k, hk, fin⟩ := h1.bind.fin er1
  cases d <;> cases hk
  unfold Rp at hv
  refine ⟨k, hv, ?_⟩
  have h2 := fin H1 F1 Al.refl
  cases k with
  | true => rw [if_pos rfl] at h2 ⊢; exact ⟨e1, F1, er1, h2⟩
  | false => rw [if_neg (by decide)] at h2 ⊢; exact h2.rfin er1 H1 F1 Al.refl _ (by unfold Rp; rfl)
theorem jv_or (ha : JV X T W a ma) (hb : JV X T W (.BoolOp .Or (b :: rest) pos) mb) : JV X T W (.BoolOp .Or (a :: b :: rest) pos) (mOrV ma mb) := by
  refine PEimp (pe_or ha hb) fun σ H Q ⟨e, F, er, h⟩ => ⟨e, F, er, h.bind.mono fun d e1 H1 F1 er1 mv1 h1 v hv => ?_⟩
  obtain ⟨k, hk, fin⟩ := h1.bind.fin er1
  cases d <;> cases hk
  unfold Rp at hv
  refine ⟨k, hv, ?_⟩
  have h2 := fin H1 F1 Al.refl
  cases k with
  | false => rw [if_neg (by decide)] at h2 ⊢; exact ⟨e1, F1, er1, h2⟩
  | true => rw [if_pos rfl] at h2 ⊢; exact h2.rfin er1 H1 F1 Al.refl _ (by unfold Rp; rfl)
theorem jv_not (ha : JV X T W a ma) : JV X T W (.UnaryOp .Not a pos) (mNotV ma) := by
  refine PEimp (pe_not ha) fun σ H Q ⟨e, F, er, h⟩ => ⟨e, F, er, h.bind.mono fun d e1 H1 F1 er1 mv1 h1 v hv => ?_⟩
  obtain ⟨z, hz, fin⟩ := h1.fin er1
  cases d <;> cases hz
  unfold Rp at hv
  exact ⟨_, hv, fin H1 F1 Al.refl _ (by unfold Rp; rfl)⟩
def mIf (n : M Bool) (ma mb : M D) : M D := bnd n fun k => if k = true then ma else mb
theorem jv_if {c : Expr} (hc : JT X T W c n) (ha : JV X T W a ma) (hb : JV X T W b mb) : JV X T W (.IfExp c a b pos) (mIf n ma mb) := by
  refine PEimp (pe_ifExp hc ha hb) fun σ H Q ⟨e, F, er, h⟩ => ⟨e, F, er, h.bind.mono fun k e1 H1 F1 er1 mv1 h1 => ?_⟩
  cases k with
  | true => rw [if_pos rfl] at h1 ⊢; exact ⟨e1, F1, er1, h1⟩
  | false => rw [if_neg (by decide)] at h1 ⊢; exact ⟨e1, F1, er1, h1⟩
def dTru : D → Option Bool
  | .non => some false
  | .bl b => some b
  | .int i => some (i != 0)
  | .str y => if y.length ≤ sizeLine then some ((y.length : Int) != 0) else none
  | .lst ds => some (!ds.isEmpty)
  | .tup ds => some (!ds.isEmpty)
  | .dk ds => some (!ds.isEmpty)
  | _ => none
theorem RpL.isEmpty {K : PySem.W.Frag} {mg : Str → Option Value} {F : Hp} {ds : List D} {xs : List V} (h : RpL K mg F ds xs) : ds.isEmpty = xs.isEmpty := by
  cases ds with
  | nil => unfold RpL at h; subst h; rfl
  | cons d ds => unfold RpL at h; obtain ⟨v, vs, rfl, _⟩ := h; rfl
theorem RpK.isEmpty {K : PySem.W.Frag} {mg : Str → Option Value} {F : Hp} {ds : List (Key × D)} {xs : List (Key × V)} (h : RpK K mg F ds xs) : ds.isEmpty = xs.isEmpty := by
  cases ds with
  | nil => unfold RpK at h; subst h; rfl
  | cons d ds => obtain ⟨k, d⟩ := d; unfold RpK at h; obtain ⟨v, vs, rfl, _⟩ := h; rfl
theorem dTru_ok {H F : Hp} {d : D} {v : V} {k : Bool} (s : Same F H) (r : Rq X.K X.mg H F d v) (h : dTru d = some k) : TruV X.K v H k := by
  cases d with
  | non => unfold Rq Rp at r; subst r; simp only [dTru, Option.some.injEq] at h; subst h; rfl
  | bl b => unfold Rq Rp at r; subst r; simp only [dTru, Option.some.injEq] at h; subst h; rfl
  | int i => unfold Rq Rp at r; subst r; simp only [dTru, Option.some.injEq] at h; subst h; rfl
  | str y =>
    unfold Rq Rp at r; subst r
    simp only [dTru] at h
    split at h
    · rename_i hz; cases h; exact ⟨hz, rfl⟩
    · cases h
  | byt b => cases h
  | lst ds =>
    obtain ⟨a, xs, rfl, q, r⟩ := r
    simp only [dTru, Option.some.injEq] at h; subst h
    exact .inl ⟨xs, SqL.of q, by rw [r.isEmpty]⟩
  | tup ds =>
    unfold Rq Rp at r
    obtain ⟨a, xs, rfl, q, r⟩ := r
    simp only [dTru, Option.some.injEq] at h; subst h
    exact .inr (.inl ⟨xs, seqT_mono s q, by rw [r.isEmpty]⟩)
  | dk ds =>
    obtain ⟨a, xs, rfl, q, r⟩ := r
    simp only [dTru, Option.some.injEq] at h; subst h
    exact .inr (.inr ⟨xs, q, by rw [r.isEmpty]⟩)
  | dt ds => cases h
  | obj c fs => cases h
  | scr ns => cases h
  | ct ds => cases h
def mTru (m : M Bv) : M Bool := bnd m fun b => bnd (der b) fun d => opt (dTru d)
theorem jt_truth {m : M Bv} (ha : JB X T W a m) (he : ∀ whole, isTrue a X.env whole = (do let v ← whole; standAt a.pos; holding [v] (truthy v)) := by intro _; rfl) : JT X T W a (mTru m) := by
  refine PTimp (pt_truth ha he) fun σ H Q ⟨e, F, er, h⟩ => ⟨e, F, er, h.bind.mono fun b e1 H1 F1 er1 mv1 h1 v hv => ?_⟩
  obtain ⟨d, r1, h3⟩ := der_fin h1.bind er1 hv
  obtain ⟨k, hk, fin⟩ := h3.fin er1
  exact ⟨k, dTru_ok er1.sub r1 hk, fin H1 F1 Al.refl⟩
theorem jt_val (ha : JV X T W a ma) (he : ∀ whole, isTrue a X.env whole = (do let v ← whole; standAt a.pos; holding [v] (truthy v)) := by intro _; rfl) : JT X T W a (mT ma) :=
  PTimp (pt_val ha he) fun σ H Q h => runT h
def mNil : M (List D) := ret []
def mCons (m : M D) (ms : M (List D)) : M (List D) := bnd m fun d => bnd ms fun ds => ret (d :: ds)
theorem PAimp {es : List Expr} {t t' : TA} (h : PA X es t) (k : ∀ σ H Q, t' σ H Q → t σ H Q) : PA X es t' := ⟨fun pos pins s σ H Q I q => h.run pos pins s σ H Q I (k σ H Q q)⟩
theorem ja_nil : JA X T W [] mNil := PAimp pa_nil fun σ H Q ⟨e, F, er, h⟩ => h.rfin er H F Al.refl _ (by unfold RpL; rfl)
theorem ja_cons {e : Expr} {es : List Expr} {m : M D} {ms : M (List D)} (ha : JV X T W e m) (hr : JA X T W es ms) (hs : starEach (e :: es) X.env = (false, eval e X.env) :: starEach es X.env := by rfl) : JA X T W (e :: es) (mCons m ms) := by
  refine PAimp (pa_cons ha hr hs) fun σ H Q ⟨e, F, er, h⟩ => ⟨e, F, er, h.bind.mono fun d e1 H1 F1 er1 mv1 h1 v hv => ⟨e1, F1, er1, h1.bind.mono fun ds e2 H2 F2 er2 mv2 h2 vs hvs => ?_⟩⟩
  exact h2.rfin er2 H2 F2 Al.refl _ (by unfold RpL; exact ⟨v, vs, rfl, Rp.mono mv2.sub _ _ hv, hvs⟩)
theorem RpL.len {K : PySem.W.Frag} {mg : Str → Option Value} {F : Hp} : ∀ {ds : List D} {xs : List V}, RpL K mg F ds xs → ds.length = xs.length
  | [], xs, h => by unfold RpL at h; subst h; rfl
  | d :: ds, xs, h => by unfold RpL at h; obtain ⟨v, vs, rfl, _, q⟩ := h; rw [List.length_cons, List.length_cons, q.len]
def mTup (ms : M (List D)) : M D := bnd ms fun ds => opt (if ds.length ≤ sizeLine then some (.tup ds) else none)
def mLst (ms : M (List D)) : M D := bnd ms fun ds => opt (if ds.length ≤ sizeLine then some (.lst ds) else none)
theorem jv_tup {es : List Expr} {x1} {ms : M (List D)} (h : JA X T W es ms) : JV X T W (.Tuple es x1 pos) (mTup ms) := by
  refine PEimp (pe_tup h) fun σ H Q ⟨e, F, er, h⟩ => ⟨e, F, er, h.bind.mono fun ds e1 H1 F1 er1 mv1 h1 vs hvs => ?_⟩
  obtain ⟨d, hd, fin⟩ := h1.fin er1
  split at hd
  · rename_i hz
    cases hd
    refine ⟨by rw [← hvs.len]; exact hz, fun p hp => fin _ _ (Al.one hp) _ ?_⟩
    unfold Rp
    exact ⟨p, vs, rfl, upd_same, RpL.mono (same_upd (er1.sub.free hp)) _ _ hvs⟩
  · cases hd
end
theorem RunAt.new {K : PySem.W.Frag} {mg : Str → Option Value} {T : Pn} {W : WX} {e : En} {σ : St} {H F : Hp} {d : D} {P : D → En → Hp → Hp → Prop} {p : Addr} {o : HO} (h : RunAt K mg T W e F (ret d) σ H P) (er : ER K mg T e σ H F) (hp : H p = none) : P d e (upd H p o) F := by
  have s : Same H (upd H p o) := same_upd hp
  refine h _ F ⟨er.sub.trans s, er.val, fun i d q => ?_, er.inj, er.len, er.pin⟩ ⟨Same.refl _, fun a u q n => ⟨s a u q, n⟩, fun a u q => .inl q, fun a q => s.free q⟩
  obtain ⟨p', h1, h2, h3⟩ := er.own i d q
  exact ⟨p', h1, h2, h3.keep (Same.refl _) (s p')⟩
section
variable {X : Cx} {T : Pn} {W : WX} {pos : Pos} {a b c : Expr} {ma mb mc : M D}
theorem jo_lst {es : List Expr} {ms : M (List D)} (h : JA X T W es ms) : JO X T W (.List es pos) (mLst ms) := by
  refine PEimp (pe_lst h) fun σ H Q ⟨e, F, er, h⟩ => ⟨e, F, er, h.bind.mono fun ds e1 H1 F1 er1 mv1 h1 vs hvs => ?_⟩
  unfold opt at h1
  split at h1
  · rename_i d hd
    split at hd
    · rename_i hz
      cases hd
      refine ⟨by rw [← hvs.len]; exact hz, fun p hp => ?_⟩
      exact (h1.new er1 hp) p (mv1.there p hp) (er1.sub.free hp) (Ow.ne_of_free er1 hp) ⟨vs, upd_same, hvs⟩
    · cases hd
  · exact h1.elim
end
end Sr
namespace Sr
open PySem PySem.Spec L2
open PyProof.Rows hiding St
section
variable {K : PySem.W.Frag} {mg : Str → Option Value} {F H : Hp}
theorem rp_int {i : Int} {v : V} : Rp K mg F (.int i) v ↔ v = .int i := by unfold Rp; exact Iff.rfl
theorem rp_str {x : Str} {v : V} : Rp K mg F (.str x) v ↔ v = .str x := by unfold Rp; exact Iff.rfl
theorem rp_bl {x : Bool} {v : V} : Rp K mg F (.bl x) v ↔ v = .bl x := by unfold Rp; exact Iff.rfl
theorem rp_non {v : V} : Rp K mg F .non v ↔ v = .non := by unfold Rp; exact Iff.rfl
theorem rp_byt {x : Array UInt8} {v : V} : Rp K mg F (.byt x) v ↔ v = .byt x := by unfold Rp; exact Iff.rfl
theorem rq_int {i : Int} {v : V} : Rq K mg H F (.int i) v ↔ v = .int i := by unfold Rq Rp; exact Iff.rfl
theorem rq_str {x : Str} {v : V} : Rq K mg H F (.str x) v ↔ v = .str x := by unfold Rq Rp; exact Iff.rfl
theorem rq_bl {x : Bool} {v : V} : Rq K mg H F (.bl x) v ↔ v = .bl x := by unfold Rq Rp; exact Iff.rfl
theorem rq_non {v : V} : Rq K mg H F .non v ↔ v = .non := by unfold Rq Rp; exact Iff.rfl
theorem rq_byt {x : Array UInt8} {v : V} : Rq K mg H F (.byt x) v ↔ v = .byt x := by unfold Rq Rp; exact Iff.rfl
theorem rq_tup {ds : List D} {v : V} : Rq K mg H F (.tup ds) v ↔ ∃ a xs, v = .ref a ∧ F a = some (.tup xs) ∧ RpL K mg F ds xs := by
  show Rp K mg F (.tup ds) v ↔ _
  rw [Rp]
theorem rq_scr {ns : List Int} {v : V} : Rq K mg H F (.scr ns) v ↔ ∃ a, v = .ref a ∧ SqL K F a (ns.map V.int) := by
  show Rp K mg F (.scr ns) v ↔ _
  rw [Rp]
theorem rp_lst {ds : List D} {v : V} : Rp K mg F (.lst ds) v ↔ ∃ a xs, v = .ref a ∧ F a = some (.lst xs) ∧ RpL K mg F ds xs := by rw [Rp]
theorem rp_tup {ds : List D} {v : V} : Rp K mg F (.tup ds) v ↔ ∃ a xs, v = .ref a ∧ F a = some (.tup xs) ∧ RpL K mg F ds xs := by rw [Rp]
theorem rp_ct {ds : List D} {v : V} : Rp K mg F (.ct ds) v ↔ ∃ a xs, v = .ref a ∧ SqT K F a xs ∧ RpL K mg F ds xs := by rw [Rp]
theorem rq_ct {ds : List D} {v : V} : Rq K mg H F (.ct ds) v ↔ ∃ a xs, v = .ref a ∧ SqT K F a xs ∧ RpL K mg F ds xs := by
  show Rp K mg F (.ct ds) v ↔ _
  rw [Rp]
theorem rp_dk {ds : List (Key × D)} {v : V} : Rp K mg F (.dk ds) v ↔ ∃ a xs, v = .ref a ∧ F a = some (.dK xs) ∧ RpK K mg F ds xs := by rw [Rp]
theorem rp_obj {c : Str} {fs : List (Str × D)} {v : V} : Rp K mg F (.obj c fs) v ↔ ∃ a C dx gs, v = .ref a ∧ mg c = some (.ref C) ∧ F a = some (.ins C dx gs) ∧ RpF K mg F fs gs := by rw [Rp]
theorem rp_scr {ns : List Int} {v : V} : Rp K mg F (.scr ns) v ↔ ∃ a, v = .ref a ∧ SqL K F a (ns.map V.int) := by rw [Rp]
theorem rl_nil {xs : List V} : RpL K mg F [] xs ↔ xs = [] := by rw [RpL]
theorem rl_cons {d : D} {ds : List D} {xs : List V} : RpL K mg F (d :: ds) xs ↔ ∃ v vs, xs = v :: vs ∧ Rp K mg F d v ∧ RpL K mg F ds vs := by rw [RpL]
theorem RpL.get : ∀ {ds : List D} {xs : List V} {i : Nat} {d : D}, RpL K mg F ds xs → ds[i]? = some d → ∃ v, xs[i]? = some v ∧ Rp K mg F d v
  | [], _, _, _, _, e => by simp at e
  | d :: ds, xs, 0, d', h, e => by
    rw [rl_cons] at h
    obtain ⟨v, vs, rfl, r, _⟩ := h
    simp at e; subst e
    exact ⟨v, rfl, r⟩
  | d :: ds, xs, i + 1, d', h, e => by
    rw [rl_cons] at h
    obtain ⟨v, vs, rfl, _, q⟩ := h
    simp at e
    obtain ⟨w, h1, h2⟩ := RpL.get (i := i) q e
    exact ⟨w, by simpa using h1, h2⟩
theorem RpL.append : ∀ {ds es : List D} {xs ys : List V}, RpL K mg F ds xs → RpL K mg F es ys → RpL K mg F (ds ++ es) (xs ++ ys)
  | [], es, xs, ys, h, q => by rw [rl_nil] at h; subst h; exact q
  | d :: ds, es, xs, ys, h, q => by
    rw [rl_cons] at h
    obtain ⟨v, vs, rfl, r, h⟩ := h
    rw [List.cons_append, rl_cons]
    exact ⟨v, vs ++ ys, rfl, r, RpL.append h q⟩
theorem RpL.take : ∀ (n : Nat) {ds : List D} {xs : List V}, RpL K mg F ds xs → RpL K mg F (ds.take n) (xs.take n)
  | 0, ds, xs, h => by simp [rl_nil]
  | n + 1, [], xs, h => by rw [rl_nil] at h; subst h; simp [rl_nil]
  | n + 1, d :: ds, xs, h => by
    rw [rl_cons] at h
    obtain ⟨v, vs, rfl, r, h⟩ := h
    rw [List.take_succ_cons, rl_cons]
    exact ⟨v, vs.take n, by simp, r, RpL.take n h⟩
theorem RpL.drop : ∀ (n : Nat) {ds : List D} {xs : List V}, RpL K mg F ds xs → RpL K mg F (ds.drop n) (xs.drop n)
  | 0, ds, xs, h => h
  | n + 1, [], xs, h => by rw [rl_nil] at h; subst h; simp [rl_nil]
  | n + 1, d :: ds, xs, h => by
    rw [rl_cons] at h
    obtain ⟨v, vs, rfl, r, h⟩ := h
    simp only [List.drop_succ_cons]
    exact RpL.drop n h
theorem RpL.set {d : D} {v : V} (r : Rp K mg F d v) : ∀ (i : Nat) {ds : List D} {xs : List V}, RpL K mg F ds xs → RpL K mg F (ds.set i d) (xs.set i v)
  | _, [], xs, h => by rw [rl_nil] at h; subst h; simp [rl_nil]
  | 0, d' :: ds, xs, h => by
    rw [rl_cons] at h
    obtain ⟨w, vs, rfl, _, h⟩ := h
    rw [List.set_cons_zero, List.set_cons_zero, rl_cons]
    exact ⟨v, vs, rfl, r, h⟩
  | i + 1, d' :: ds, xs, h => by
    rw [rl_cons] at h
    obtain ⟨w, vs, rfl, r', h⟩ := h
    rw [List.set_cons_succ, List.set_cons_succ, rl_cons]
    exact ⟨w, vs.set i v, rfl, r', RpL.set r i h⟩
theorem RpL.ints : ∀ {ns : List Int} {xs : List V}, RpL K mg F (ns.map D.int) xs → xs = ns.map V.int
  | [], xs, h => by simpa [rl_nil] using h
  | n :: ns, xs, h => by
    rw [List.map_cons, rl_cons] at h
    obtain ⟨v, vs, rfl, r, h⟩ := h
    rw [rp_int] at r; subst r
    rw [RpL.ints h, List.map_cons]
end
section
variable {X : Cx}
def gI (c : Int → Int → Bool) (f : Int → Int → D) : D → D → Option D
  | .int i, .int j => if c i j = true then some (f i j) else none
  | _, _ => none
def gI0 (f : Int → Int → D) : D → D → Option D
  | .int i, .int j => some (f i j)
  | _, _ => none
theorem op2_i {f : Value → Value → Sem Value} {C : Int → Int → Prop} {c : Int → Int → Bool} {g : Int → Int → V} {g' : Int → Int → D} (ho : OpR X f (rI C g)) (hc : ∀ i j, c i j = true → C i j) (hg : ∀ i j F, Rp X.K X.mg F (g' i j) (g i j)) : Op2 X f (gI c g') := by
  intro H F x y d1 d2 d s r1 r2 e
  unfold gI at e
  split at e
  · rename_i i j
    split at e
    · rename_i hcc
      cases e
      rw [rq_int] at r1 r2
      exact ⟨_, ho, fun Q q => ⟨i, j, r1, r2, hc i j hcc, q H F _ Al.refl (hg i j F)⟩⟩
    · cases e
  · cases e
theorem op2_i0 {f : Value → Value → Sem Value} {g : Int → Int → V} {g' : Int → Int → D} (ho : OpR X f (rI0 g)) (hg : ∀ i j F, Rp X.K X.mg F (g' i j) (g i j)) : Op2 X f (gI0 g') := by
  intro H F x y d1 d2 d s r1 r2 e
  unfold gI0 at e
  split at e
  · rename_i i j
    cases e
    rw [rq_int] at r1 r2
    exact ⟨_, ho, fun Q q => ⟨i, j, r1, r2, q H F _ Al.refl (hg i j F)⟩⟩
  · cases e
def gSub : D → D → Option D := gI0 fun i j => .int (i - j)
def cMul (i j : Int) : Bool := (decide (-(2 ^ 64) < i) && decide (i < 2 ^ 64)) || (decide (-(2 ^ 64) < j) && decide (j < 2 ^ 64))
def gMulI : D → D → Option D := gI cMul fun i j => .int (i * j)
def cDiv (_ j : Int) : Bool := decide (0 < j) && decide (j < 1073741824)
def gDiv : D → D → Option D := gI cDiv fun i j => .int (i / j)
def gMod : D → D → Option D := gI (fun _ j => decide (0 < j)) fun i j => .int (i % j)
def cPow (i j : Int) : Bool := decide (0 ≤ j) && decide (j ≤ 1000000) && decide (i.natAbs < 2 ^ 64)
def gPow : D → D → Option D := gI cPow fun i j => .int (i ^ j.toNat)
def gShl : D → D → Option D := gI cPow fun i j => .int (i * 2 ^ j.toNat)
def gShr : D → D → Option D := gI (fun _ j => decide (0 ≤ j)) fun i j => .int (i / 2 ^ j.toNat)
def gAndI : D → D → Option D := gI0 fun i j => .int (Builtin.bitAnd i j)
theorem o_sub : Op2 X (binaryOp .Sub) gSub := op2_i0 op_sub fun _ _ _ => by rw [rp_int]
theorem o_mulI : Op2 X (binaryOp .Mult) gMulI := op2_i op_mul (fun i j h => by
  unfold cMul at h
  simp only [Bool.or_eq_true, Bool.and_eq_true, decide_eq_true_eq] at h
  exact h) fun _ _ _ => by rw [rp_int]
theorem o_div : Op2 X (binaryOp .FloorDiv) gDiv := op2_i op_fdiv (fun i j h => by
  unfold cDiv at h
  simp only [Bool.and_eq_true, decide_eq_true_eq] at h
  exact h) fun _ _ _ => by rw [rp_int]
theorem o_mod : Op2 X (binaryOp .Mod) gMod := op2_i op_mod (fun i j h => of_decide_eq_true h) fun _ _ _ => by rw [rp_int]
theorem o_pow : Op2 X (binaryOp .Pow) gPow := op2_i op_pow (fun i j h => by
  unfold cPow at h
  simp only [Bool.and_eq_true, decide_eq_true_eq] at h
  exact ⟨h.1.1, h.1.2, h.2⟩) fun _ _ _ => by rw [rp_int]
theorem o_shl : Op2 X (binaryOp .LShift) gShl := op2_i op_shl (fun i j h => by
  unfold cPow at h
  simp only [Bool.and_eq_true, decide_eq_true_eq] at h
  exact ⟨h.1.1, h.1.2, h.2⟩) fun _ _ _ => by rw [rp_int]
theorem o_shr : Op2 X (binaryOp .RShift) gShr := op2_i op_shr (fun i j h => of_decide_eq_true h) fun _ _ _ => by rw [rp_int]
theorem o_andI : Op2 X (binaryOp .BitAnd) gAndI := op2_i0 op_and fun _ _ _ => by rw [rp_int]
theorem o_lt : Op2 X (compareOp .Lt) (gI0 fun i j => .bl (decide (i < j))) := op2_i0 op_lt fun _ _ _ => by rw [rp_bl]
theorem o_le : Op2 X (compareOp .LtE) (gI0 fun i j => .bl (decide (i ≤ j))) := op2_i0 op_le fun _ _ _ => by rw [rp_bl]
theorem o_gt : Op2 X (compareOp .Gt) (gI0 fun i j => .bl (decide (j < i))) := op2_i0 op_gt fun _ _ _ => by rw [rp_bl]
theorem o_ge : Op2 X (compareOp .GtE) (gI0 fun i j => .bl (decide (j ≤ i))) := op2_i0 op_ge fun _ _ _ => by rw [rp_bl]
def gAddI : D → D → Option D := gI0 fun i j => .int (i + j)
def gAddS : D → D → Option D
  | .str x, .str y => if x.length + y.length ≤ sizeLine then some (.str (x ++ y)) else none
  | _, _ => none
def gAddT : D → D → Option D
  | .tup xs, .tup ys => if xs.length + ys.length ≤ sizeLine then some (.tup (xs ++ ys)) else none
  | _, _ => none
def gAddL : D → D → Option D
  | .lst xs, .lst ys => if xs.length + ys.length ≤ sizeLine then some (.lst (xs ++ ys)) else none
  | _, _ => none
theorem o_addI : Op2 X (binaryOp .Add) gAddI := op2_i0 op_add fun _ _ _ => by rw [rp_int]
theorem o_addS : Op2 X (binaryOp .Add) gAddS := by
  intro H F x y d1 d2 d s r1 r2 e
  unfold gAddS at e
  split at e
  · split at e
    · rename_i hz
      cases e
      rw [rq_str] at r1 r2
      exact ⟨_, op_add_str, fun Q q => ⟨_, _, r1, r2, hz, q H F _ Al.refl (by rw [rp_str])⟩⟩
    · cases e
  · cases e
theorem o_addT : Op2 X (binaryOp .Add) gAddT := by
  intro H F x y d1 d2 d s r1 r2 e
  unfold gAddT at e
  split at e
  · split at e
    · rename_i ds es hz
      cases e
      rw [rq_tup] at r1 r2
      obtain ⟨a, xs, rfl, q1, l1⟩ := r1
      obtain ⟨b, ys, rfl, q2, l2⟩ := r2
      have hT : ∀ p, H p = none → Rp X.K X.mg (upd F p (.tup (xs ++ ys))) (.tup (ds ++ es)) (.ref p) := fun p hp => by
        rw [rp_tup]
        exact ⟨p, _, rfl, upd_same, RpL.mono (same_upd (s.free hp)) _ _ (l1.append l2)⟩
      refine ⟨_, op_catA, fun Q q => ⟨a, b, xs, ys, rfl, rfl, seqT_mono s q1, seqT_mono s q2, by rw [← l1.len, ← l2.len]; exact hz, fun e0 => ?_, fun _ e0 => ?_, fun _ _ p hp => q _ _ _ (Al.one hp) (hT p hp)⟩⟩
      · subst e0
        have e1 : ds = [] := List.length_eq_zero_iff.mp (by rw [l1.len]; rfl)
        subst e1
        refine q H F _ Al.refl ?_
        rw [rp_tup]
        exact ⟨b, ys, rfl, q2, l2⟩
      · subst e0
        have e1 : es = [] := List.length_eq_zero_iff.mp (by rw [l2.len]; rfl)
        subst e1
        rw [List.append_nil] at q
        refine q H F _ Al.refl ?_
        rw [rp_tup]
        exact ⟨a, xs, rfl, q1, l1⟩
    · cases e
  · cases e
theorem o_addL : Op2 X (binaryOp .Add) gAddL := by
  intro H F x y d1 d2 d s r1 r2 e
  unfold gAddL at e
  split at e
  · split at e
    · rename_i ds es hz
      cases e
      obtain ⟨a, xs, rfl, q1, l1⟩ := r1
      obtain ⟨b, ys, rfl, q2, l2⟩ := r2
      refine ⟨_, op_cat, fun Q q => ⟨a, b, xs, ys, rfl, rfl, q1, q2, by rw [← l1.len, ← l2.len]; exact hz, fun p hp => q _ _ _ (Al.one hp) ?_⟩⟩
      rw [rp_lst]
      exact ⟨p, _, rfl, upd_same, RpL.mono (same_upd (s.free hp)) _ _ (l1.append l2)⟩
    · cases e
  · cases e
def gAdd : D → D → Option D := fun a b => (gAddI a b).or ((gAddS a b).or ((gAddT a b).or (gAddL a b)))
theorem o_add : Op2 X (binaryOp .Add) gAdd := o_addI.or (o_addS.or (o_addT.or o_addL))
mutual
def toP : D → Option PyData
  | .non => some .none
  | .bl b => some (.bool b)
  | .int i => some (.int i)
  | .str x => some (.str x)
  | .lst ds => (toPL ds).map PyData.list
  | .tup ds => (toPL ds).map PyData.tuple
  | _ => none
def toPL : List D → Option (List PyData)
  | [] => some []
  | d :: ds => (toP d).bind fun p => (toPL ds).map fun ps => p :: ps
end
section
variable {K : PySem.W.Frag} {mg : Str → Option Value} {F H : Hp}
mutual
theorem Rp.dp (s : Same F H) : ∀ (d : D) (v : V) (p : PyData), toP d = some p → Rp K mg F d v → Dp K H v p
  | .non, v, p, e, h => by rw [rp_non] at h; subst h; simp only [toP, Option.some.injEq] at e; subst e; exact .non
  | .bl b, v, p, e, h => by rw [rp_bl] at h; subst h; simp only [toP, Option.some.injEq] at e; subst e; exact .bl b
  | .int i, v, p, e, h => by rw [rp_int] at h; subst h; simp only [toP, Option.some.injEq] at e; subst e; exact .int i
  | .str x, v, p, e, h => by rw [rp_str] at h; subst h; simp only [toP, Option.some.injEq] at e; subst e; exact .str x
  | .lst ds, v, p, e, h => by
    rw [rp_lst] at h
    obtain ⟨a, xs, rfl, q, l⟩ := h
    simp only [toP, Option.map_eq_some_iff] at e
    obtain ⟨ps, e, rfl⟩ := e
    exact .lst (SqL.of (s _ _ q)) (RpL.dp s ds xs ps e l)
  | .tup ds, v, p, e, h => by
    rw [rp_tup] at h
    obtain ⟨a, xs, rfl, q, l⟩ := h
    simp only [toP, Option.map_eq_some_iff] at e
    obtain ⟨ps, e, rfl⟩ := e
    exact .tup (seqT_mono s q) (RpL.dp s ds xs ps e l)
  | .byt _, v, p, e, h => by simp [toP] at e
  | .dk _, v, p, e, h => by simp [toP] at e
  | .dt _, v, p, e, h => by simp [toP] at e
  | .obj _ _, v, p, e, h => by simp [toP] at e
  | .scr _, v, p, e, h => by simp [toP] at e
  | .ct _, v, p, e, h => by simp [toP] at e
theorem RpL.dp (s : Same F H) : ∀ (ds : List D) (xs : List V) (ps : List PyData), toPL ds = some ps → RpL K mg F ds xs → DpAll K H xs ps
  | [], xs, ps, e, h => by rw [rl_nil] at h; subst h; simp only [toPL, Option.some.injEq] at e; subst e; exact .nil
  | d :: ds, xs, ps, e, h => by
    rw [rl_cons] at h
    obtain ⟨v, vs, rfl, r, l⟩ := h
    simp only [toPL, Option.bind_eq_some_iff, Option.map_eq_some_iff] at e
    obtain ⟨p, e1, qs, e2, rfl⟩ := e
    exact .cons (Rp.dp s d v p e1 r) (RpL.dp s ds vs qs e2 l)
end
theorem Rq.dp (s : Same F H) {d : D} {v : V} {p : PyData} (e : toP d = some p) (h : Rq K mg H F d v) : Dp K H v p := by
  cases d with
  | lst ds =>
    obtain ⟨a, xs, rfl, q, l⟩ := h
    simp only [toP, Option.map_eq_some_iff] at e
    obtain ⟨ps, e, rfl⟩ := e
    exact .lst (SqL.of q) (RpL.dp s ds xs ps e l)
  | dk ds => simp [toP] at e
  | dt ds => simp [toP] at e
  | obj c fs => simp [toP] at e
  | _ => exact Rp.dp (mg := mg) s _ _ _ e h
end
def eqS : D → D → Option Bool
  | .int i, .int j => some (decide (i = j))
  | .str i, .str j => some (decide (i = j))
  | .bl i, .bl j => some (decide (i = j))
  | .non, .non => some true
  | .byt i, .byt j => some (decide (i = j))
  | _, _ => none
def eqDeep (a b : D) : Option Bool := match toP a, toP b with
  | some p, some q => if (SeqAt.shaped p && SeqAt.shaped q) = true then some (PyData.eqv p q) else none
  | _, _ => none
def dEq (a b : D) : Option Bool := (eqS a b).or (eqDeep a b)
def gEq (a b : D) : Option D := (dEq a b).map D.bl
def gNe (a b : D) : Option D := (dEq a b).map fun k => D.bl (!k)
theorem eqS_ok {K : PySem.W.Frag} {mg : Str → Option Value} {F H : Hp} {d1 d2 : D} {x y : V} {k : Bool} (r1 : Rq K mg H F d1 x) (r2 : Rq K mg H F d2 y) (e : eqS d1 d2 = some k) : scal x y = true ∧ decide (x = y) = k := by
  unfold eqS at e
  split at e
  · rw [rq_int] at r1 r2; subst r1 r2; cases e; exact ⟨rfl, by simp⟩
  · rw [rq_str] at r1 r2; subst r1 r2; cases e; exact ⟨rfl, by simp⟩
  · rw [rq_bl] at r1 r2; subst r1 r2; cases e; exact ⟨rfl, by simp⟩
  · rw [rq_non] at r1 r2; subst r1 r2; cases e; exact ⟨rfl, by simp⟩
  · rw [rq_byt] at r1 r2; subst r1 r2; cases e; exact ⟨rfl, by simp⟩
  · cases e
theorem eqDeep_ok {K : PySem.W.Frag} {mg : Str → Option Value} {F H : Hp} (s : Same F H) {d1 d2 : D} {x y : V} {k : Bool} (r1 : Rq K mg H F d1 x) (r2 : Rq K mg H F d2 y) (e : eqDeep d1 d2 = some k) : ∃ p q, Dp K H x p ∧ Dp K H y q ∧ SeqAt.shaped p = true ∧ SeqAt.shaped q = true ∧ PyData.eqv p q = k := by
  unfold eqDeep at e
  split at e
  · rename_i p q e1 e2
    split at e
    · rename_i hs
      rw [Bool.and_eq_true] at hs
      exact ⟨p, q, Rq.dp s e1 r1, Rq.dp s e2 r2, hs.1, hs.2, by cases e; rfl⟩
    · cases e
  · cases e
theorem o_eq (hu : X.A.units + 64 < cLine) : Op2 X (compareOp .Eq) gEq := by
  intro H F x y d1 d2 d s r1 r2 e
  simp only [gEq, Option.map_eq_some_iff] at e
  obtain ⟨k, e, rfl⟩ := e
  unfold dEq at e
  cases q : eqS d1 d2 with
  | some k' =>
    rw [q, Option.some_or] at e; cases e
    obtain ⟨h1, h2⟩ := eqS_ok r1 r2 q
    exact ⟨_, op_eq, fun Q q => ⟨h1, by rw [h2]; exact q H F _ Al.refl (by rw [rp_bl])⟩⟩
  | none =>
    rw [q, Option.none_or] at e
    obtain ⟨p, q, h1, h2, h3, h4, h5⟩ := eqDeep_ok s r1 r2 e
    exact ⟨_, op_eqD hu, fun Q qq => ⟨p, q, h1, h2, h3, h4, by rw [h5]; exact qq H F _ Al.refl (by rw [rp_bl])⟩⟩
theorem o_ne (hu : X.A.units + 64 < cLine) : Op2 X (compareOp .NotEq) gNe := by
  intro H F x y d1 d2 d s r1 r2 e
  simp only [gNe, Option.map_eq_some_iff] at e
  obtain ⟨k, e, rfl⟩ := e
  unfold dEq at e
  cases q : eqS d1 d2 with
  | some k' =>
    rw [q, Option.some_or] at e; cases e
    obtain ⟨h1, h2⟩ := eqS_ok r1 r2 q
    exact ⟨_, op_ne, fun Q q => ⟨h1, by rw [h2]; exact q H F _ Al.refl (by rw [rp_bl])⟩⟩
  | none =>
    rw [q, Option.none_or] at e
    obtain ⟨p, q, h1, h2, h3, h4, h5⟩ := eqDeep_ok s r1 r2 e
    exact ⟨_, op_neD hu, fun Q qq => ⟨p, q, h1, h2, h3, h4, by rw [h5]; exact qq H F _ Al.refl (by rw [rp_bl])⟩⟩
def dInts : List D → Option (List Int)
  | [] => some []
  | .int i :: ds => (dInts ds).map fun ns => i :: ns
  | _ => none
theorem dInts_eq : ∀ {ds : List D} {ns : List Int}, dInts ds = some ns → ds = ns.map D.int
  | [], ns, h => by simp only [dInts, Option.some.injEq] at h; subst h; rfl
  | .int i :: ds, ns, h => by
    simp only [dInts, Option.map_eq_some_iff] at h
    obtain ⟨ms, h, rfl⟩ := h
    rw [dInts_eq h]; rfl
  | .non :: _, _, h => by simp [dInts] at h
  | .bl _ :: _, _, h => by simp [dInts] at h
  | .str _ :: _, _, h => by simp [dInts] at h
  | .byt _ :: _, _, h => by simp [dInts] at h
  | .lst _ :: _, _, h => by simp [dInts] at h
  | .tup _ :: _, _, h => by simp [dInts] at h
  | .dk _ :: _, _, h => by simp [dInts] at h
  | .dt _ :: _, _, h => by simp [dInts] at h
  | .obj _ _ :: _, _, h => by simp [dInts] at h
  | .scr _ :: _, _, h => by simp [dInts] at h
  | .ct _ :: _, _, h => by simp [dInts] at h
def gLtT : D → D → Option D
  | .tup xs, .tup ys => match dInts xs, dInts ys with
    | some ns, some ms => some (.bl (HT.lexLt ns ms))
    | _, _ => none
  | _, _ => none
theorem o_ltT (hu : X.A.units < cLine) : Op2 X (compareOp .Lt) gLtT := by
  intro H F x y d1 d2 d s r1 r2 e
  unfold gLtT at e
  split at e
  · split at e
    · rename_i xs ys ns ms e1 e2
      cases e
      rw [rq_tup] at r1 r2
      obtain ⟨a, xs, rfl, q1, l1⟩ := r1
      obtain ⟨b, ys, rfl, q2, l2⟩ := r2
      rw [dInts_eq e1] at l1
      rw [dInts_eq e2] at l2
      have l1 := l1.ints
      have l2 := l2.ints
      subst l1 l2
      exact ⟨_, op_ltT hu, fun Q q => ⟨a, b, ns, ms, rfl, rfl, seqT_mono s q1, seqT_mono s q2, q H F _ Al.refl (by rw [rp_bl])⟩⟩
    · cases e
  · cases e
def isNon : D → Bool
  | .non => true
  | _ => false
theorem isNon_ok {K : PySem.W.Frag} {mg : Str → Option Value} {F : Hp} {d : D} {v : V} (h : Rp K mg F d v) : decide (v = .non) = isNon d := by
  cases d <;> unfold Rp at h
  · subst h; rfl
  · subst h; rfl
  · subst h; rfl
  · subst h; rfl
  · subst h; rfl
  · obtain ⟨a, xs, rfl, _⟩ := h; rfl
  · obtain ⟨a, xs, rfl, _⟩ := h; rfl
  · obtain ⟨a, xs, rfl, _⟩ := h; rfl
  · obtain ⟨a, xs, rfl, _⟩ := h; rfl
  · obtain ⟨a, C, dx, xs, rfl, _⟩ := h; rfl
  · obtain ⟨a, rfl, _⟩ := h; rfl
  · obtain ⟨a, xs, rfl, _⟩ := h; rfl
end
section
variable {X : Cx} {T : Pn} {W : WX} {pos : Pos} {a b c : Expr} {ma mb mc : M D}
def mIsN (m : M D) : M D := bnd m fun d => ret (.bl (isNon d))
def mNotN (m : M D) : M D := bnd m fun d => ret (.bl (!isNon d))
theorem jv_isN {j pos'} (ha : JV X T W a ma) : JV X T W (.Compare a [.Is] [.Constant .none j pos'] pos) (mIsN ma) :=
  PEimp (pe_cmp (pc_isN ha)) fun σ H Q ⟨e, F, er, h⟩ => ⟨e, F, er, h.bind.mono fun d e1 H1 F1 er1 mv1 h1 v hv => by
    dsimp only; rw [isNon_ok hv]; exact h1.rfin er1 H1 F1 Al.refl _ (by rw [rp_bl])⟩
theorem jv_notN {j pos'} (ha : JV X T W a ma) : JV X T W (.Compare a [.IsNot] [.Constant .none j pos'] pos) (mNotN ma) :=
  PEimp (pe_cmp (pc_notN ha)) fun σ H Q ⟨e, F, er, h⟩ => ⟨e, F, er, h.bind.mono fun d e1 H1 F1 er1 mv1 h1 v hv => by
    dsimp only; rw [isNon_ok hv]; exact h1.rfin er1 H1 F1 Al.refl _ (by rw [rp_bl])⟩
theorem jt_isN {j pos'} (ha : JV X T W a ma) : JT X T W (.Compare a [.Is] [.Constant .none j pos'] pos) (mT (mIsN ma)) := by
  refine PTimp (pt_cmp (pc_isN ha)) fun σ H Q h => ?_
  obtain ⟨e, F, er, h⟩ := runT h
  exact ⟨e, F, er, h.bind.mono fun d e1 H1 F1 er1 mv1 h1 v hv => by
    dsimp only; rw [isNon_ok hv]; exact h1.rfin er1 H1 F1 Al.refl _ (by rw [rp_bl])⟩
theorem jt_notN {j pos'} (ha : JV X T W a ma) : JT X T W (.Compare a [.IsNot] [.Constant .none j pos'] pos) (mT (mNotN ma)) := by
  refine PTimp (pt_cmp (pc_notN ha)) fun σ H Q h => ?_
  obtain ⟨e, F, er, h⟩ := runT h
  exact ⟨e, F, er, h.bind.mono fun d e1 H1 F1 er1 mv1 h1 v hv => by
    dsimp only; rw [isNon_ok hv]; exact h1.rfin er1 H1 F1 Al.refl _ (by rw [rp_bl])⟩
def m1 (g : D → Option D) (m : M D) : M D := bnd m fun d => opt (g d)
def gNeg : D → Option D
  | .int i => some (.int (-i))
  | _ => none
theorem jv_neg (ha : JV X T W a ma) : JV X T W (.UnaryOp .USub a pos) (m1 gNeg ma) := by
  refine PEimp (pe_un un_neg ha) fun σ H Q ⟨e, F, er, h⟩ => ⟨e, F, er, h.bind.mono fun d e1 H1 F1 er1 mv1 h1 v hv => ?_⟩
  obtain ⟨z, hz, fin⟩ := h1.fin er1
  cases d <;> cases hz
  rw [rp_int] at hv
  exact ⟨_, hv, fin H1 F1 Al.refl _ (by rw [rp_int])⟩
def Cal (X : Cx) (f : Value) (g : List D → Option D) : Prop :=
  ∀ (H F : Hp) (xs : List V) (ds : List D) (d : D), Same F H → RpL X.K X.mg F ds xs → g ds = some d →
    ∃ r, CallR X f r ∧ ∀ Q : VK, (∀ H' F' z, Al H F H' F' → Rp X.K X.mg F' d z → Q z H') → r xs H Q
def Cal1 (X : Cx) (f : Value) (g : D → Option D) : Prop :=
  ∀ (H F : Hp) (x : V) (d d' : D), Same F H → Rq X.K X.mg H F d x → g d = some d' →
    ∃ r, CallR X f r ∧ ∀ Q : VK, (∀ H' F' z, Al H F H' F' → Rp X.K X.mg F' d' z → Q z H') → r [x] H Q
def rAnyC (X : Cx) (f : Value) : List V → Hp → VK → Prop := fun xs H Q => ∃ r, CallR X f r ∧ r xs H Q
theorem callAny {f : Value} : CallR X f (rAnyC X f) := fun pins s σ H xs us Q I rx ⟨r, hr, q⟩ => hr pins s σ H xs us Q I rx q
def mCal (g : List D → Option D) (ms : M (List D)) : M D := bnd ms fun ds => opt (g ds)
def mCal1 (g : D → Option D) (m : M Bv) : M D := bnd m fun b => bnd (der b) fun d => opt (g d)
theorem runCal {f : Value} {g : List D → Option D} {ms : M (List D)} {σ : St} {H : Hp} {Q : VK} (hc : Cal X f g) (h : TV X.K X.mg T W (mCal g ms) σ H Q) : TAs X.K X.mg T W ms σ H fun vs H1 => rAnyC X f vs H1 Q := by
  obtain ⟨e, F, er, h⟩ := h
  refine ⟨e, F, er, h.bind.mono fun ds e1 H1 F1 er1 mv1 h1 vs hvs => ?_⟩
  obtain ⟨z, hz, fin⟩ := h1.fin er1
  obtain ⟨r, hr, q⟩ := hc H1 F1 vs ds z er1.sub hvs hz
  exact ⟨r, hr, q Q fun H' F' z al hz => fin H' F' al z hz⟩
theorem runCal1 {f : Value} {g : D → Option D} {m : M Bv} {σ : St} {H : Hp} {Q : VK} (hc : Cal1 X f g) (h : TV X.K X.mg T W (mCal1 g m) σ H Q) : TBw X.K X.mg T W m σ H fun v H1 => rAnyC X f [v] H1 Q := by
  obtain ⟨e, F, er, h⟩ := h
  refine ⟨e, F, er, h.bind.mono fun b e1 H1 F1 er1 mv1 h1 v hv => ?_⟩
  obtain ⟨d, r1, h3⟩ := der_fin h1.bind er1 hv
  obtain ⟨z, hz, fin⟩ := h3.fin er1
  obtain ⟨r, hr, q⟩ := hc H1 F1 v d z er1.sub r1 hz
  exact ⟨r, hr, q Q fun H' F' z al hz => fin H' F' al z hz⟩
section
variable {x : Str} {p : Pos} {e : Expr} {es : List Expr} {id : String} {ms : M (List D)} {g : List D → Option D} {g1 : D → Option D} {mb1 : M Bv}
theorem jv_callB (hc : Cal X (.builtin id) g) (hg : Gl X x) (hm : X.mg x = none) (hv : bootBuiltins x = some (.builtin id)) (ha : JA X T W (e :: es) ms) (hn : x ≠ "__name__" := by decide) (hdb : (x == ("__debug__" : Str)) = false := by decide)
    (he : starEach (e :: es) X.env = (false, eval e X.env) :: starEach es X.env := by rfl) (hpl : (backTo pos (starEach es X.env)).any (·.1) = false := by rfl) : JV X T W (.Call (.Name x p) (e :: es) [] pos) (mCal g ms) :=
  PEimp (pe_callB callAny hg hm hv ha hn hdb he hpl) fun σ H Q h => runCal hc h
theorem jv_callTy (hc : Cal X (.type id) g) (hg : Gl X x) (hm : X.mg x = none) (hv : bootBuiltins x = some (.type id)) (ha : JA X T W (e :: es) ms) (hn : x ≠ "__name__" := by decide) (hdb : (x == ("__debug__" : Str)) = false := by decide)
    (he : starEach (e :: es) X.env = (false, eval e X.env) :: starEach es X.env := by rfl) (hpl : (backTo pos (starEach es X.env)).any (·.1) = false := by rfl) : JV X T W (.Call (.Name x p) (e :: es) [] pos) (mCal g ms) :=
  PEimp (pe_callTy callAny hg hm hv ha hn hdb he hpl) fun σ H Q h => runCal hc h
theorem jv_callB1 (hc : Cal1 X (.builtin id) g1) (hg : Gl X x) (hm : X.mg x = none) (hv : bootBuiltins x = some (.builtin id)) (ha : JB X T W e mb1) (hn : x ≠ "__name__" := by decide) (hdb : (x == ("__debug__" : Str)) = false := by decide)
    (he : starEach [e] X.env = (false, eval e X.env) :: starEach [] X.env := by rfl) : JV X T W (.Call (.Name x p) [e] [] pos) (mCal1 g1 mb1) :=
  PEimp (pe_callB callAny hg hm hv (pa_cons ha pa_nil he) hn hdb he rfl) fun σ H Q h => runCal1 hc h
theorem jv_callTy1 (hc : Cal1 X (.type id) g1) (hg : Gl X x) (hm : X.mg x = none) (hv : bootBuiltins x = some (.type id)) (ha : JB X T W e mb1) (hn : x ≠ "__name__" := by decide) (hdb : (x == ("__debug__" : Str)) = false := by decide)
    (he : starEach [e] X.env = (false, eval e X.env) :: starEach [] X.env := by rfl) : JV X T W (.Call (.Name x p) [e] [] pos) (mCal1 g1 mb1) :=
  PEimp (pe_callTy callAny hg hm hv (pa_cons ha pa_nil he) hn hdb he rfl) fun σ H Q h => runCal1 hc h
end
def gLen : D → Option D
  | .str y => if y.length ≤ sizeLine then some (.int y.length) else none
  | .byt y => if y.size ≤ sizeLine then some (.int y.size) else none
  | .lst ds => some (.int ds.length)
  | .tup ds => some (.int ds.length)
  | .dk ds => some (.int ds.length)
  | .scr ns => some (.int ns.length)
  | _ => none
theorem RpK.len {K : PySem.W.Frag} {mg : Str → Option Value} {F : Hp} : ∀ {ds : List (Key × D)} {xs : List (Key × V)}, RpK K mg F ds xs → ds.length = xs.length
  | [], xs, h => by unfold RpK at h; subst h; rfl
  | (k, d) :: ds, xs, h => by unfold RpK at h; obtain ⟨v, vs, rfl, _, q⟩ := h; rw [List.length_cons, List.length_cons, q.len]
theorem c_len : Cal1 X (.builtin "len") gLen := by
  intro H F x d d' s r e
  cases d <;> simp only [gLen, reduceCtorEq] at e
  · rw [rq_str] at r; subst r
    split at e
    · rename_i hz; cases e
      exact ⟨_, call_len, fun Q q => ⟨_, _, rfl, ⟨hz, rfl⟩, q H F _ Al.refl (by rw [rp_int])⟩⟩
    · cases e
  · rw [rq_byt] at r; subst r
    split at e
    · rename_i hz; cases e
      exact ⟨_, call_len, fun Q q => ⟨_, _, rfl, ⟨hz, rfl⟩, q H F _ Al.refl (by rw [rp_int])⟩⟩
    · cases e
  · obtain ⟨a, xs, rfl, q, l⟩ := r
    cases e
    exact ⟨_, call_len, fun Q qq => ⟨_, _, rfl, .inl ⟨xs, SqL.of q, rfl⟩, qq H F _ Al.refl (by rw [rp_int, l.len])⟩⟩
  · rw [rq_tup] at r
    obtain ⟨a, xs, rfl, q, l⟩ := r
    cases e
    exact ⟨_, call_len, fun Q qq => ⟨_, _, rfl, .inr ⟨xs, seqT_mono s q, rfl⟩, qq H F _ Al.refl (by rw [rp_int, l.len])⟩⟩
  · obtain ⟨a, xs, rfl, q, l⟩ := r
    cases e
    exact ⟨_, call_lenD, fun Q qq => ⟨a, xs, rfl, q, qq H F _ Al.refl (by rw [rp_int, l.len])⟩⟩
  · rw [rq_scr] at r
    obtain ⟨a, rfl, q⟩ := r
    cases e
    exact ⟨_, call_len, fun Q qq => ⟨_, _, rfl, .inl ⟨_, s.seq q, rfl⟩, qq H F _ Al.refl (by rw [rp_int, List.length_map])⟩⟩
def gInt1 : List D → Option D
  | [.int i] => some (.int i)
  | [.bl k] => some (.int (if k then 1 else 0))
  | _ => none
theorem rl_one {K : PySem.W.Frag} {mg : Str → Option Value} {F : Hp} {d : D} {xs : List V} (h : RpL K mg F [d] xs) : ∃ v, xs = [v] ∧ Rp K mg F d v := by
  rw [rl_cons] at h
  obtain ⟨v, vs, rfl, r, h⟩ := h
  rw [rl_nil] at h; subst h
  exact ⟨v, rfl, r⟩
theorem rl_two {K : PySem.W.Frag} {mg : Str → Option Value} {F : Hp} {d d' : D} {xs : List V} (h : RpL K mg F [d, d'] xs) : ∃ v w, xs = [v, w] ∧ Rp K mg F d v ∧ Rp K mg F d' w := by
  rw [rl_cons] at h
  obtain ⟨v, vs, rfl, r, h⟩ := h
  obtain ⟨w, rfl, r'⟩ := rl_one h
  exact ⟨v, w, rfl, r, r'⟩
theorem c_int : Cal X (.type "int") gInt1 := by
  intro H F xs ds d s r e
  unfold gInt1 at e
  split at e
  · cases e
    obtain ⟨v, rfl, r0⟩ := rl_one r
    rw [rp_int] at r0; subst r0
    exact ⟨_, call_int1, fun Q q => .inl ⟨_, rfl, q H F _ Al.refl (by rw [rp_int])⟩⟩
  · cases e
    obtain ⟨v, rfl, r0⟩ := rl_one r
    rw [rp_bl] at r0; subst r0
    exact ⟨_, call_int1, fun Q q => .inr ⟨_, rfl, q H F _ Al.refl (by rw [rp_int])⟩⟩
  · cases e
def gMax2 : List D → Option D
  | [.int i, .int j] => some (.int (if j > i then j else i))
  | _ => none
def gMin2 : List D → Option D
  | [.int i, .int j] => some (.int (if j < i then j else i))
  | _ => none
def gAbs : List D → Option D
  | [.int i] => some (.int (if i < 0 then -i else i))
  | _ => none
theorem c_max (hc : X.calm = true) : Cal X (.builtin "max") gMax2 := by
  intro H F xs ds d s r e
  unfold gMax2 at e
  split at e
  · cases e
    obtain ⟨v, w, rfl, r0, r'⟩ := rl_two r
    rw [rp_int] at r0 r'; subst r0 r'
    exact ⟨_, call_max2 hc, fun Q q => ⟨_, _, rfl, q H F _ Al.refl (by rw [rp_int])⟩⟩
  · cases e
theorem c_min (hc : X.calm = true) : Cal X (.builtin "min") gMin2 := by
  intro H F xs ds d s r e
  unfold gMin2 at e
  split at e
  · cases e
    obtain ⟨v, w, rfl, r0, r'⟩ := rl_two r
    rw [rp_int] at r0 r'; subst r0 r'
    exact ⟨_, call_min2 hc, fun Q q => ⟨_, _, rfl, q H F _ Al.refl (by rw [rp_int])⟩⟩
  · cases e
theorem c_abs : Cal X (.builtin "abs") gAbs := by
  intro H F xs ds d s r e
  unfold gAbs at e
  split at e
  · cases e
    obtain ⟨v, rfl, r0⟩ := rl_one r
    rw [rp_int] at r0; subst r0
    exact ⟨_, call_abs, fun Q q => ⟨_, rfl, q H F _ Al.refl (by rw [rp_int])⟩⟩
  · cases e
def gIx : D → D → Option D
  | .lst ds, .int i => atI ds i
  | .tup ds, .int i => atI ds i
  | .str z, .int i => if z.length ≤ sizeLine then (atI z.cps.toList i).map fun c => .str ⟨#[c]⟩ else none
  | .scr ns, .int i => (atI ns i).map D.int
  | .ct ds, .int i => atI ds i
  | _, _ => none
theorem RpL.atI {K : PySem.W.Frag} {mg : Str → Option Value} {F : Hp} {ds : List D} {xs : List V} {i : Int} {d : D} (l : RpL K mg F ds xs) (h : L2.atI ds i = some d) : ∃ v, L2.atI xs i = some v ∧ Rp K mg F d v := by
  unfold L2.atI at h ⊢
  rw [← l.len]
  cases q : ixN ds.length i with
  | none => rw [q] at h; cases h
  | some j => rw [q] at h; exact l.get h
theorem atI_map {A B : Type} (f : A → B) (xs : List A) (i : Int) : L2.atI (xs.map f) i = (L2.atI xs i).map f := by
  unfold L2.atI
  rw [List.length_map]
  cases ixN xs.length i with
  | none => rfl
  | some j => simp
theorem ix_data {H F : Hp} {d1 d2 d : D} {x y : V} (s : Same F H) (r1 : Rq X.K X.mg H F d1 x) (r2 : Rq X.K X.mg H F d2 y) (e : gIx d1 d2 = some d) (Q : VK) (q : ∀ z, Rp X.K X.mg F d z → Q z H) : L2.rIx X.K x y H Q := by
  unfold gIx at e
  split at e
  · obtain ⟨a, xs, rfl, h, l⟩ := r1
    rw [rq_int] at r2
    obtain ⟨v, h1, h2⟩ := l.atI e
    exact .inl ⟨a, xs, _, v, rfl, r2, SqL.of h, h1, q v h2⟩
  · rw [rq_tup] at r1
    obtain ⟨a, xs, rfl, h, l⟩ := r1
    rw [rq_int] at r2
    obtain ⟨v, h1, h2⟩ := l.atI e
    exact .inr (.inl ⟨a, xs, _, v, rfl, r2, seqT_mono s h, h1, q v h2⟩)
  · split at e
    · rename_i hz
      rw [Option.map_eq_some_iff] at e
      obtain ⟨c, e, rfl⟩ := e
      rw [rq_str] at r1
      rw [rq_int] at r2
      exact .inr (.inr ⟨_, _, c, r1, r2, hz, e, q _ (by rw [rp_str])⟩)
    · cases e
  · rw [rq_scr] at r1
    obtain ⟨a, rfl, h⟩ := r1
    rw [rq_int] at r2
    rw [Option.map_eq_some_iff] at e
    obtain ⟨n, e, rfl⟩ := e
    exact .inl ⟨a, _, _, .int n, rfl, r2, s.seq h, by rw [atI_map, e]; rfl, q _ (by rw [rp_int])⟩
  · rw [rq_ct] at r1
    obtain ⟨a, xs, rfl, h, l⟩ := r1
    rw [rq_int] at r2
    obtain ⟨v, h1, h2⟩ := l.atI e
    exact .inr (.inl ⟨a, xs, _, v, rfl, r2, seqC_mono s h, h1, q v h2⟩)
  · cases e
theorem jv_ixB {m1 : M Bv} (ha : JB X T W a m1) (hb : JV X T W b mb) (hs : PlainIx b := by intro _ _; rfl) : JV X T W (.Subscript a b pos) (m2b gIx m1 mb) := by
  refine PEimp (pe_ix ix_seq ha hb hs) fun σ H Q ⟨e, F, er, h⟩ => ⟨e, F, er, h.bind.mono fun b1 e1 H1 F1 er1 mv1 h1 v hv => ⟨e1, F1, er1, h1.bind.mono fun d2 e2 H2 F2 er2 mv2 h2 w hw => ?_⟩⟩
  obtain ⟨d1, r1, h3⟩ := der_fin h2.bind er2 (hv.mono mv2.sub)
  obtain ⟨d, hd, fin⟩ := h3.fin er2
  exact ix_data er2.sub r1 (Rp.rq er2.sub hw) hd Q fun z hz => fin H2 F2 Al.refl z hz
theorem jv_ix (ha : JV X T W a ma) (hb : JV X T W b mb) (hs : PlainIx b := by intro _ _; rfl) : JV X T W (.Subscript a b pos) (m2 gIx ma mb) := by
  refine PEimp (pe_ix ix_seq ha hb hs) fun σ H Q ⟨e, F, er, h⟩ => ⟨e, F, er, h.bind.mono fun d1 e1 H1 F1 er1 mv1 h1 v hv => ⟨e1, F1, er1, h1.bind.mono fun d2 e2 H2 F2 er2 mv2 h2 w hw => ?_⟩⟩
  obtain ⟨d, hd, fin⟩ := h2.fin er2
  exact ix_data er2.sub (Rp.rq er2.sub (Rp.mono mv2.sub _ _ hv)) (Rp.rq er2.sub hw) hd Q fun z hz => fin H2 F2 Al.refl z hz
end
end Sr
namespace Sr
open PySem PySem.Spec L2
open PyProof.Rows hiding St
inductive Fl where
  | nx
  | rt (d : D)
  | ro (d : D)
  | bk
  | ct
section
variable (K : PySem.W.Frag) (mg : Str → Option Value) (T : Pn) (W : WX)
def RunS (e : En) (F : Hp) (s : M Fl) (σ : St) (H : Hp) (Dn : Ends) : Prop :=
  match s e with
  | .ok .nx e' => ∀ σ' H' F', ER K mg T e' σ' H' F' → Mv e σ H F e' σ' H' F' → Dn.nx σ' H'
  | .ok (.rt d) e' => ∀ σ' H' F' v, ER K mg T e' σ' H' F' → Mv e σ H F e' σ' H' F' → Rp K mg F' d v → Dn.rt v H'
  | .ok (.ro d) e' => ∀ σ' H' F' p, ER K mg T e' σ' H' F' → Mv e σ H F e' σ' H' F' → (H p = none ∨ Ow e σ p) → F' p = none → ¬ Ow e' σ' p → OwnAt K mg H' F' p d → Dn.rt (.ref p) H'
  | .ok .bk e' => ∀ σ' H' F', ER K mg T e' σ' H' F' → Mv e σ H F e' σ' H' F' → Dn.bk σ' H'
  | .ok .ct e' => ∀ σ' H' F', ER K mg T e' σ' H' F' → Mv e σ H F e' σ' H' F' → Dn.ct σ' H'
  | .exc x e' => ∀ σ' H' F' cl dd, ER K mg T e' σ' H' F' → Mv e σ H F e' σ' H' F' → XR K mg x cl dd H' F' → W cl dd σ' H'
  | .bad => False
def TSt (s : M Fl) : TS := fun Dn σ H => ∃ e F, ER K mg T e σ H F ∧ RunS K mg T W e F s σ H Dn
end
abbrev JS (X : Cx) (T : Pn) (W : WX) (st : Stmt) (m : M Fl) : Prop := PS X st (TSt X.K X.mg T W m)
abbrev JSs (X : Cx) (T : Pn) (W : WX) (st : List Stmt) (m : M Fl) : Prop := PSs X st (TSt X.K X.mg T W m)
theorem PSimp {X : Cx} {e : Stmt} {t t' : TS} (h : PS X e t) (k : ∀ D σ H, t' D σ H → t D σ H) : PS X e t' := ⟨fun pins s σ H D I q => h.run pins s σ H D I (k D σ H q)⟩
theorem PSsimp {X : Cx} {e : List Stmt} {t t' : TS} (h : PSs X e t) (k : ∀ D σ H, t' D σ H → t D σ H) : PSs X e t' := ⟨fun pins s σ H D I q => h.run pins s σ H D I (k D σ H q)⟩
section
variable {K : PySem.W.Frag} {mg : Str → Option Value} {T : Pn} {W : WX} {e e1 : En} {σ σ1 : St} {H F H1 F1 : Hp} {A : Type}
theorem Mv.newO (mv : Mv e σ H F e1 σ1 H1 F1) {p : Addr} (h : H1 p = none ∨ Ow e1 σ1 p) : H p = none ∨ Ow e σ p := by
  rcases h with h | h
  · exact .inl (mv.there p h)
  · cases q : H p with
    | none => exact .inl rfl
    | some o =>
      by_cases w : Ow e σ p
      · exact .inr w
      · exact absurd h (mv.keep p o q w).2
theorem RunS.after {s s' : M Fl} {Dn : Ends} (h : RunS K mg T W e F s σ H Dn) (hs : s e = s' e1) (mv : Mv e σ H F e1 σ1 H1 F1) : RunS K mg T W e1 F1 s' σ1 H1 Dn := by
  unfold RunS at h ⊢
  rw [hs] at h
  cases q : s' e1 with
  | ok fl e2 =>
    rw [q] at h
    cases fl with
    | nx => exact fun σ' H' F' er mv' => h σ' H' F' er (mv.trans mv')
    | rt d => exact fun σ' H' F' v er mv' => h σ' H' F' v er (mv.trans mv')
    | ro d => exact fun σ' H' F' p er mv' hp => h σ' H' F' p er (mv.trans mv') (mv.newO hp)
    | bk => exact fun σ' H' F' er mv' => h σ' H' F' er (mv.trans mv')
    | ct => exact fun σ' H' F' er mv' => h σ' H' F' er (mv.trans mv')
  | exc x e2 => rw [q] at h; exact fun σ' H' F' cl dd er mv' => h σ' H' F' cl dd er (mv.trans mv')
  | bad => rw [q] at h; exact h
theorem RunS.bind {m : M A} {f : A → M Fl} {Dn : Ends} (h : RunS K mg T W e F (bnd m f) σ H Dn) : RunAt K mg T W e F m σ H fun a e1 H1 F1 => RunS K mg T W e1 F1 (f a) σ H1 Dn := by
  unfold RunAt
  cases q : m e with
  | ok a e1 =>
    intro H1 F1 er1 mv1
    exact h.after (by unfold bnd; rw [q]) mv1
  | exc x e1 =>
    unfold RunS bnd at h
    rw [q] at h
    exact fun H' F' cl dd er mv xr => h σ H' F' cl dd er mv xr
  | bad => unfold RunS bnd at h; rw [q] at h; exact h
end
section
variable {X : Cx} {T : Pn} {W : WX} {pos : Pos} {a b c : Expr} {ma mb mc : M D} {st : Stmt} {rest sa sb : List Stmt} {s u : M Fl}
def skp : M Fl := ret .nx
def sq (s u : M Fl) : M Fl := fun e => match s e with
  | .ok .nx e1 => u e1
  | o => o
theorem js_nil : JSs X T W [] skp := PSsimp pss_nil fun D σ H ⟨e, F, er, h⟩ => h σ H F er Mv.refl
theorem js_cons (h1 : JS X T W st s) (h2 : JSs X T W rest u) : JSs X T W (st :: rest) (sq s u) := by
  refine PSsimp (pss_cons h1 h2) fun D σ H ⟨e, F, er, h⟩ => ⟨e, F, er, ?_⟩
  unfold RunS
  cases q : s e with
  | ok fl e1 =>
    cases fl with
    | nx => exact fun σ' H' F' er' mv => ⟨e1, F', er', h.after (by unfold sq; rw [q]) mv⟩
    | rt d => unfold RunS sq at h; rw [q] at h; exact h
    | ro d => unfold RunS sq at h; rw [q] at h; exact h
    | bk => unfold RunS sq at h; rw [q] at h; exact h
    | ct => unfold RunS sq at h; rw [q] at h; exact h
  | exc x e1 => unfold RunS sq at h; rw [q] at h; exact h
  | bad => unfold RunS sq at h; rw [q] at h; exact h
theorem js_one (h1 : JS X T W st s) : JSs X T W [st] s := pss_one h1
theorem js_pass : JS X T W (.Pass pos) skp := PSimp ps_pass fun D σ H ⟨e, F, er, h⟩ => h σ H F er Mv.refl
theorem js_break : JS X T W (.Break pos) (ret .bk) := PSimp ps_break fun D σ H ⟨e, F, er, h⟩ => h σ H F er Mv.refl
theorem js_continue : JS X T W (.Continue pos) (ret .ct) := PSimp ps_continue fun D σ H ⟨e, F, er, h⟩ => h σ H F er Mv.refl
def sDrop (m : M D) : M Fl := bnd m fun _ => skp
theorem js_expr (ha : JV X T W a ma) (hs : swapsWith a none pos.line X.env = pure false := by rfl) : JS X T W (.Expr a pos) (sDrop ma) :=
  PSimp (ps_expr ha hs) fun D σ H ⟨e, F, er, h⟩ => ⟨e, F, er, h.bind.mono fun d e1 H1 F1 er1 mv1 h1 v hv => h1 σ H1 F1 er1 Mv.refl⟩
def sRet (m : M D) : M Fl := bnd m fun d => ret (.rt d)
def sRetO (m : M D) : M Fl := bnd m fun d => ret (.ro d)
theorem js_ret (ha : JV X T W a ma) : JS X T W (.Return (some a) pos) (sRet ma) :=
  PSimp (ps_ret ha) fun D σ H ⟨e, F, er, h⟩ => ⟨e, F, er, h.bind.mono fun d e1 H1 F1 er1 mv1 h1 v hv => h1 σ H1 F1 v er1 Mv.refl hv⟩
theorem js_retO (ha : JO X T W a ma) : JS X T W (.Return (some a) pos) (sRetO ma) :=
  PSimp (ps_ret ha) fun D σ H ⟨e, F, er, h⟩ => ⟨e, F, er, by
    unfold RunAt
    cases q : ma e with
    | ok d e1 =>
      intro H1 F1 er1 mv1 p hp fp np ow
      unfold RunS sRetO bnd ret at h
      rw [q] at h
      exact h σ H1 F1 p er1 mv1 (.inl hp) fp np ow
    | exc x e1 => unfold RunS sRetO bnd at h; rw [q] at h; exact fun H' F' cl dd er mv xr => h σ H' F' cl dd er mv xr
    | bad => unfold RunS sRetO bnd at h; rw [q] at h; exact h⟩
def sRetN (i : Nat) : M Fl := fun e => match e[i]? with
  | some (.own d) => .ok (.ro d) (e.set i .no)
  | _ => .bad
theorem js_retNm (i : Nat) {x : Str} {pos' : Pos} (hN : X.N[i]? = some x := by rfl) (hv : Vis X.env.scope x := by first | exact Or.inl rfl | exact Or.inr (Or.inl rfl) | exact Or.inr (Or.inr rfl)) (hd : (x == ("__debug__" : Str)) = false := by decide)
    (hcd : (x == ("__classdict__" : Str)) = false := by decide) : JS X T W (.Return (some (.Name x pos')) pos) (sRetN i) :=
  PSimp (ps_ret (pe_var hN hv hd hcd)) fun D σ H ⟨e, F, er, h⟩ => by
    unfold RunS sRetN at h
    cases q : e[i]? with
    | none => simp only [q] at h
    | some sl =>
      cases sl with
      | no => simp only [q] at h
      | val d => simp only [q] at h
      | own d =>
        simp only [q] at h
        obtain ⟨p, h1, h2, h3⟩ := er.own i d q
        have hi : i < e.length := (List.getElem?_eq_some_iff.mp q).1
        have oth : ∀ (j : Nat) (s : Sl), s ≠ .no → (e.set i Sl.no)[j]? = some s → e[j]? = some s ∧ j ≠ i := fun j s hs z => by
          by_cases hj : j = i
          · subst hj; rw [List.getElem?_set_self hi] at z; cases z; exact absurd rfl hs
          · rw [List.getElem?_set_ne (Ne.symm hj)] at z; exact ⟨z, hj⟩
        have sub : ∀ a, Ow (e.set i Sl.no) σ a → Ow e σ a := fun a ⟨j, y, z1, z2⟩ => ⟨j, y, (oth j _ (by intro z; cases z) z1).1, z2⟩
        refine ⟨_, h1, h σ H F p ⟨er.sub, fun j y z => er.val j y (oth j _ (by intro z; cases z) z).1, fun j y z => er.own j y (oth j _ (by intro z; cases z) z).1, fun j k a y y' z1 z2 => er.inj j k a y y' (oth j _ (by intro z; cases z) z1).1 (oth k _ (by intro z; cases z) z2).1, by rw [List.length_set]; exact er.len, er.pin⟩
          ⟨Same.refl _, fun a o z n => ⟨z, fun z2 => n (sub a z2)⟩, fun a o z => .inl z, fun a z => z⟩ (.inr ⟨i, d, q, h1⟩) h2 ?_ h3⟩
        rintro ⟨j, y, z1, z2⟩
        obtain ⟨z3, z4⟩ := oth j _ (by intro z; cases z) z1
        exact z4 (er.inj j i p y d z3 q z2 h1)
theorem js_retN : JS X T W (.Return none pos) (ret (.rt .non)) := PSimp ps_retN fun D σ H ⟨e, F, er, h⟩ => h σ H F .non er Mv.refl (by rw [rp_non])
def sIf (n : M Bool) (s u : M Fl) : M Fl := bnd n fun k => if k = true then s else u
theorem js_if {n : M Bool} (hc : JT X T W c n) (ha : JSs X T W sa s) (hb : JSs X T W sb u) : JS X T W (.If c sa sb pos) (sIf n s u) := by
  refine PSimp (ps_if hc ha hb) fun D σ H ⟨e, F, er, h⟩ => ⟨e, F, er, h.bind.mono fun k e1 H1 F1 er1 mv1 h1 => ?_⟩
  cases k with
  | true => rw [if_pos rfl] at h1 ⊢; exact ⟨e1, F1, er1, h1⟩
  | false => rw [if_neg (by decide)] at h1 ⊢; exact ⟨e1, F1, er1, h1⟩
theorem ER.setV {K : PySem.W.Frag} {mg : Str → Option Value} {e : En} {σ : St} {H F : Hp} {i : Nat} {d : D} {v : V} (er : ER K mg T e σ H F) (hT : NoP T i) (r : Rp K mg F d v) :
    ER K mg T (e.set i (.val d)) (σ.set i (some v)) H F ∧ Mv e σ H F (e.set i (.val d)) (σ.set i (some v)) H F := by
  have ow : ∀ (j : Nat) (x : D), (e.set i (Sl.val d))[j]? = some (.own x) → e[j]? = some (.own x) ∧ j ≠ i := fun j x q => by
    by_cases hj : j = i
    · subst hj
      by_cases hl : j < e.length
      · rw [List.getElem?_set_self hl] at q; cases q
      · rw [List.getElem?_eq_none (by rw [List.length_set]; omega)] at q; cases q
    · rw [List.getElem?_set_ne (Ne.symm hj)] at q; exact ⟨q, hj⟩
  refine ⟨⟨er.sub, fun j x q => ?_, fun j x q => ?_, fun j k p x y q1 q2 q3 q4 => ?_, by rw [List.length_set, List.length_set]; exact er.len, fun p hp => ?_⟩, Same.refl _, fun a o q n => ⟨q, ?_⟩, fun a o q => .inl q, fun a q => q⟩
  · by_cases hj : j = i
    · subst hj
      by_cases hl : j < e.length
      · rw [List.getElem?_set_self hl] at q; cases q
        exact ⟨v, List.getElem?_set_self (by rw [← er.len]; exact hl), r⟩
      · rw [List.getElem?_eq_none (by rw [List.length_set]; omega)] at q; cases q
    · rw [List.getElem?_set_ne (Ne.symm hj)] at q
      obtain ⟨w, h1, h2⟩ := er.val j x q
      exact ⟨w, by rw [List.getElem?_set_ne (Ne.symm hj)]; exact h1, h2⟩
  · obtain ⟨q, hj⟩ := ow j x q
    obtain ⟨p, h1, h2, h3⟩ := er.own j x q
    exact ⟨p, by rw [List.getElem?_set_ne (Ne.symm hj)]; exact h1, h2, h3⟩
  · obtain ⟨q1, hj⟩ := ow j x q1
    obtain ⟨q2, hk⟩ := ow k y q2
    rw [List.getElem?_set_ne (Ne.symm hj)] at q3
    rw [List.getElem?_set_ne (Ne.symm hk)] at q4
    exact er.inj j k p x y q1 q2 q3 q4
  · rw [List.getElem?_set_ne (Ne.symm (hT p hp))]; exact er.pin p hp
  · rintro ⟨j, x, q1, q2⟩
    obtain ⟨q1, hj⟩ := ow j x q1
    rw [List.getElem?_set_ne (Ne.symm hj)] at q2
    exact n ⟨j, x, q1, q2⟩
theorem ER.setO {K : PySem.W.Frag} {mg : Str → Option Value} {e : En} {σ : St} {H F H0 : Hp} {i : Nat} {d : D} {p : Addr} (er : ER K mg T e σ H F) (hT : NoP T i) (fp : F p = none) (np : ¬ Ow e σ p) (ow : OwnAt K mg H F p d) :
    ER K mg T (e.set i (.own d)) (σ.set i (some (.ref p))) H F ∧ ∀ {e0 : En} {σ0 : St} {F0 : Hp}, H0 p = none → Mv e0 σ0 H0 F0 e σ H F → Mv e0 σ0 H0 F0 (e.set i (.own d)) (σ.set i (some (.ref p))) H F := by
  have own : ∀ (j : Nat) (x : D), (e.set i (Sl.own d))[j]? = some (.own x) → (j ≠ i ∧ e[j]? = some (.own x)) ∨ (j = i ∧ x = d ∧ i < e.length) := fun j x q => by
    by_cases hj : j = i
    · subst hj
      by_cases hl : j < e.length
      · rw [List.getElem?_set_self hl] at q; cases q; exact .inr ⟨rfl, rfl, hl⟩
      · rw [List.getElem?_eq_none (by rw [List.length_set]; omega)] at q; cases q
    · rw [List.getElem?_set_ne (Ne.symm hj)] at q; exact .inl ⟨hj, q⟩
  refine ⟨⟨er.sub, fun j x q => ?_, fun j x q => ?_, fun j k p' x y q1 q2 q3 q4 => ?_, by rw [List.length_set, List.length_set]; exact er.len, fun p hp => ?_⟩, fun {e0 σ0 F0} hp mv => ⟨mv.sub, fun a o q n => ?_, mv.new, mv.there⟩⟩
  · have hj : j ≠ i := by
      rintro rfl
      by_cases hl : j < e.length
      · rw [List.getElem?_set_self hl] at q; cases q
      · rw [List.getElem?_eq_none (by rw [List.length_set]; omega)] at q; cases q
    rw [List.getElem?_set_ne (Ne.symm hj)] at q
    obtain ⟨w, h1, h2⟩ := er.val j x q
    exact ⟨w, by rw [List.getElem?_set_ne (Ne.symm hj)]; exact h1, h2⟩
  · rcases own j x q with ⟨hj, q⟩ | ⟨rfl, rfl, hl⟩
    · obtain ⟨p', h1, h2, h3⟩ := er.own j x q
      exact ⟨p', by rw [List.getElem?_set_ne (Ne.symm hj)]; exact h1, h2, h3⟩
    · exact ⟨p, List.getElem?_set_self (by rw [← er.len]; exact hl), fp, ow⟩
  · rcases own j x q1 with ⟨hj, w1⟩ | ⟨hj, _, hl⟩
    · rw [List.getElem?_set_ne (Ne.symm hj)] at q3
      rcases own k y q2 with ⟨hk, w2⟩ | ⟨hk, _, hl⟩
      · rw [List.getElem?_set_ne (Ne.symm hk)] at q4
        exact er.inj j k p' x y w1 w2 q3 q4
      · rw [hk, List.getElem?_set_self (by rw [← er.len]; exact hl)] at q4
        cases q4
        exact (np ⟨j, x, w1, q3⟩).elim
    · rcases own k y q2 with ⟨hk, w2⟩ | ⟨hk, _, hl2⟩
      · rw [List.getElem?_set_ne (Ne.symm hk)] at q4
        rw [hj, List.getElem?_set_self (by rw [← er.len]; exact hl)] at q3
        cases q3
        exact (np ⟨k, y, w2, q4⟩).elim
      · rw [hj, hk]
  · rw [List.getElem?_set_ne (Ne.symm (hT p hp))]; exact er.pin p hp
  · obtain ⟨h1, h2⟩ := mv.keep a o q n
    refine ⟨h1, ?_⟩
    rintro ⟨j, x, q1, q2⟩
    rcases own j x q1 with ⟨hj, q1⟩ | ⟨rfl, rfl, hl⟩
    · rw [List.getElem?_set_ne (Ne.symm hj)] at q2
      exact h2 ⟨j, x, q1, q2⟩
    · rw [List.getElem?_set_self (by rw [← er.len]; exact hl)] at q2
      cases q2
      rw [hp] at q; cases q
def sSet (i : Nat) (m : M D) : M Fl := bnd m fun d e => .ok .nx (e.set i (.val d))
def sSetO (i : Nat) (m : M D) : M Fl := bnd m fun d e => .ok .nx (e.set i (.own d))
theorem run_set {i : Nat} {Dn : Ends} {σ : St} {H : Hp} (hT : NoP T i) (h : TSt X.K X.mg T W (sSet i ma) Dn σ H) : tAsg (TV X.K X.mg T W ma) (gName i) Dn σ H := by
  obtain ⟨e, F, er, h⟩ := h
  refine ⟨e, F, er, h.bind.mono fun d e1 H1 F1 er1 mv1 h1 v hv => ?_⟩
  obtain ⟨er2, mv2⟩ := er1.setV hT hv
  exact h1 _ H1 F1 er2 mv2
theorem run_setO {i : Nat} {Dn : Ends} {σ : St} {H : Hp} (hT : NoP T i) (h : TSt X.K X.mg T W (sSetO i ma) Dn σ H) : tAsg (TO X.K X.mg T W ma) (gName i) Dn σ H := by
  obtain ⟨e, F, er, h⟩ := h
  refine ⟨e, F, er, ?_⟩
  unfold RunAt
  cases q : ma e with
  | ok d e1 =>
    intro H1 F1 er1 mv1 p hp fp np ow
    obtain ⟨er2, mv2⟩ := er1.setO (H0 := H) hT fp np ow
    unfold RunS sSetO bnd at h
    rw [q] at h
    exact h _ H1 F1 er2 (mv2 hp mv1)
  | exc x e1 => unfold RunS sSetO bnd at h; rw [q] at h; exact fun H' F' cl dd er mv xr => h σ H' F' cl dd er mv xr
  | bad => unfold RunS sSetO bnd at h; rw [q] at h; exact h
theorem js_set {i : Nat} {x : Str} {pos' : Pos} (hT : NoP T i) (hN : X.N.Nodup) (hi : X.N[i]? = some x) (hx : Loc X.env.scope x) (ha : JV X T W a ma) (hs : swapsWith a (some (.Name x pos')) pos.line X.env = pure false := by rfl) (hf : X.fn x = true ∨ X.env.scope.names.lookup x = some .local := by first | exact .inl rfl | exact .inr rfl | assumption) :
    JS X T W (.Assign [.Name x pos'] a pos) (sSet i ma) := PSimp (ps_set hN hi hx ha hs hf) fun D σ H h => run_set hT h
theorem js_setO {i : Nat} {x : Str} {pos' : Pos} (hT : NoP T i) (hN : X.N.Nodup) (hi : X.N[i]? = some x) (hx : Loc X.env.scope x) (ha : JO X T W a ma) (hs : swapsWith a (some (.Name x pos')) pos.line X.env = pure false := by rfl) (hf : X.fn x = true ∨ X.env.scope.names.lookup x = some .local := by first | exact .inl rfl | exact .inr rfl | assumption) :
    JS X T W (.Assign [.Name x pos'] a pos) (sSetO i ma) := PSimp (ps_set hN hi hx ha hs hf) fun D σ H h => run_setO hT h
def TG' (K : PySem.W.Frag) (mg : Str → Option Value) (T : Pn) (W : WX) (w : D → M Unit) : TG := fun v σ H Q => ∃ e F d, ER K mg T e σ H F ∧ Rp K mg F d v ∧
  match w d e with
  | .ok _ e' => ∀ σ' H' F', ER K mg T e' σ' H' F' → Mv e σ H F e' σ' H' F' → Q σ' H'
  | _ => False
def TGs' (K : PySem.W.Frag) (mg : Str → Option Value) (T : Pn) (W : WX) (w : List D → M Unit) : TGs := fun vs σ H Q => ∃ e F ds, ER K mg T e σ H F ∧ RpL K mg F ds vs ∧
  match w ds e with
  | .ok _ e' => ∀ σ' H' F', ER K mg T e' σ' H' F' → Mv e σ H F e' σ' H' F' → Q σ' H'
  | _ => False
abbrev JG (X : Cx) (T : Pn) (W : WX) (tg : Expr) (w : D → M Unit) : Prop := PG X tg (TG' X.K X.mg T W w)
abbrev JGs (X : Cx) (T : Pn) (W : WX) (tg : List Expr) (w : List D → M Unit) : Prop := PGs X tg (TGs' X.K X.mg T W w)
def gN (i : Nat) : D → M Unit := fun d e => .ok () (e.set i (.val d))
def gsN : List D → M Unit
  | [] => ret ()
  | _ => fun _ => .bad
def gsC (w : D → M Unit) (ws : List D → M Unit) : List D → M Unit
  | d :: ds => bnd (w d) fun _ => ws ds
  | [] => fun _ => .bad
def gT (n : Nat) (ws : List D → M Unit) : D → M Unit
  | .tup ds => if ds.length = n then ws ds else fun _ => .bad
  | .ct ds => if ds.length = n then ws ds else fun _ => .bad
  | _ => fun _ => .bad
theorem jg_name {i : Nat} {x : Str} (hT : NoP T i) (hN : X.N.Nodup) (hi : X.N[i]? = some x) (hx : Loc X.env.scope x) (hf : X.fn x = true ∨ X.env.scope.names.lookup x = some .local := by first | exact .inl rfl | exact .inr rfl | assumption) : JG X T W (.Name x pos) (gN i) := by
  refine ⟨fun pins s σ H v u Q I r h => (pg_name hN hi hx hf).run pins s σ H v u Q I r ?_⟩
  obtain ⟨e, F, d, er, rd, h⟩ := h
  obtain ⟨er2, mv2⟩ := er.setV hT rd
  exact h _ H F er2 mv2
theorem jgs_nil : JGs X T W [] gsN := by
  refine ⟨fun pins s σ H vs us Q I r h => pgs_nil.run pins s σ H vs us Q I r ?_⟩
  obtain ⟨e, F, ds, er, rd, h⟩ := h
  cases ds with
  | nil => rw [rl_nil] at rd; exact ⟨rd, h σ H F er Mv.refl⟩
  | cons d ds => exact h.elim
theorem jgs_cons {e : Expr} {es : List Expr} {w : D → M Unit} {ws : List D → M Unit} (h1 : JG X T W e w) (h2 : JGs X T W es ws)
    (hs : (assignEach (e :: es) X.env).map (·.2) = assign e X.env :: (assignEach es X.env).map (·.2) := by rfl) : JGs X T W (e :: es) (gsC w ws) := by
  refine ⟨fun pins s σ H vs us Q I r h => (pgs_cons h1 h2 hs).run pins s σ H vs us Q I r ?_⟩
  obtain ⟨e, F, ds, er, rd, h⟩ := h
  cases ds with
  | nil => exact h.elim
  | cons d ds =>
    rw [rl_cons] at rd
    obtain ⟨v, vs, rfl, rd, rl⟩ := rd
    refine ⟨v, vs, rfl, e, F, d, er, rd, ?_⟩
    simp only [gsC, bnd] at h
    cases q : w d e with
    | ok u e1 =>
      rw [q] at h
      dsimp only at h ⊢
      intro σ1 H1 F1 er1 mv1
      refine ⟨e1, F1, ds, er1, RpL.mono mv1.sub _ _ rl, ?_⟩
      cases q2 : ws ds e1 with
      | ok u e2 => rw [q2] at h; exact fun σ' H' F' er' mv' => h σ' H' F' er' (mv1.trans mv')
      | exc x e2 => rw [q2] at h; exact h
      | bad => rw [q2] at h; exact h
    | exc x e1 => rw [q] at h; exact h
    | bad => rw [q] at h; exact h
theorem jg_tup {es : List Expr} {k : Nat} {ws : List D → M Unit} {n : Nat} (hc : X.calm = true) (h : JGs X T W es ws)
    (hn : (assignEach es X.env).length = n := by rfl) (hst : (assignEach es X.env).findIdx? (·.1) = none := by rfl) : JG X T W (.Tuple es k pos) (gT n ws) := by
  refine ⟨fun pins s σ H v u Q I r q => (pg_tup hc h hn hst).run pins s σ H v u Q I r ?_⟩
  obtain ⟨e, F, d, er, rd, q⟩ := q
  unfold gT at q
  split at q
  · rename_i u e' hh
    split at hh
    · rename_i ds
      rw [rp_tup] at rd
      obtain ⟨a, xs, rfl, rd, rl⟩ := rd
      split at hh
      · rename_i hl
        refine ⟨a, xs, rfl, seqT_mono er.sub rd, by rw [← rl.len]; exact hl, e, F, ds, er, rl, ?_⟩
        rw [hh]; exact q
      · cases hh
    · rename_i ds
      rw [rp_ct] at rd
      obtain ⟨a, xs, rfl, rd, rl⟩ := rd
      split at hh
      · rename_i hl
        refine ⟨a, xs, rfl, seqC_mono er.sub rd, by rw [← rl.len]; exact hl, e, F, ds, er, rl, ?_⟩
        rw [hh]; exact q
      · cases hh
    · cases hh
  · exact q.elim
def sAsg (m : M D) (w : D → M Unit) : M Fl := bnd m fun d => bnd (w d) fun _ => skp
theorem RunAt.noexc {K : PySem.W.Frag} {mg : Str → Option Value} {e : En} {σ : St} {H F : Hp} {w : M Unit} {Dn : Ends} (h : RunS K mg T W e F (bnd w fun _ => skp) σ H Dn) (hx : ∀ x e', w e ≠ .exc x e') : match w e with
  | .ok _ e' => ∀ σ' H' F', ER K mg T e' σ' H' F' → Mv e σ H F e' σ' H' F' → Dn.nx σ' H'
  | _ => False := by
  unfold RunS bnd at h
  cases q : w e with
  | ok u e' => rw [q] at h; exact h
  | exc x e' => exact (hx x e' q).elim
  | bad => rw [q] at h; exact h
def NoExc (w : D → M Unit) : Prop := ∀ d e x e', w d e ≠ .exc x e'
def NoExcs (w : List D → M Unit) : Prop := ∀ d e x e', w d e ≠ .exc x e'
theorem ne_name {i : Nat} : NoExc (gN i) := fun _ _ _ _ h => by cases h
theorem nes_nil : NoExcs gsN := fun d e x e' h => by cases d <;> cases h
theorem nes_cons {w : D → M Unit} {ws : List D → M Unit} (h1 : NoExc w) (h2 : NoExcs ws) : NoExcs (gsC w ws) := fun d e x e' h => by
  cases d with
  | nil => cases h
  | cons d ds =>
    simp only [gsC, bnd] at h
    cases q : w d e with
    | ok u e1 => rw [q] at h; exact h2 _ _ _ _ h
    | exc x e1 => exact h1 _ _ _ _ q
    | bad => rw [q] at h; cases h
theorem ne_tup {n : Nat} {ws : List D → M Unit} (h2 : NoExcs ws) : NoExc (gT n ws) := fun d e x e' h => by
  unfold gT at h
  split at h
  · split at h
    · exact h2 _ _ _ _ h
    · cases h
  · split at h
    · exact h2 _ _ _ _ h
    · cases h
  · cases h
theorem js_asg {tg : Expr} {w : D → M Unit} (ha : JV X T W a ma) (hg : JG X T W tg w) (hne : NoExc w) (hs : swapsWithSole [tg] a pos.line X.env = pure false := by rfl) (hw : swappedStores [tg] a X.env = pure none := by rfl)
    (h1 : (assignEach [tg] X.env).map (·.2) = [assign tg X.env] := by rfl) : JS X T W (.Assign [tg] a pos) (sAsg ma w) :=
  PSimp (ps_asg ha hg hs hw h1) fun D σ H ⟨e, F, er, h⟩ => ⟨e, F, er, h.bind.mono fun d e1 H1 F1 er1 mv1 h1 v hv => ⟨e1, F1, d, er1, hv, RunAt.noexc h1 fun x e' => hne d e1 x e'⟩⟩
def sPar (ms : M (List D)) (ws : List D → M Unit) : M Fl := bnd ms fun ds => bnd (ws ds) fun _ => skp
theorem js_par {i j : Nat} {x y : Str} {ms : M (List D)} {px py pt : Pos} {kt k2 pt2} (hT : NoP T i) (hT' : NoP T j) (hc : X.calm = true) (hN : X.N.Nodup) (hi : X.N[i]? = some x) (hj : X.N[j]? = some y) (hij : i ≠ j)
    (hx : X.env.scope.names.lookup x = some .local) (hy : X.env.scope.names.lookup y = some .local) (ha : JA X T W [a, b] ms)
    (hw : swappedStores [.Tuple [.Name x px, .Name y py] kt pt] (.Tuple [a, b] k2 pt2) X.env = pure (some [x, y]) := by rfl)
    (hs : swapsWithSole [.Tuple [.Name x px, .Name y py] kt pt] (.Tuple [a, b] k2 pt2) pos.line X.env = pure false := by rfl) :
    JS X T W (.Assign [.Tuple [.Name x px, .Name y py] kt pt] (.Tuple [a, b] k2 pt2) pos) (sPar ms (gsC (gN i) (gsC (gN j) gsN))) := by
  refine PSimp (ps_par hc hN hi hj hij hx hy ha hw hs) fun D σ H ⟨e, F, er, h⟩ => ⟨e, F, er, h.bind.mono fun ds e1 H1 F1 er1 mv1 h1 vs hvs => ?_⟩
  match ds, hvs with
  | [], _ => exact h1.elim
  | [_], _ => exact h1.elim
  | _ :: _ :: _ :: _, _ => exact h1.elim
  | [d1, d2], hvs =>
    obtain ⟨v, w, rfl, r1, r2⟩ := rl_two hvs
    obtain ⟨er2, mv2⟩ := er1.setV hT r1
    obtain ⟨er3, mv3⟩ := er2.setV hT' r2
    exact ⟨v, w, rfl, h1 _ H1 F1 er3 (mv2.trans mv3)⟩
theorem js_par3 {i j l : Nat} {x y z : Str} {ms : M (List D)} {px py pz pt : Pos} {kt k2 pt2} (hT : NoP T i) (hT' : NoP T j) (hT2 : NoP T l) (hc : X.calm = true) (hN : X.N.Nodup) (hi : X.N[i]? = some x) (hj : X.N[j]? = some y) (hl : X.N[l]? = some z) (hij : i ≠ j) (hil : i ≠ l) (hjl : j ≠ l)
    (hx : X.env.scope.names.lookup x = some .local) (hy : X.env.scope.names.lookup y = some .local) (hz : X.env.scope.names.lookup z = some .local) (ha : JA X T W [a, b, c] ms)
    (hw : swappedStores [.Tuple [.Name x px, .Name y py, .Name z pz] kt pt] (.Tuple [a, b, c] k2 pt2) X.env = pure (some [x, y, z]) := by rfl)
    (hs : swapsWithSole [.Tuple [.Name x px, .Name y py, .Name z pz] kt pt] (.Tuple [a, b, c] k2 pt2) pos.line X.env = pure false := by rfl) :
    JS X T W (.Assign [.Tuple [.Name x px, .Name y py, .Name z pz] kt pt] (.Tuple [a, b, c] k2 pt2) pos) (sPar ms (gsC (gN i) (gsC (gN j) (gsC (gN l) gsN)))) := by
  refine PSimp (ps_par3 hc hN hi hj hl hij hil hjl hx hy hz ha hw hs) fun D σ H ⟨e, F, er, h⟩ => ⟨e, F, er, h.bind.mono fun ds e1 H1 F1 er1 mv1 h1 vs hvs => ?_⟩
  match ds, hvs with
  | [], _ => exact h1.elim
  | [_], _ => exact h1.elim
  | [_, _], _ => exact h1.elim
  | _ :: _ :: _ :: _ :: _, _ => exact h1.elim
  | [d1, d2, d3], hvs =>
    rw [rl_cons] at hvs
    obtain ⟨u, us, rfl, r0, hvs⟩ := hvs
    obtain ⟨v, w, rfl, r1, r2⟩ := rl_two hvs
    obtain ⟨er2, mv2⟩ := er1.setV hT r0
    obtain ⟨er3, mv3⟩ := er2.setV hT' r1
    obtain ⟨er4, mv4⟩ := er3.setV hT2 r2
    exact ⟨u, v, w, rfl, h1 _ H1 F1 er4 ((mv2.trans mv3).trans mv4)⟩
end
end Sr
namespace Sr
open PySem PySem.Spec L2
open PyProof.Rows hiding St
def Walks (K : PySem.W.Frag) (mg : Str → Option Value) (J : It) (ds : List D) (F : Hp) : Prop :=
  ∃ (G : Hp → Prop) (Y : Nat → Hp → V → Hp → Prop), Walk J ds.length G Y ∧ (∀ H, Same F H → G H) ∧
    ∀ i H1 F1 x H2, i < ds.length → Same F F1 → Same F1 H1 → Y i H1 x H2 → ∃ F2 d, Al H1 F1 H2 F2 ∧ ds[i]? = some d ∧ Rp K mg F2 d x
def TIt (K : PySem.W.Frag) (mg : Str → Option Value) (T : Pn) (W : WX) (m : M (List D)) : TI := fun σ H R => ∃ e F, ER K mg T e σ H F ∧ RunAt K mg T W e F m σ H fun ds _ H' F' => ∀ J, Walks K mg J ds F' → R J H'
abbrev JI (X : Cx) (T : Pn) (W : WX) (tg iter : Expr) (m : M (List D)) : Prop := PI X tg iter (TIt X.K X.mg T W m)
theorem PIimp {X : Cx} {tg iter : Expr} {t t' : TI} (h : PI X tg iter t) (k : ∀ σ H R, t' σ H R → t σ H R) : PI X tg iter t' := ⟨fun pins s σ H R I q => h.run pins s σ H R I (k σ H R q)⟩
def lp (b k : M Fl) : M Fl := fun e => match b e with
  | .ok .nx e2 => k e2
  | .ok .ct e2 => k e2
  | .ok .bk e2 => .ok .nx e2
  | o => o
def forL (w : D → M Unit) (b : M Fl) : List D → M Fl
  | [] => skp
  | d :: ds => bnd (w d) fun _ => lp b (forL w b ds)
def sFor (m : M (List D)) (w : D → M Unit) (b : M Fl) : M Fl := bnd m fun ds => forL w b ds
def whl (c : M Bool) (b : M Fl) : Nat → M Fl
  | 0 => fun _ => .bad
  | n + 1 => bnd c fun k => if k = true then lp b (whl c b n) else skp
def wF : Nat := 1000000
def sWhile (c : M Bool) (b : M Fl) : M Fl := whl c b wF
section
variable {X : Cx} {T : Pn} {W : WX} {pos : Pos} {a b c : Expr} {ma mb mc : M D} {body : List Stmt} {s u : M Fl}
theorem RunS.lp {K : PySem.W.Frag} {mg : Str → Option Value} {e : En} {F : Hp} {σ : St} {H : Hp} {Dn : Ends} {b k : M Fl} (h : RunS K mg T W e F (Sr.lp b k) σ H Dn) (N : St → Hp → Prop) (hN : ∀ σ' H' e' F', ER K mg T e' σ' H' F' → RunS K mg T W e' F' k σ' H' Dn → N σ' H') :
    RunS K mg T W e F b σ H { Dn with nx := N, ct := N, bk := Dn.nx } := by
  unfold RunS
  cases q : b e with
  | ok fl e1 =>
    cases fl with
    | nx => exact fun σ' H' F' er mv => hN σ' H' e1 F' er (h.after (by unfold Sr.lp; rw [q]) mv)
    | ct => exact fun σ' H' F' er mv => hN σ' H' e1 F' er (h.after (by unfold Sr.lp; rw [q]) mv)
    | bk => unfold RunS Sr.lp at h; rw [q] at h; exact h
    | rt d => unfold RunS Sr.lp at h; rw [q] at h; exact h
    | ro d => unfold RunS Sr.lp at h; rw [q] at h; exact h
  | exc x e1 => unfold RunS Sr.lp at h; rw [q] at h; exact h
  | bad => unfold RunS Sr.lp at h; rw [q] at h; exact h
theorem js_for {tg iter : Expr} {m : M (List D)} {w : D → M Unit} (hp : PassesOwn (model X.prog X.w) X.A X.env X.xe) (hc : X.calm = true) (hi : JI X T W tg iter m) (hg : JG X T W tg w) (hne : NoExc w) (hb : JSs X T W body s)
    (hs : ∀ x, foldedSetIterable iter X.env x = pure x := by intro _; rfl) : JS X T W (.For tg iter body [] pos) (sFor m w s) := by
  refine PSimp (ps_for hp hc hi hg hb hs) fun Dn σ H ⟨e, F, er, h⟩ => ⟨e, F, er, h.bind.mono fun ds e1 H1 F1 er1 mv1 h1 J wk => ?_⟩
  obtain ⟨G, Y, wlk, hG, hY⟩ := wk
  refine for_it wlk (fun i σ2 H2 => ∃ e2 F2, ER X.K X.mg T e2 σ2 H2 F2 ∧ Same F1 F2 ∧ RunS X.K X.mg T W e2 F2 (forL w s (ds.drop i)) σ2 H2 Dn) ⟨e1, F1, er1, Same.refl _, h1⟩ (fun i σ2 H2 _ ⟨e2, F2, er2, s2, _⟩ => hG H2 (s2.trans er2.sub)) ?_ ?_
  · rintro i x σ2 H2 H3 hi ⟨e2, F2, er2, s2, h2⟩ y
    obtain ⟨F3, d, al, hd, rd⟩ := hY i H2 F2 x H3 hi s2 er2.sub y
    have er3 := er2.al al
    have hdr : ds.drop i = d :: ds.drop (i + 1) := by
      rw [List.drop_eq_getElem_cons hi]
      have : ds[i] = d := by rw [List.getElem?_eq_getElem hi] at hd; exact Option.some.inj hd
      rw [this]
    rw [hdr] at h2
    have h3 := h2.after (s' := forL w s (d :: ds.drop (i + 1))) rfl (Mv.al er2 al)
    refine ⟨e2, F3, d, er3, rd, ?_⟩
    cases q : w d e2 with
    | ok u e3 =>
      intro σ4 H4 F4 er4 mv4
      have h4 := h3.after (s' := Sr.lp s (forL w s (ds.drop (i + 1)))) (by show bnd (w d) _ e2 = _; unfold bnd; rw [q]) mv4
      refine ⟨e3, F4, er4, ?_⟩
      have s4 : Same F1 F4 := (s2.trans (al.same er2.sub).1).trans mv4.sub
      have hh := h4.lp (fun σ' H' => ∃ e5 F5, ER X.K X.mg T e5 σ' H' F5 ∧ RunS X.K X.mg T W e5 F5 (forL w s (ds.drop (i + 1))) σ' H' Dn) fun σ' H' e' F' er' r' => ⟨e', F', er', r'⟩
      unfold RunS at hh ⊢
      cases q2 : s e3 with
      | ok fl e5 =>
        rw [q2] at hh
        cases fl with
        | nx => exact fun σ' H' F' er' mv' => ⟨e5, F', er', s4.trans mv'.sub, h4.after (by unfold Sr.lp; rw [q2]) mv'⟩
        | ct => exact fun σ' H' F' er' mv' => ⟨e5, F', er', s4.trans mv'.sub, h4.after (by unfold Sr.lp; rw [q2]) mv'⟩
        | bk => exact hh
        | rt d => exact hh
        | ro d => exact hh
      | exc x e5 => rw [q2] at hh; exact hh
      | bad => rw [q2] at hh; exact hh
    | exc x e3 => exact (hne d e2 x e3 q).elim
    | bad =>
      have h4 : RunS X.K X.mg T W e2 F3 (bnd (w d) fun _ => Sr.lp s (forL w s (ds.drop (i + 1)))) σ2 H3 Dn := h3
      unfold RunS bnd at h4; rw [q] at h4; exact h4
  · rintro σ2 H2 ⟨e2, F2, er2, s2, h2⟩
    rw [List.drop_length] at h2
    exact h2 σ2 H2 F2 er2 Mv.refl
theorem js_while {n : M Bool} (hp : PassesOwn (model X.prog X.w) X.A X.env X.xe) (hc : JT X T W c n) (hb : JSs X T W body s) : JS X T W (.While c body [] pos) (sWhile n s) := by
  refine PSimp (ps_while hp hc hb) fun Dn σ H ⟨e, F, er, h⟩ => ?_
  refine ⟨fun m σ2 H2 => ∃ e2 F2, ER X.K X.mg T e2 σ2 H2 F2 ∧ RunS X.K X.mg T W e2 F2 (whl n s m) σ2 H2 Dn, ⟨wF, e, F, er, h⟩, ?_⟩
  rintro m σ2 H2 ⟨e2, F2, er2, h2⟩
  cases m with
  | zero => exact h2.elim
  | succ m =>
    refine ⟨e2, F2, er2, h2.bind.mono fun k e3 H3 F3 er3 mv3 h3 => ?_⟩
    cases k with
    | true =>
      rw [if_pos rfl] at h3 ⊢
      exact ⟨fun σ' H' => ∃ e' F', ER X.K X.mg T e' σ' H' F' ∧ RunS X.K X.mg T W e' F' (whl n s m) σ' H' Dn, fun σ' H' z => ⟨m, Nat.lt_succ_self m, z⟩, e3, F3, er3, h3.lp _ fun σ' H' e' F' er' r' => ⟨e', F', er', r'⟩⟩
    | false =>
      rw [if_neg (by decide)] at h3 ⊢
      exact h3 σ2 H3 F3 er3 Mv.refl
def dItems : D → Option (List D)
  | .lst ds => some ds
  | .tup ds => some ds
  | .str z => some (z.cps.toList.map fun c => .str ⟨#[c]⟩)
  | .ct ds => some ds
  | _ => none
def mItems (m : M D) : M (List D) := bnd m fun d => opt (dItems d)
theorem walks_list {K : PySem.W.Frag} {mg : Str → Option Value} {F : Hp} {a : Addr} {xs : List V} {ds : List D} (h : F a = some (.lst xs)) (l : RpL K mg F ds xs) : Walks K mg (Itl K a) ds F := by
  refine ⟨_, _, by rw [l.len]; exact walk_list (xs := xs), fun H s => SqL.of (s _ _ h), fun i H1 F1 x H2 hi s1 s2 y => ?_⟩
  obtain ⟨rfl, y⟩ := y
  obtain ⟨v, h1, h2⟩ := l.get (List.getElem?_eq_getElem hi)
  rw [h1] at y; cases y
  exact ⟨F1, ds[i], Al.refl, List.getElem?_eq_getElem hi, Rp.mono s1 _ _ h2⟩
theorem walks_tup {K : PySem.W.Frag} {mg : Str → Option Value} {F : Hp} {a : Addr} {xs : List V} {ds : List D} (h : SqT K F a xs) (l : RpL K mg F ds xs) : Walks K mg (Itt K a) ds F := by
  refine ⟨_, _, by rw [l.len]; exact walk_tup (xs := xs), fun H s => seqC_mono s h, fun i H1 F1 x H2 hi s1 s2 y => ?_⟩
  obtain ⟨rfl, y⟩ := y
  obtain ⟨v, h1, h2⟩ := l.get (List.getElem?_eq_getElem hi)
  rw [h1] at y; cases y
  exact ⟨F1, ds[i], Al.refl, List.getElem?_eq_getElem hi, Rp.mono s1 _ _ h2⟩
theorem walks_str {K : PySem.W.Frag} {mg : Str → Option Value} {F : Hp} {z : Str} : Walks K mg (Its z) (z.cps.toList.map fun c => .str ⟨#[c]⟩) F := by
  refine ⟨_, _, by rw [List.length_map, Array.length_toList]; exact walk_str (z := z), fun H s => trivial, fun i H1 F1 x H2 hi s1 s2 y => ?_⟩
  obtain ⟨rfl, c, hc, rfl⟩ := y
  refine ⟨F1, .str ⟨#[c]⟩, Al.refl, ?_, by rw [rp_str]⟩
  rw [List.getElem?_map, Array.getElem?_toList, hc]; rfl
theorem RunAt.got {K : PySem.W.Frag} {mg : Str → Option Value} {A : Type} {e e1 : En} {σ : St} {H F : Hp} {m : M A} {x : A} {P : A → En → Hp → Hp → Prop} (h : RunAt K mg T W e F m σ H P) (q : m e = .ok x e1) : RunAt K mg T W e F m σ H fun a e' H' F' => a = x ∧ e' = e1 ∧ P a e' H' F' := by
  unfold RunAt at h ⊢
  rw [q] at h ⊢
  exact fun H' F' er mv => ⟨rfl, rfl, h H' F' er mv⟩
theorem PIor {tg iter : Expr} {t t' : TI} (h : PI X tg iter t) (h' : PI X tg iter t') : PI X tg iter (fun σ H R => t σ H R ∨ t' σ H R) := ⟨fun pins s σ H R I q => q.elim (h.run pins s σ H R I) (h'.run pins s σ H R I)⟩
theorem ji_v {tg : Expr} (ha : JV X T W a ma) : JI X T W tg a (mItems ma) := by
  refine PIimp (PIor (pi_list ha) (PIor (pi_tup ha) (pi_str ha))) fun σ H R ⟨e, F, er, h⟩ => ?_
  cases q : ma e with
  | ok d e1 =>
    cases d with
    | lst ds =>
      refine .inl ⟨e, F, er, (h.bind.got q).mono fun d e1 H1 F1 er1 mv1 h1 v hv => ?_⟩
      obtain ⟨rfl, rfl, h1⟩ := h1
      rw [rp_lst] at hv
      obtain ⟨a, xs, rfl, hv, l⟩ := hv
      exact ⟨a, rfl, ⟨xs, SqL.of (er1.sub _ _ hv)⟩, h1 H1 F1 er1 Mv.refl _ (walks_list hv l)⟩
    | tup ds =>
      refine .inr (.inl ⟨e, F, er, (h.bind.got q).mono fun d e1 H1 F1 er1 mv1 h1 v hv => ?_⟩)
      obtain ⟨rfl, rfl, h1⟩ := h1
      rw [rp_tup] at hv
      obtain ⟨a, xs, rfl, hv, l⟩ := hv
      exact ⟨a, rfl, ⟨xs, seqT_mono er1.sub hv⟩, h1 H1 F1 er1 Mv.refl _ (walks_tup (SqT.of hv) l)⟩
    | ct ds =>
      refine .inr (.inl ⟨e, F, er, (h.bind.got q).mono fun d e1 H1 F1 er1 mv1 h1 v hv => ?_⟩)
      obtain ⟨rfl, rfl, h1⟩ := h1
      rw [rp_ct] at hv
      obtain ⟨a, xs, rfl, hv, l⟩ := hv
      exact ⟨a, rfl, ⟨xs, seqC_mono er1.sub hv⟩, h1 H1 F1 er1 Mv.refl _ (walks_tup hv l)⟩
    | str z =>
      refine .inr (.inr ⟨e, F, er, (h.bind.got q).mono fun d e1 H1 F1 er1 mv1 h1 v hv => ?_⟩)
      obtain ⟨rfl, rfl, h1⟩ := h1
      rw [rp_str] at hv
      exact ⟨z, hv, h1 H1 F1 er1 Mv.refl _ walks_str⟩
    | _ => unfold RunAt mItems bnd at h; rw [q] at h; exact h.elim
  | exc x e1 =>
    refine .inl ⟨e, F, er, ?_⟩
    unfold RunAt mItems bnd at h; unfold RunAt; rw [q] at h ⊢; exact h
  | bad => unfold RunAt mItems bnd at h; rw [q] at h; exact h.elim
def rngL (lo hi : Int) : List D := (List.range (hi - lo).toNat).map fun (i : Nat) => D.int (lo + i)
def okR (i : Int) : Bool := decide (-(2 ^ 62) ≤ i) && decide (i < 2 ^ 62)
def gRng : List D → Option (List D)
  | [.int n] => if okR n = true then some (rngL 0 n) else none
  | _ => none
def gRng2 : List D → Option (List D)
  | [.int a, .int b] => if (okR a && okR b) = true then some (rngL a b) else none
  | _ => none
def mRng (ms : M (List D)) : M (List D) := bnd ms fun ds => opt (gRng ds)
def mRng2 (ms : M (List D)) : M (List D) := bnd ms fun ds => opt (gRng2 ds)
theorem walks_range {K : PySem.W.Frag} {mg : Str → Option Value} {F : Hp} {lo hi : Int} : Walks K mg (Itr lo (hi - lo).toNat) (rngL lo hi) F := by
  refine ⟨_, _, by unfold rngL; rw [List.length_map, List.length_range]; exact walk_range, fun H s => trivial, fun i H1 F1 x H2 hi s1 s2 y => ?_⟩
  obtain ⟨rfl, rfl⟩ := y
  refine ⟨F1, .int (lo + i), Al.refl, ?_, by rw [rp_int]⟩
  unfold rngL at hi ⊢
  rw [List.length_map, List.length_range] at hi
  rw [List.getElem?_map, List.getElem?_range hi]; rfl
theorem ji_range1 {tg : Expr} {p : Pos} {ms : M (List D)} (hg : Gl X "range") (hm : X.mg "range" = none) (ha : JA X T W [a] ms) (hs : starEach [a] X.env = [(false, eval a X.env)] := by rfl) : JI X T W tg (.Call (.Name "range" p) [a] [] pos) (mRng ms) := by
  refine PIimp (pi_range1 hg hm ha hs) fun σ H R ⟨e, F, er, h⟩ => ⟨e, F, er, h.bind.mono fun ds e1 H1 F1 er1 mv1 h1 vs hvs => ?_⟩
  obtain ⟨z, hz, fin⟩ := h1.fin er1
  unfold gRng at hz
  split at hz
  · rename_i n
    split at hz
    · rename_i ho
      cases hz
      obtain ⟨v, rfl, r⟩ := rl_one hvs
      rw [rp_int] at r; subst r
      unfold okR at ho
      rw [Bool.and_eq_true, decide_eq_true_eq, decide_eq_true_eq] at ho
      refine ⟨n, rfl, ho.1, ho.2, fin H1 F1 Al.refl _ ?_⟩
      have := walks_range (K := X.K) (mg := X.mg) (F := F1) (lo := 0) (hi := n)
      rw [Int.sub_zero] at this
      exact this
    · cases hz
  · cases hz
theorem ji_range2 {tg : Expr} {p : Pos} {ms : M (List D)} (hg : Gl X "range") (hm : X.mg "range" = none) (ha : JA X T W [a, b] ms) (hs : starEach [a, b] X.env = [(false, eval a X.env), (false, eval b X.env)] := by rfl) (hs2 : starEach [b] X.env = [(false, eval b X.env)] := by rfl) : JI X T W tg (.Call (.Name "range" p) [a, b] [] pos) (mRng2 ms) := by
  refine PIimp (pi_range2 hg hm ha hs hs2) fun σ H R ⟨e, F, er, h⟩ => ⟨e, F, er, h.bind.mono fun ds e1 H1 F1 er1 mv1 h1 vs hvs => ?_⟩
  obtain ⟨z, hz, fin⟩ := h1.fin er1
  unfold gRng2 at hz
  split at hz
  · rename_i i j
    split at hz
    · rename_i ho
      cases hz
      obtain ⟨v, w, rfl, r, r'⟩ := rl_two hvs
      rw [rp_int] at r r'; subst r r'
      unfold okR at ho
      simp only [Bool.and_eq_true, decide_eq_true_eq] at ho
      exact ⟨i, j, rfl, ⟨ho.1.1, ho.1.2, ho.2.1, ho.2.2⟩, fin H1 F1 Al.refl _ walks_range⟩
    · cases hz
  · cases hz
theorem ER.put {K : PySem.W.Frag} {mg : Str → Option Value} {e : En} {σ : St} {H F : Hp} {i : Nat} {d d' : D} {p : Addr} {o : HO} (er : ER K mg T e σ H F) (h : e[i]? = some (.own d)) (hp : σ[i]? = some (some (.ref p))) (ow : OwnAt K mg (upd H p o) F p d') :
    ER K mg T (e.set i (.own d')) σ (upd H p o) F ∧ Mv e σ H F (e.set i (.own d')) σ (upd H p o) F := by
  have hi : i < e.length := (List.getElem?_eq_some_iff.mp h).1
  obtain ⟨p', h1, h2, h3⟩ := er.own i d h
  rw [hp] at h1; cases h1
  obtain ⟨o0, ho0⟩ := h3.there
  have own : ∀ (j : Nat) (x : D), (e.set i (Sl.own d'))[j]? = some (.own x) → (j ≠ i ∧ e[j]? = some (.own x)) ∨ (j = i ∧ x = d') := fun j x q => by
    by_cases hj : j = i
    · subst hj
      rw [List.getElem?_set_self hi] at q; cases q; exact .inr ⟨rfl, rfl⟩
    · rw [List.getElem?_set_ne (Ne.symm hj)] at q; exact .inl ⟨hj, q⟩
  have iff : ∀ a, Ow (e.set i (Sl.own d')) σ a → Ow e σ a := fun a ⟨j, x, q1, q2⟩ => by
    rcases own j x q1 with ⟨_, w⟩ | ⟨rfl, _⟩
    · exact ⟨j, x, w, q2⟩
    · exact ⟨j, d, h, q2⟩
  refine ⟨⟨fun b u q => ?_, fun j x q => ?_, fun j x q => ?_, fun j k q x y q1 q2 q3 q4 => ?_, by rw [List.length_set]; exact er.len, er.pin⟩, Same.refl _, fun a u q n => ⟨?_, fun z => n (iff a z)⟩, fun a u q => .inl q, fun a q => ?_⟩
  · rw [upd_ne (ne_of_none q h2)]; exact er.sub b u q
  · have hj : j ≠ i := by rintro rfl; rw [List.getElem?_set_self hi] at q; cases q
    rw [List.getElem?_set_ne (Ne.symm hj)] at q
    exact er.val j x q
  · rcases own j x q with ⟨hj, w⟩ | ⟨rfl, rfl⟩
    · obtain ⟨p', g1, g2, g3⟩ := er.own j x w
      refine ⟨p', g1, g2, g3.keep (Same.refl _) fun o' ho' => ?_⟩
      rw [upd_ne]; exact ho'
      rintro rfl
      exact hj (er.inj j i p' x d w h g1 hp)
    · exact ⟨p, hp, h2, ow⟩
  · rcases own j x q1 with ⟨hj, w1⟩ | ⟨hj, _⟩ <;> rcases own k y q2 with ⟨hk, w2⟩ | ⟨hk, _⟩
    · exact er.inj j k q x y w1 w2 q3 q4
    · rw [hk] at q4 ⊢; exact er.inj j i q x d w1 h q3 q4
    · rw [hj] at q3 ⊢; exact er.inj i k q d y h w2 q3 q4
    · rw [hj, hk]
  · rw [upd_ne]; exact q
    rintro rfl
    exact n ⟨i, d, h, hp⟩
  · by_cases hb : a = p
    · subst hb; rw [upd_same] at q; cases q
    · rw [upd_ne hb] at q; exact q
def chkL (i : Nat) : M Unit := fun e => match e[i]? with
  | some (.own (.lst _)) => .ok () e
  | _ => .bad
def putL (i : Nat) (f : List D → Option (List D)) : M Fl := fun e => match e[i]? with
  | some (.own (.lst ds)) => match f ds with
    | some ds' => .ok .nx (e.set i (.own (.lst ds')))
    | none => .bad
  | _ => .bad
theorem chk_fin {K : PySem.W.Frag} {mg : Str → Option Value} {e : En} {σ : St} {H F : Hp} {i : Nat} {Dn : Ends} {k : M Fl} (h : RunS K mg T W e F (bnd (chkL i) fun _ => k) σ H Dn) (er : ER K mg T e σ H F) : ∃ p xs, σ[i]? = some (some (.ref p)) ∧ H p = some (.lst xs) ∧ RunS K mg T W e F k σ H Dn := by
  cases q : e[i]? with
  | none => unfold RunS bnd chkL at h; rw [q] at h; exact h.elim
  | some sl =>
    cases sl with
    | no => unfold RunS bnd chkL at h; rw [q] at h; exact h.elim
    | val d => unfold RunS bnd chkL at h; rw [q] at h; exact h.elim
    | own d =>
      cases d with
      | lst ds =>
        obtain ⟨p, h1, h2, xs, h3, h4⟩ := er.own i _ q
        exact ⟨p, xs, h1, h3, h.after (by unfold bnd chkL; rw [q]) Mv.refl⟩
      | _ => unfold RunS bnd chkL at h; rw [q] at h; exact h.elim
theorem put_fin {K : PySem.W.Frag} {mg : Str → Option Value} {e : En} {σ : St} {H F : Hp} {i : Nat} {Dn : Ends} {f : List D → Option (List D)} (h : RunS K mg T W e F (putL i f) σ H Dn) (er : ER K mg T e σ H F) : ∃ p ds ds' xs, σ[i]? = some (some (.ref p)) ∧ H p = some (.lst xs) ∧ RpL K mg F ds xs ∧ f ds = some ds' ∧
    ∀ xs', RpL K mg F ds' xs' → Dn.nx σ (upd H p (.lst xs')) := by
  cases q : e[i]? with
  | none => unfold RunS putL at h; rw [q] at h; exact h.elim
  | some sl =>
    cases sl with
    | no => unfold RunS putL at h; rw [q] at h; exact h.elim
    | val d => unfold RunS putL at h; rw [q] at h; exact h.elim
    | own d =>
      cases d with
      | lst ds =>
        obtain ⟨p, h1, h2, xs, h3, h4⟩ := er.own i _ q
        cases qf : f ds with
        | none => unfold RunS putL at h; simp only [q, qf] at h
        | some ds' =>
          refine ⟨p, ds, ds', xs, h1, h3, h4, qf, fun xs' l => ?_⟩
          obtain ⟨er2, mv2⟩ := er.put (o := .lst xs') (d' := .lst ds') q h1 ⟨xs', upd_same, l⟩
          unfold RunS putL at h
          simp only [q, qf] at h
          exact h σ _ F er2 mv2
      | _ => unfold RunS putL at h; rw [q] at h; exact h.elim
def sApp (i : Nat) (m : M D) : M Fl := bnd (chkL i) fun _ => bnd m fun d => putL i fun ds => if ds.length < sizeLine then some (ds ++ [d]) else none
theorem js_append {i : Nat} {x : Str} {pn apos cpos : Pos} (hN : X.N[i]? = some x) (hv : Vis X.env.scope x) (ha : JV X T W a ma)
    (hd : (x == ("__debug__" : Str)) = false := by decide) (hcd : (x == ("__classdict__" : Str)) = false := by decide)
    (hst : swapsWith (.Call (.Attribute (.Name x pn) "append" apos) [a] [] cpos) none pos.line X.env = pure false := by rfl)
    (hbase : attributeBase (.Name x pn) "append" X.env (eval (.Name x pn) X.env) = eval (.Name x pn) X.env := by rfl)
    (hfew : ((backTo cpos (starEach [a] X.env)).all (fun x => !x.1) && (backToKw cpos (keywordEach [] X.env)).all (fun x => x.1.isSome)
      && decide ([a].length + ([] : List Keyword).length + (if ([] : List Keyword).isEmpty then 0 else 1) < 30)) = true := by rfl)
    (hline : (apos.endLine == cpos.line) = true := by rfl) (hs : starEach [a] X.env = (false, eval a X.env) :: starEach [] X.env := by rfl) :
    JS X T W (.Expr (.Call (.Attribute (.Name x pn) "append" apos) [a] [] cpos) pos) (sApp i ma) := by
  refine PSimp (ps_expr (pe_bm PySem.F.plainAttrs_list PySem.F.slot_list_append PySem.F.type_list_append mt_append (pe_var hN hv hd hcd) (pa_cons ha pa_nil hs) hbase hfew hline hs rfl) hst) fun Dn σ H ⟨e, F, er, h⟩ => ?_
  obtain ⟨p, xs, h1, h2, h⟩ := chk_fin h er
  refine ⟨_, h1, .inl ⟨rfl, xs, SqL.of h2⟩, e, F, er, h.bind.mono fun d e1 H1 F1 er1 mv1 h3 v hv => ?_⟩
  obtain ⟨p', ds, ds', ys, g1, g2, g3, g4, g5⟩ := put_fin h3 er1
  rw [h1] at g1; cases g1
  split at g4
  · rename_i hz
    cases g4
    exact ⟨p, ys, v, rfl, rfl, g2, by rw [← g3.len]; exact hz, g5 _ (g3.append (by rw [rl_cons]; exact ⟨v, [], rfl, hv, by rw [rl_nil]⟩))⟩
  · cases g4
def sExt (i : Nat) (m : M D) : M Fl := bnd (chkL i) fun _ => bnd m fun d => putL i fun ds => match d with
  | .lst es => if ds.length + es.length ≤ sizeLine then some (ds ++ es) else none
  | _ => none
theorem js_extend {i : Nat} {x : Str} {pn apos cpos : Pos} (hN : X.N[i]? = some x) (hv : Vis X.env.scope x) (ha : JV X T W a ma)
    (hd : (x == ("__debug__" : Str)) = false := by decide) (hcd : (x == ("__classdict__" : Str)) = false := by decide)
    (hst : swapsWith (.Call (.Attribute (.Name x pn) "extend" apos) [a] [] cpos) none pos.line X.env = pure false := by rfl)
    (hbase : attributeBase (.Name x pn) "extend" X.env (eval (.Name x pn) X.env) = eval (.Name x pn) X.env := by rfl)
    (hfew : ((backTo cpos (starEach [a] X.env)).all (fun x => !x.1) && (backToKw cpos (keywordEach [] X.env)).all (fun x => x.1.isSome)
      && decide ([a].length + ([] : List Keyword).length + (if ([] : List Keyword).isEmpty then 0 else 1) < 30)) = true := by rfl)
    (hline : (apos.endLine == cpos.line) = true := by rfl) (hs : starEach [a] X.env = (false, eval a X.env) :: starEach [] X.env := by rfl) :
    JS X T W (.Expr (.Call (.Attribute (.Name x pn) "extend" apos) [a] [] cpos) pos) (sExt i ma) := by
  refine PSimp (ps_expr (pe_bm PySem.F.plainAttrs_list PySem.F.slot_list_extend PySem.F.type_list_extend mt_extend (pe_var hN hv hd hcd) (pa_cons ha pa_nil hs) hbase hfew hline hs rfl) hst) fun Dn σ H ⟨e, F, er, h⟩ => ?_
  obtain ⟨p, xs, h1, h2, h⟩ := chk_fin h er
  refine ⟨_, h1, .inl ⟨rfl, xs, SqL.of h2⟩, e, F, er, h.bind.mono fun d e1 H1 F1 er1 mv1 h3 v hv => ?_⟩
  obtain ⟨p', ds, ds', ys, g1, g2, g3, g4, g5⟩ := put_fin h3 er1
  rw [h1] at g1; cases g1
  split at g4
  · split at g4
    · rename_i hz
      cases g4
      rw [rp_lst] at hv
      obtain ⟨b, zs, rfl, hb, hl⟩ := hv
      exact ⟨p, b, ys, zs, rfl, rfl, g2, er1.sub _ _ hb, by rw [← g3.len, ← hl.len]; exact hz, g5 _ (g3.append hl)⟩
    · cases g4
  · cases g4
def sPutI (i : Nat) (mi m : M D) : M Fl := bnd m fun d => bnd (chkL i) fun _ => bnd mi fun k => putL i fun ds => match k with
  | .int j => (ixN ds.length j).map fun n => ds.set n d
  | _ => none
theorem js_putI {i : Nat} {x : Str} {pn ps : Pos} {mi : M D} (hN : X.N[i]? = some x) (hv : Vis X.env.scope x) (ha : JV X T W a ma) (hi : JV X T W b mi)
    (hd : (x == ("__debug__" : Str)) = false := by decide) (hcd : (x == ("__classdict__" : Str)) = false := by decide)
    (hs : swapsWithSole [.Subscript (.Name x pn) b ps] a pos.line X.env = pure false := by rfl) (hw : swappedStores [.Subscript (.Name x pn) b ps] a X.env = pure none := by rfl)
    (h1 : (assignEach [.Subscript (.Name x pn) b ps] X.env).map (·.2) = [assign (.Subscript (.Name x pn) b ps) X.env] := by rfl)
    (hb : ∀ v, assign (.Subscript (.Name x pn) b ps) X.env v = (do
      let ov ← holding [v] (eval (.Name x pn) X.env)
      let iv ← holding [v, ov] (eval b X.env)
      standAt ps
      holding [v, ov, iv] (setItem ov iv v)
      release [v, ov, iv] []) := by intro _; rfl) :
    JS X T W (.Assign [.Subscript (.Name x pn) b ps] a pos) (sPutI i mi ma) := by
  refine PSimp (ps_asg ha (pg_sub (pe_var hN hv hd hcd) hi set_list hb) hs hw h1) fun Dn σ H ⟨e, F, er, h⟩ => ⟨e, F, er, h.bind.mono fun d e1 H1 F1 er1 mv1 h3 v hv => ?_⟩
  obtain ⟨p, xs, g1, g2, h4⟩ := chk_fin h3 er1
  refine ⟨_, g1, e1, F1, er1, h4.bind.mono fun k e2 H2 F2 er2 mv2 h5 w hw => ?_⟩
  obtain ⟨p', ds, ds', ys, g3, g4, g5, g6, g7⟩ := put_fin h5 er2
  rw [g1] at g3; cases g3
  split at g6
  · rename_i j
    rw [Option.map_eq_some_iff] at g6
    obtain ⟨n, g6, rfl⟩ := g6
    rw [rp_int] at hw
    exact ⟨p, ys, j, n, rfl, hw, g4, by rw [← g5.len]; exact g6, g7 _ (RpL.set (Rp.mono mv2.sub _ _ hv) n g5)⟩
  · cases g6
end
end Sr
namespace Sr
open PySem hiding start
open PySem.Spec L2
open PyProof.Rows hiding St
inductive Rs where
  | ok (d o : D)
  | exc (x : Ex) (o : D)
  | bad
abbrev Fnc := D → List D → Rs
structure Fr (p : Option Addr) (H F H' F' : Hp) : Prop where
  sub : Same F F'
  fin : Same F' H'
  keep : ∀ a o, H a = some o → p ≠ some a → H' a = some o
  new : ∀ a o, F' a = some o → F a = some o ∨ H a = none
  there : ∀ a, H' a = none → H a = none
section
variable (K : PySem.W.Frag) (mg : Str → Option Value)
def Res (ro : Bool) (p : Option Addr) (d : D) (H : Hp) (Q : VK) (H' F' : Hp) : Prop :=
  if ro = true then ∀ q, H q = none → F' q = none → OwnAt K mg H' F' q d → Q (.ref q) H' else ∀ v, Rp K mg F' d v → Q v H'
def spF0 (ro : Bool) (n : Nat) (f : Fnc) : Sp := fun vs H Q E => ∃ (ds : List D) (F : Hp), Same F H ∧ RpL K mg F ds vs ∧ ds.length = n ∧
  match f .non ds with
  | .ok d _ => ∀ H' F', Fr none H F H' F' → Res K mg ro none d H Q H' F'
  | .exc x _ => ∀ H' F' cl dd, Fr none H F H' F' → XR K mg x cl dd H' F' → E cl dd H'
  | .bad => False
def spF1 (ro : Bool) (n : Nat) (f : Fnc) : Sp := fun vs H Q E => ∃ (p : Addr) (o : D) (ws : List V) (ds : List D) (F : Hp), vs = .ref p :: ws ∧ Same F H ∧ F p = none ∧ OwnAt K mg H F p o ∧ RpL K mg F ds ws ∧ ds.length + 1 = n ∧
  match f o ds with
  | .ok d o' => ∀ H' F', Fr (some p) H F H' F' → F' p = none → OwnAt K mg H' F' p o' → Res K mg ro (some p) d H Q H' F'
  | .exc x o' => ∀ H' F' cl dd, Fr (some p) H F H' F' → F' p = none → OwnAt K mg H' F' p o' → XR K mg x cl dd H' F' → E cl dd H'
  | .bad => False
end
def st0 (nl : Nat) (ds : List D) : En := ds.map Sl.val ++ List.replicate (nl - ds.length) Sl.no
def st1 (nl : Nat) (o : D) (ds : List D) : En := Sl.own o :: st0 (nl - 1) ds
def fin0 (ro : Bool) : Out Fl → Rs
  | .ok .nx _ => if ro = true then .bad else .ok .non .non
  | .ok (.rt d) _ => if ro = true then .bad else .ok d .non
  | .ok (.ro d) _ => .ok d .non
  | .ok _ _ => .bad
  | .exc x _ => .exc x .non
  | .bad => .bad
def fin1 (ro : Bool) : Out Fl → Rs
  | .ok fl e => match (e[0]? : Option Sl) with
    | some (Sl.own o) => match fl with
      | .nx => if ro = true then .bad else .ok .non o
      | .rt d => if ro = true then .bad else .ok d o
      | .ro d => .ok d o
      | _ => .bad
    | _ => .bad
  | .exc x e => match (e[0]? : Option Sl) with
    | some (Sl.own o) => .exc x o
    | _ => .bad
  | .bad => .bad
def mkF0 (nl : Nat) (ro : Bool) (s : M Fl) : Fnc := fun _ ds => fin0 ro (s (st0 nl ds))
def mkF1 (nl : Nat) (ro : Bool) (s : M Fl) : Fnc := fun o ds => fin1 ro (s (st1 nl o ds))
section
variable {K : PySem.W.Frag} {mg : Str → Option Value}
theorem st0_get {nl : Nat} {ds : List D} {i : Nat} {sl : Sl} (h : (st0 nl ds)[i]? = some sl) : (∃ d, ds[i]? = some d ∧ sl = .val d) ∨ sl = .no := by
  unfold st0 at h
  rw [List.getElem?_append] at h
  split at h
  · rw [List.getElem?_map] at h
    cases q : ds[i]? with
    | none => rw [q] at h; cases h
    | some d => rw [q] at h; cases h; exact .inl ⟨d, rfl, rfl⟩
  · rw [List.getElem?_replicate] at h
    split at h
    · cases h; exact .inr rfl
    · cases h
theorem ER.start0 {N : List Str} {vs : List V} {ds : List D} {H F : Hp} (s : Same F H) (l : RpL K mg F ds vs) (hl : vs.length ≤ N.length) : ER K mg [] (st0 N.length ds) (start N vs) H F := by
  refine ⟨s, fun i d h => ?_, fun i d h => ?_, fun i j p d d' h => ?_, ?_, fun p h => nomatch h⟩
  · rcases st0_get h with ⟨d', h1, h2⟩ | h2
    · cases h2
      obtain ⟨v, h3, h4⟩ := l.get h1
      refine ⟨v, ?_, h4⟩
      unfold start
      rw [List.getElem?_append_left (by rw [List.length_map]; exact (List.getElem?_eq_some_iff.mp h3).1), List.getElem?_map, h3]; rfl
    · cases h2
  · rcases st0_get h with ⟨d', h1, h2⟩ | h2 <;> cases h2
  · rcases st0_get h with ⟨d', h1, h2⟩ | h2 <;> cases h2
  · unfold st0 start
    simp only [List.length_append, List.length_map, List.length_replicate, l.len]
theorem ER.start1 {N : List Str} {ws : List V} {ds : List D} {H F : Hp} {p : Addr} {o : D} (s : Same F H) (fp : F p = none) (ow : OwnAt K mg H F p o) (l : RpL K mg F ds ws) (hl : ws.length + 1 ≤ N.length) : ER K mg [(0, p)] (st1 N.length o ds) (start N (.ref p :: ws)) H F := by
  have own : ∀ (i : Nat) (d : D), (st1 N.length o ds)[i]? = some (.own d) → i = 0 ∧ d = o := fun i d h => by
    unfold st1 at h
    cases i with
    | zero => simp at h; exact ⟨rfl, h.symm⟩
    | succ i =>
      rw [List.getElem?_cons_succ] at h
      rcases st0_get h with ⟨d', h1, h2⟩ | h2 <;> cases h2
  refine ⟨s, fun i d h => ?_, fun i d h => ?_, fun i j q d d' h h' => fun _ _ => by rw [(own i d h).1, (own j d' h').1], ?_, fun q h => ?_⟩
  · unfold st1 at h
    cases i with
    | zero => simp at h
    | succ i =>
      rw [List.getElem?_cons_succ] at h
      rcases st0_get h with ⟨d', h1, h2⟩ | h2
      · cases h2
        obtain ⟨v, h3, h4⟩ := l.get h1
        refine ⟨v, ?_, h4⟩
        unfold start
        rw [List.map_cons, List.cons_append, List.getElem?_cons_succ, List.getElem?_append_left (by rw [List.length_map]; exact (List.getElem?_eq_some_iff.mp h3).1), List.getElem?_map, h3]; rfl
      · cases h2
  · obtain ⟨rfl, rfl⟩ := own i d h
    exact ⟨p, rfl, fp, ow⟩
  · unfold st1 st0 start
    simp only [List.length_append, List.length_map, List.length_replicate, List.length_cons, l.len]
    omega
  · rw [List.mem_singleton] at h; subst h; rfl
theorem no_ow0 {nl : Nat} {ds : List D} {σ : St} {a : Addr} : ¬ Ow (st0 nl ds) σ a := by
  rintro ⟨i, d, h, _⟩
  rcases st0_get h with ⟨d', h1, h2⟩ | h2 <;> cases h2
theorem ow1 {N : List Str} {ds : List D} {o : D} {ws : List V} {p a : Addr} (h : Ow (st1 N.length o ds) (start N (.ref p :: ws)) a) : a = p := by
  obtain ⟨i, d, h, h'⟩ := h
  unfold st1 at h
  cases i with
  | zero =>
    have e : (start N (.ref p :: ws))[0]? = some (some (.ref p)) := rfl
    rw [e] at h'; cases h'; rfl
  | succ i =>
    rw [List.getElem?_cons_succ] at h
    rcases st0_get h with ⟨d', h1, h2⟩ | h2 <;> cases h2
theorem Mv.fr0 {nl : Nat} {ds : List D} {e' : En} {σ σ' : St} {H F H' F' : Hp} (er : ER K mg [] e' σ' H' F') (mv : Mv (st0 nl ds) σ H F e' σ' H' F') : Fr none H F H' F' :=
  ⟨mv.sub, er.sub, fun a o h _ => (mv.keep a o h no_ow0).1, fun a o h => by
    rcases mv.new a o h with h | h | h
    · exact .inl h
    · exact .inr h
    · exact (no_ow0 h).elim, mv.there⟩
theorem Mv.fr1 {N : List Str} {ds : List D} {o o' : D} {ws : List V} {p : Addr} {e' : En} {σ' : St} {H F H' F' : Hp} (er : ER K mg [(0, p)] e' σ' H' F') (h0 : e'[0]? = some (.own o')) (mv : Mv (st1 N.length o ds) (start N (.ref p :: ws)) H F e' σ' H' F') : Fr (some p) H F H' F' ∧ F' p = none ∧ OwnAt K mg H' F' p o' := by
  obtain ⟨p', h1, h2, h3⟩ := er.own 0 o' h0
  rw [er.pin (0, p) List.mem_cons_self] at h1; cases h1
  refine ⟨⟨mv.sub, er.sub, fun a u h n => (mv.keep a u h fun z => n (by rw [ow1 z])).1, fun a u h => ?_, mv.there⟩, h2, h3⟩
  rcases mv.new a u h with g | g | g
  · exact .inl g
  · exact .inr g
  · rw [ow1 g, h2] at h; cases h
end
section
variable {P : Program} {w : World} {K : PySem.W.Frag} {mg : Str → Option Value} {base : Heap} {x qual : Str} {params : Arguments} {body : List Stmt} {scope : Scope} {dvs : List V} {kws : List (Str × V)} {f : Addr} {fd : FuncData}
abbrev WE0 (E : XK) : WX := fun cls d _ H => E cls d H
theorem res_v {ro : Bool} {p : Option Addr} {d : D} {H H' F' : Hp} {Q : VK} {v : V} (hr : ro = false) (h : Res K mg ro p d H Q H' F') (r : Rp K mg F' d v) : Q v H' := by
  subst hr; exact h v r
theorem res_o {d : D} {H F H' F' : Hp} {Q : VK} {q : Addr} {p : Option Addr} {ro : Bool} {C : Hp → Hp → Prop} (h : ∀ H' F', Fr p H F H' F' → C H' F' → Res K mg ro p d H Q H' F') (hC : ∀ F'', Same F' F'' → (∀ o, F'' = upd F' q o → C H' F'')) (c0 : C H' F') (fr : Fr p H F H' F') (hq : H q = none) (fq : F' q = none) (ow : OwnAt K mg H' F' q d) : Q (.ref q) H' := by
  cases ro with
  | true => exact h H' F' fr c0 q hq fq ow
  | false =>
    obtain ⟨o, ho⟩ := ow.there
    have s : Same F' (upd F' q o) := same_upd fq
    refine h H' (upd F' q o) ⟨fr.sub.trans s, fun b u e => ?_, fr.keep, fun b u e => ?_, fr.there⟩ (hC _ s o rfl) _ (ow.rp fq ho)
    · by_cases hb : b = q
      · subst hb; rw [upd_same] at e; cases e; exact ho
      · rw [upd_ne hb] at e; exact fr.fin b u e
    · by_cases hb : b = q
      · subst hb; exact .inr hq
      · rw [upd_ne hb] at e; exact fr.new b u e
structure FnG (P : Program) (w : World) (K : PySem.W.Frag) (mg : Str → Option Value) (base : Heap) (k : Nat) (f : Addr) (fd : FuncData) (ps : List Str) (sp : Sp) : Prop where
  len : ∀ vs H Q E, sp vs H Q E → vs.length = ps.length
  run : ∀ (A : Around) (outer : List Env) (s : Shared) (H : Hp) (args : Args) (us : List Value) (vs : List V) (Q : VK) (E : XK),
    Room k A → A.guards = some [] → Env0 P w K mg base A outer s H → BindsTo s fd args (ps.zip us) → Vals vs us → sp vs H Q E →
    codeAny (model P w) A (.call (.ref f) args) (CR (L2.CX P w) outer P w H s Q E) s
theorem FnG.mono {P : Program} {w : World} {K : PySem.W.Frag} {mg : Str → Option Value} {base : Heap} {j k : Nat} {f : Addr} {fd : FuncData} {ps : List Str} {sp : Sp} (F : FnG P w K mg base j f fd ps sp) (h : j ≤ k) : FnG P w K mg base k f fd ps sp :=
  ⟨F.len, fun A outer s H args us vs Q E hr => F.run A outer s H args us vs Q E (hr.mono h)⟩
theorem fnG_of {N ps : List Str} {k : Nat} {sp : Sp} (G : FunD K x qual params body scope dvs kws f fd) (S : FnScope N ps scope) (len : ∀ vs H Q E, sp vs H Q E → vs.length = ps.length)
    (hbody : ∀ (cdv : Value) (A : Around) (outer : List Env) (s : Shared) (H : Hp) (vs : List V) (Q : VK) (E : XK), Room k (A.deeper (envOfC qual scope s.heap.objs.size f cdv)) → A.guards = some [] → sp vs H Q E →
      ∃ t, PSs (cxOf (L2.CX P w) P w K mg base N qual scope f cdv A outer s H E) body t ∧ t { nx := fun _ H' => Q .non H', rt := Q } (start N vs) H) :
    FnG P w K mg base (k + 1) f fd ps sp := by
  obtain ⟨oc, od, dV, kV, doc, pm, an, cdv, ct, osl, rfl, lk, hcd, _, _⟩ := G.ex
  refine ⟨len, fun A outer s H args us vs Q E hr hgu e0 hb r hsp => ?_⟩
  have KX : K.In s.heap := e0.mod.kin.keeps fun b o q => (e0.bs b o q).1
  have lim : s.heap.NoLimit := e0.mod.nolimit.keeps fun b o q => (e0.bs b o q).1
  refine codeAny_call_function hr.depth (KX _ _ lk) rfl S.co S.gen rfl (PySem.W.codeRec_of KX hcd) (hb _ _ _ _ ?_)
  refine wpAny_newFunctionEnv_cells S.kind (fun ⟨n, v⟩ hy => ?_) fun env he s1 y => ?_
  · rcases S.par n (List.of_mem_zip hy).1 with q | q
    · exact .inl q
    · exact .inr ⟨q, PySem.W.cellsFrom_some _ _ _ (.inl q)⟩
  · subst he
    refine ⟨lim.keeps y.toInCall.keep, codeAny_func ?_⟩
    obtain ⟨t, ht, hq⟩ := hbody cdv A outer s H vs Q E (hr.deeper _) hgu hsp
    have I := inv_start (CX := L2.CX P w) (mg := mg) (E := E) S hr.hd e0 (len _ _ _ _ hsp) r y
    refine wpAny_mono (ht.run [] s1 (start N vs) H _ I hq) (fun fl s' hs => ?_) fun _ _ hs => hs
    match fl, hs with
    | .ret u, ⟨v, σ', H', J, rv, q⟩ => exact ⟨v, H', J.os, J.bare, J.base, J.hok, rv, q⟩
    | .next, ⟨σ', H', J, q⟩ => exact ⟨.non, H', J.os, J.bare, J.base, J.hok, rfl, q⟩
    | .brk, ⟨_, _, _, q⟩ => exact q.elim
    | .cont, ⟨_, _, _, q⟩ => exact q.elim
theorem fn0 {N ps : List Str} {k nl np : Nat} {ro : Bool} {s : M Fl} (hnl : N.length = nl) (hnp : ps.length = np) (G : FunD K x qual params body scope dvs kws f fd) (S : FnScope N ps scope)
    (hb : ∀ (cdv : Value) (A : Around) (outer : List Env) (s0 : Shared) (H : Hp) (E : XK), Room k (A.deeper (envOfC qual scope s0.heap.objs.size f cdv)) → A.guards = some [] → JSs (cxOf (L2.CX P w) P w K mg base N qual scope f cdv A outer s0 H E) [] (WE0 E) body s) :
    FnG P w K mg base (k + 1) f fd ps (spF0 K mg ro np (mkF0 nl ro s)) := by
  subst hnl hnp
  refine fnG_of G S (fun vs H Q E h => ?_) (fun cdv A outer s0 H vs Q E hr hgu h => ?_)
  · obtain ⟨ds, F, _, l, hl, _⟩ := h
    rw [← l.len]; exact hl
  · obtain ⟨ds, F, sub, l, hl, h⟩ := h
    have hN : ps.length ≤ N.length := by have := congrArg List.length S.pre; rw [List.length_take] at this; omega
    refine ⟨_, hb cdv A outer s0 H E hr hgu, st0 N.length ds, F, ER.start0 sub l (by rw [← l.len]; omega), ?_⟩
    unfold RunS
    unfold mkF0 at h
    cases q : s (st0 N.length ds) with
    | ok fl e1 =>
      rw [q] at h
      cases fl with
      | nx =>
        cases ro with
        | true => exact h.elim
        | false => exact fun σ' H' F' er mv => res_v rfl (h H' F' (mv.fr0 er)) (by rw [rp_non])
      | rt d =>
        cases ro with
        | true => exact h.elim
        | false => exact fun σ' H' F' v er mv r => res_v rfl (h H' F' (mv.fr0 er)) r
      | ro d => exact fun σ' H' F' p er mv hp fp np ow => res_o (C := fun _ _ => True) (fun H' F' fr _ => h H' F' fr) (fun _ _ _ _ => trivial) trivial (mv.fr0 er) (hp.elim id fun z => (no_ow0 z).elim) fp ow
      | bk => exact h.elim
      | ct => exact h.elim
    | exc x e1 =>
      rw [q] at h
      intro σ' H' F' cl dd er mv xr
      exact h H' F' cl dd (mv.fr0 er) xr
    | bad => rw [q] at h; exact h.elim
theorem fn1 {N ps : List Str} {k nl np : Nat} {ro : Bool} {s : M Fl} (hnl : N.length = nl) (hnp : ps.length = np) (G : FunD K x qual params body scope dvs kws f fd) (S : FnScope N ps scope)
    (hb : ∀ (cdv : Value) (A : Around) (outer : List Env) (s0 : Shared) (H : Hp) (E : XK) (p : Addr), Room k (A.deeper (envOfC qual scope s0.heap.objs.size f cdv)) → A.guards = some [] → JSs (cxOf (L2.CX P w) P w K mg base N qual scope f cdv A outer s0 H E) [(0, p)] (WE0 E) body s) :
    FnG P w K mg base (k + 1) f fd ps (spF1 K mg ro np (mkF1 nl ro s)) := by
  subst hnl hnp
  refine fnG_of G S (fun vs H Q E h => ?_) (fun cdv A outer s0 H vs Q E hr hgu h => ?_)
  · obtain ⟨p, o, ws, ds, F, rfl, _, _, _, l, hl, _⟩ := h
    rw [List.length_cons, ← l.len]; exact hl
  · obtain ⟨p, o, ws, ds, F, rfl, sub, fp, ow, l, hl, h⟩ := h
    have hN : ps.length ≤ N.length := by have := congrArg List.length S.pre; rw [List.length_take] at this; omega
    refine ⟨_, hb cdv A outer s0 H E p hr hgu, st1 N.length o ds, F, ER.start1 sub fp ow l (by rw [← l.len]; omega), ?_⟩
    unfold RunS
    unfold mkF1 at h
    cases q : s (st1 N.length o ds) with
    | ok fl e1 =>
      rw [q] at h
      unfold fin1 at h
      dsimp only at h
      cases q0 : (e1[0]? : Option Sl) with
      | none => rw [q0] at h; exact h.elim
      | some sl =>
        rw [q0] at h
        cases sl with
        | no => exact h.elim
        | val d => exact h.elim
        | own o' =>
          dsimp only at h
          cases fl with
          | nx =>
            cases ro with
            | true => exact h.elim
            | false =>
              intro σ' H' F' er mv
              obtain ⟨f1, f2, f3⟩ := mv.fr1 er q0
              exact res_v rfl (h H' F' f1 f2 f3) (by rw [rp_non])
          | rt d =>
            cases ro with
            | true => exact h.elim
            | false =>
              intro σ' H' F' v er mv r
              obtain ⟨f1, f2, f3⟩ := mv.fr1 er q0
              exact res_v rfl (h H' F' f1 f2 f3) r
          | ro d =>
            intro σ' H' F' pp er mv hp fp' np ow'
            obtain ⟨f1, f2, f3⟩ := mv.fr1 er q0
            obtain ⟨o1, ho1⟩ := ow.there
            have hpp : p ≠ pp := by
              rintro rfl
              exact np ⟨0, o', q0, er.pin (0, p) List.mem_cons_self⟩
            have hp : H pp = none := hp.elim id fun z => absurd (ow1 z).symm hpp
            refine res_o (ro := ro) (C := fun H'' F'' => F'' p = none ∧ OwnAt K mg H'' F'' p o') (fun H2 F2 fr c => h H2 F2 fr c.1 c.2) (fun F'' sm o e => ⟨?_, f3.keep sm fun _ z => z⟩) ⟨f2, f3⟩ f1 hp fp' ow'
            rw [e, upd_ne hpp]; exact f2
          | bk => exact h.elim
          | ct => exact h.elim
    | exc x e1 =>
      rw [q] at h
      unfold fin1 at h
      dsimp only at h
      cases q0 : (e1[0]? : Option Sl) with
      | none => rw [q0] at h; exact h.elim
      | some sl =>
        rw [q0] at h
        cases sl with
        | no => exact h.elim
        | val d => exact h.elim
        | own o' =>
          intro σ' H' F' cl dd er mv xr
          obtain ⟨f1, f2, f3⟩ := mv.fr1 er q0
          exact h H' F' cl dd f1 f2 f3 xr
    | bad => rw [q] at h; exact h.elim
end
end Sr
namespace Sr
open PySem hiding start
open PySem.Spec L2
open PyProof.Rows hiding St
section
variable {K : PySem.W.Frag} {mg : Str → Option Value} {T : Pn} {W : WX} {e : En} {σ : St} {H F H' F' : Hp}
theorem ER.fr (er : ER K mg T e σ H F) (fr : Fr none H F H' F') : ER K mg T e σ H' F' ∧ Mv e σ H F e σ H' F' := by
  have s : Same H H' := fun a o h => fr.keep a o h (fun z => nomatch z)
  refine ⟨⟨fr.fin, fun i d h => ?_, fun i d h => ?_, er.inj, er.len, er.pin⟩, fr.sub, fun a o h n => ⟨s a o h, n⟩, fun a o h => ?_, fr.there⟩
  · obtain ⟨v, h1, h2⟩ := er.val i d h
    exact ⟨v, h1, Rp.mono fr.sub _ _ h2⟩
  · obtain ⟨p, h1, h2, h3⟩ := er.own i d h
    refine ⟨p, h1, ?_, h3.keep fr.sub (s p)⟩
    obtain ⟨o, ho⟩ := h3.there
    cases q : F' p with
    | none => rfl
    | some u =>
      rcases fr.new p u q with z | z
      · rw [h2] at z; cases z
      · rw [ho] at z; cases z
  · rcases fr.new a o h with z | z
    · exact .inl z
    · exact .inr (.inl z)
theorem ER.fr1 {i : Nat} {o o' : D} {p : Addr} (er : ER K mg T e σ H F) (h0 : e[i]? = some (.own o)) (hp : σ[i]? = some (some (.ref p))) (fr : Fr (some p) H F H' F') (fp : F' p = none) (ow : OwnAt K mg H' F' p o') : ER K mg T (e.set i (.own o')) σ H' F' ∧ Mv e σ H F (e.set i (.own o')) σ H' F' := by
  have hi : i < e.length := (List.getElem?_eq_some_iff.mp h0).1
  have own : ∀ (j : Nat) (x : D), (e.set i (Sl.own o'))[j]? = some (.own x) → (j ≠ i ∧ e[j]? = some (.own x)) ∨ (j = i ∧ x = o') := fun j x q => by
    by_cases hj : j = i
    · subst hj
      rw [List.getElem?_set_self hi] at q; cases q; exact .inr ⟨rfl, rfl⟩
    · rw [List.getElem?_set_ne (Ne.symm hj)] at q; exact .inl ⟨hj, q⟩
  have iff : ∀ a, Ow (e.set i (Sl.own o')) σ a → Ow e σ a := fun a ⟨j, x, q1, q2⟩ => by
    rcases own j x q1 with ⟨_, w⟩ | ⟨rfl, _⟩
    · exact ⟨j, x, w, q2⟩
    · exact ⟨j, o, h0, q2⟩
  refine ⟨⟨fr.fin, fun j d h => ?_, fun j d h => ?_, fun j k q x y q1 q2 q3 q4 => ?_, by rw [List.length_set]; exact er.len, er.pin⟩, fr.sub, fun a u h n => ⟨fr.keep a u h fun z => n ?_, fun z => n (iff a z)⟩, fun a u h => ?_, fr.there⟩
  · have hj : j ≠ i := by rintro rfl; rw [List.getElem?_set_self hi] at h; cases h
    rw [List.getElem?_set_ne (Ne.symm hj)] at h
    obtain ⟨v, h1, h2⟩ := er.val j d h
    exact ⟨v, h1, Rp.mono fr.sub _ _ h2⟩
  · rcases own j d h with ⟨hj, w⟩ | ⟨rfl, rfl⟩
    · obtain ⟨q, h1, h2, h3⟩ := er.own j d w
      have hqp : q ≠ p := by
        rintro rfl
        exact hj (er.inj j i q d o w h0 h1 hp)
      obtain ⟨u, hu⟩ := h3.there
      refine ⟨q, h1, ?_, h3.keep fr.sub fun v hv => fr.keep q v hv fun z => hqp (Option.some.inj z).symm⟩
      cases c : F' q with
      | none => rfl
      | some y =>
        rcases fr.new q y c with z | z
        · rw [h2] at z; cases z
        · rw [hu] at z; cases z
    · exact ⟨p, hp, fp, ow⟩
  · rcases own j x q1 with ⟨hj, w1⟩ | ⟨hj, _⟩ <;> rcases own k y q2 with ⟨hk, w2⟩ | ⟨hk, _⟩
    · exact er.inj j k q x y w1 w2 q3 q4
    · rw [hk] at q4 ⊢; exact er.inj j i q x o w1 h0 q3 q4
    · rw [hj] at q3 ⊢; exact er.inj i k q o y h0 w2 q3 q4
    · rw [hj, hk]
  · cases z; exact ⟨i, o, h0, hp⟩
  · rcases fr.new a u h with z | z
    · exact .inl z
    · exact .inr (.inl z)
end
def ap0 (f : Fnc) (ds : List D) : M D := fun e => match f .non ds with
  | .ok d _ => .ok d e
  | .exc x _ => .exc x e
  | .bad => .bad
def ap1 (f : Fnc) (i : Nat) (ds : List D) : M D := fun e => match e[i]? with
  | some (.own o) => match f o ds with
    | .ok d o' => .ok d (e.set i (.own o'))
    | .exc x o' => .exc x (e.set i (.own o'))
    | .bad => .bad
  | _ => .bad
def mC0 (f : Fnc) (dds : List D) (ms : M (List D)) : M D := bnd ms fun ds => ap0 f (ds ++ dds)
def chkO (i : Nat) : M Unit := fun e => match e[i]? with
  | some (.own _) => .ok () e
  | _ => .bad
def mC1 (f : Fnc) (i : Nat) (dds : List D) (ms : M (List D)) : M D := bnd (chkO i) fun _ => bnd ms fun ds => ap1 f i (ds ++ dds)
section
variable {K : PySem.W.Frag} {mg : Str → Option Value} {T : Pn} {W : WX} {e : En} {σ : St} {H F : Hp} {f : Fnc} {ds : List D} {n : Nat}
theorem ap0_v {vs : List V} {Q : VK} (h : RunAt K mg T W e F (ap0 f ds) σ H fun d _ H' F' => ∀ v, Rp K mg F' d v → Q v H') (er : ER K mg T e σ H F) (l : RpL K mg F ds vs) (hn : ds.length = n) : spF0 K mg false n f vs H Q (fun cl dd H' => W cl dd σ H') := by
  refine ⟨ds, F, er.sub, l, hn, ?_⟩
  unfold RunAt ap0 at h
  cases q : f .non ds with
  | ok d o =>
    simp only [q] at h
    intro H' F' fr
    obtain ⟨er', mv⟩ := er.fr fr
    exact h H' F' er' mv
  | exc x o =>
    simp only [q] at h
    intro H' F' cl dd fr xr
    obtain ⟨er', mv⟩ := er.fr fr
    exact h H' F' cl dd er' mv xr
  | bad => simp only [q] at h
theorem ap0_o {vs : List V} {Q : VK} {H0 : Hp} (h : RunAt K mg T W e F (ap0 f ds) σ H fun d e' H' F' => ∀ p, H0 p = none → F' p = none → ¬ Ow e' σ p → OwnAt K mg H' F' p d → Q (.ref p) H') (hH : ∀ p, H p = none → H0 p = none) (er : ER K mg T e σ H F) (l : RpL K mg F ds vs) (hn : ds.length = n) : spF0 K mg true n f vs H Q (fun cl dd H' => W cl dd σ H') := by
  refine ⟨ds, F, er.sub, l, hn, ?_⟩
  unfold RunAt ap0 at h
  cases q : f .non ds with
  | ok d o =>
    simp only [q] at h
    intro H' F' fr p hp fp ow
    obtain ⟨er', mv⟩ := er.fr fr
    exact h H' F' er' mv p (hH p hp) fp (Ow.ne_of_free er hp) ow
  | exc x o =>
    simp only [q] at h
    intro H' F' cl dd fr xr
    obtain ⟨er', mv⟩ := er.fr fr
    exact h H' F' cl dd er' mv xr
  | bad => simp only [q] at h
theorem ap1_v {i : Nat} {p : Addr} {vs : List V} {Q : VK} (h : RunAt K mg T W e F (ap1 f i ds) σ H fun d _ H' F' => ∀ v, Rp K mg F' d v → Q v H') (er : ER K mg T e σ H F) (hp : σ[i]? = some (some (.ref p))) (l : RpL K mg F ds vs) (hn : ds.length + 1 = n) : spF1 K mg false n f (.ref p :: vs) H Q (fun cl dd H' => W cl dd σ H') := by
  unfold RunAt ap1 at h
  cases q0 : e[i]? with
  | none => simp only [q0] at h
  | some sl =>
    cases sl with
    | no => simp only [q0] at h
    | val d => simp only [q0] at h
    | own o =>
      simp only [q0] at h
      obtain ⟨p', h1, h2, h3⟩ := er.own i o q0
      rw [hp] at h1; cases h1
      refine ⟨p, o, vs, ds, F, rfl, er.sub, h2, h3, l, hn, ?_⟩
      cases q : f o ds with
      | ok d o' =>
        simp only [q] at h
        intro H' F' fr fp ow
        obtain ⟨er', mv⟩ := er.fr1 q0 hp fr fp ow
        exact h H' F' er' mv
      | exc x o' =>
        simp only [q] at h
        intro H' F' cl dd fr fp ow xr
        obtain ⟨er', mv⟩ := er.fr1 q0 hp fr fp ow
        exact h H' F' cl dd er' mv xr
      | bad => simp only [q] at h
theorem ap1_o {i : Nat} {p : Addr} {vs : List V} {Q : VK} {H0 : Hp} (h : RunAt K mg T W e F (ap1 f i ds) σ H fun d e' H' F' => ∀ p, H0 p = none → F' p = none → ¬ Ow e' σ p → OwnAt K mg H' F' p d → Q (.ref p) H') (hH : ∀ p, H p = none → H0 p = none) (er : ER K mg T e σ H F) (hp : σ[i]? = some (some (.ref p))) (l : RpL K mg F ds vs) (hn : ds.length + 1 = n) : spF1 K mg true n f (.ref p :: vs) H Q (fun cl dd H' => W cl dd σ H') := by
  unfold RunAt ap1 at h
  cases q0 : e[i]? with
  | none => simp only [q0] at h
  | some sl =>
    cases sl with
    | no => simp only [q0] at h
    | val d => simp only [q0] at h
    | own o =>
      simp only [q0] at h
      obtain ⟨p', h1, h2, h3⟩ := er.own i o q0
      rw [hp] at h1; cases h1
      refine ⟨p, o, vs, ds, F, rfl, er.sub, h2, h3, l, hn, ?_⟩
      cases q : f o ds with
      | ok d o' =>
        simp only [q] at h
        intro H' F' fr fp ow r hr fr' ow'
        obtain ⟨er', mv⟩ := er.fr1 q0 hp fr fp ow
        refine h H' F' er' mv r (hH r hr) fr' ?_ ow'
        rintro ⟨j, x, q1, q2⟩
        refine Ow.ne_of_free er hr ?_
        by_cases hj : j = i
        · subst hj; exact ⟨j, o, q0, q2⟩
        · rw [List.getElem?_set_ne (Ne.symm hj)] at q1; exact ⟨j, x, q1, q2⟩
      | exc x o' =>
        simp only [q] at h
        intro H' F' cl dd fr fp ow xr
        obtain ⟨er', mv⟩ := er.fr1 q0 hp fr fp ow
        exact h H' F' cl dd er' mv xr
      | bad => simp only [q] at h
theorem chkO_fin {A : Type} {i : Nat} {k : M A} {P : A → En → Hp → Hp → Prop} (h : RunAt K mg T W e F (bnd (chkO i) fun _ => k) σ H P) (er : ER K mg T e σ H F) : ∃ p, σ[i]? = some (some (.ref p)) ∧ RunAt K mg T W e F k σ H P := by
  unfold RunAt bnd chkO at h
  cases q : e[i]? with
  | none => simp only [q] at h
  | some sl =>
    cases sl with
    | no => simp only [q] at h
    | val d => simp only [q] at h
    | own d =>
      simp only [q] at h
      obtain ⟨p, h1, h2, h3⟩ := er.own i d q
      exact ⟨p, h1, h⟩
end
theorem len_nil {e e' : En} {ds : List D} (h : mNil e = .ok ds e') : ds.length = 0 := by cases h; rfl
theorem len_cons {n : Nat} {m : M D} {ms : M (List D)} (hh : ∀ (ds : List D) (e e' : En), ms e = .ok ds e' → ds.length = n) (ds : List D) (e e' : En) (h : mCons m ms e = .ok ds e') : ds.length = n + 1 := by
  unfold mCons bnd at h
  cases q : m e with
  | ok d e1 =>
    simp only [q] at h
    cases q2 : ms e1 with
    | ok d2 e2 => simp only [q2, ret] at h; cases h; rw [List.length_cons, hh _ _ _ q2]
    | exc x e2 => simp only [q2] at h; cases h
    | bad => simp only [q2] at h; cases h
  | exc x e1 => simp only [q] at h; cases h
  | bad => simp only [q] at h; cases h
structure JL (X : Cx) (T : Pn) (W : WX) (es : List Expr) (ms : M (List D)) : Prop where
  ja : JA X T W es ms
  ln : ∀ (ds : List D) (e e' : En), ms e = .ok ds e' → ds.length = es.length
theorem jl_nil {X : Cx} {T : Pn} {W : WX} : JL X T W [] mNil := ⟨ja_nil, fun _ _ _ h => len_nil h⟩
theorem jl_cons {X : Cx} {T : Pn} {W : WX} {e : Expr} {es : List Expr} {m : M D} {ms : M (List D)} (ha : JV X T W e m) (hr : JL X T W es ms) (hs : starEach (e :: es) X.env = (false, eval e X.env) :: starEach es X.env := by rfl) : JL X T W (e :: es) (mCons m ms) :=
  ⟨ja_cons ha hr.ja hs, len_cons hr.ln⟩
structure Fn (X : Cx) (k : Nat) (x : Str) (sp : Sp) (ps : List Str) (dvs : List V) : Prop where
  ex : ∃ f fd ds, FnG X.prog X.w X.K X.mg X.base k f fd ps sp ∧ X.mg x = some (.ref f) ∧ PySem.W.keepIn X.K (.ref f) = true ∧ Binds X.K fd ps ds ∧ Vals dvs ds
section
variable {X : Cx} {k : Nat} {f : Addr} {fd : FuncData} {ps : List Str} {sp : Sp} {dvs : List V} {ds : List Value} {W : WX} {x : Str} {p pos : Pos} {e : Expr} {es : List Expr} {t : TA}
theorem run_g {pins : List (Addr × Obj)} {σ : St} {H : Hp} {s : Shared} {Q : VK} {us : List Value} {vs : List V} (F : FnG X.prog X.w X.K X.mg X.base k f fd ps sp) (hr : Room k X.A) (hgu : X.A.guards = some [])
    (hb : Binds X.K fd ps ds) (hd : Vals dvs ds) (tk : Takes X W) (I : Inv X pins σ H s) (r : Vals vs us) (h : sp (vs ++ dvs) H Q (WE W σ)) : wpAny (model X.prog X.w) X.A (call (.ref f) us) (EP X pins σ Q) X.xe s := by
  have r2 : Vals (vs ++ dvs) (us ++ ds) := r.append hd
  have hl : (us ++ ds).length = ps.length := by rw [← r2.length]; exact F.len _ _ _ _ h
  refine wpAny_call (codeAny_mono (F.run X.A X.stack s H _ _ _ Q _ hr hgu I.env0 (hb s us I.kIn hl) r2 h) ?_)
  intro r s' hq
  match r, hq with
  | .error e, hq => exact passAt tk σ pins H s e s' I hq
  | .ok (.ret u), hq => exact I.after hq
  | .ok .next, hq => exact hq.elim
  | .ok .brk, hq => exact hq.elim
  | .ok .cont, hq => exact hq.elim
theorem pe_callG (F : FnG X.prog X.w X.K X.mg X.base k f fd ps sp) (hr : Room k X.A) (hgu : X.A.guards = some []) (hg : Gl X x) (hm : X.mg x = some (.ref f)) (hk : PySem.W.keepIn X.K (.ref f) = true) (hb : Binds X.K fd ps ds) (hd : Vals dvs ds) (tk : Takes X W)
    (ha : PA X (e :: es) t) (hdb : (x == ("__debug__" : Str)) = false := by decide) (he : starEach (e :: es) X.env = (false, eval e X.env) :: starEach es X.env := by rfl) (hpl : (backTo pos (starEach es X.env)).any (·.1) = false := by rfl) :
    PE X (.Call (.Name x p) (e :: es) [] pos) (tCallSD sp dvs (fun σ => WE W σ) t) := by
  refine ⟨fun pins s σ H Q I h => wpAny_Call_Name_kw (ld_glob I hg hm ?_ hdb)⟩
  refine PySem.W.callWith_K (h₀ := X.base) I.ok.mod.kin hk (thn (ha.run pos pins s σ H _ I h) fun us s1 ⟨vs, H1, I1, r, q⟩ => ⟨I1.kIn, ?_⟩) he hpl
  exact run_g F hr hgu hb hd tk I1 r q
end
section
variable {X : Cx} {T : Pn} {W : WX} {pos p : Pos} {a b : Expr} {es : List Expr} {ma mb : M D} {ms : M (List D)} {f : Fnc} {k n : Nat} {x : Str} {ps : List Str} {dvs : List V} {dds : List D}
theorem jv_call0 (G : Fn X k x (spF0 X.K X.mg false n f) ps dvs) (hr : Room k X.A) (hgu : X.A.guards = some []) (tk : Takes X W) (hdd : ∀ F, RpL X.K X.mg F dds dvs) (hg : Gl X x) (ha : JL X T W (a :: es) ms) (hn : (a :: es).length + dds.length = n := by rfl)
    (hdb : (x == ("__debug__" : Str)) = false := by decide) (he : starEach (a :: es) X.env = (false, eval a X.env) :: starEach es X.env := by rfl) (hpl : (backTo pos (starEach es X.env)).any (·.1) = false := by rfl) :
    JV X T W (.Call (.Name x p) (a :: es) [] pos) (mC0 f dds ms) := by
  obtain ⟨fa, fd, ds0, FO, hm, hk, hb, hd⟩ := G.ex
  refine PEimp (pe_callG FO hr hgu hg hm hk hb hd tk ha.ja hdb he hpl) fun σ H Q ⟨e, F, er, h⟩ => ⟨e, F, er, ?_⟩
  have hb2 := h.bind
  unfold RunAt at hb2 ⊢
  cases q : ms e with
  | ok ds e1 =>
    rw [q] at hb2
    intro H1 F1 er1 mv1 vs hvs
    exact ap0_v (hb2 H1 F1 er1 mv1) er1 (hvs.append (hdd F1)) (by rw [List.length_append, ha.ln ds e e1 q]; exact hn)
  | exc x e1 => rw [q] at hb2; exact hb2
  | bad => rw [q] at hb2; exact hb2
theorem jo_call0 (G : Fn X k x (spF0 X.K X.mg true n f) ps dvs) (hr : Room k X.A) (hgu : X.A.guards = some []) (tk : Takes X W) (hdd : ∀ F, RpL X.K X.mg F dds dvs) (hg : Gl X x) (ha : JL X T W (a :: es) ms) (hn : (a :: es).length + dds.length = n := by rfl)
    (hdb : (x == ("__debug__" : Str)) = false := by decide) (he : starEach (a :: es) X.env = (false, eval a X.env) :: starEach es X.env := by rfl) (hpl : (backTo pos (starEach es X.env)).any (·.1) = false := by rfl) :
    JO X T W (.Call (.Name x p) (a :: es) [] pos) (mC0 f dds ms) := by
  obtain ⟨fa, fd, ds0, FO, hm, hk, hb, hd⟩ := G.ex
  refine PEimp (pe_callG FO hr hgu hg hm hk hb hd tk ha.ja hdb he hpl) fun σ H Q ⟨e, F, er, h⟩ => ⟨e, F, er, ?_⟩
  have hb2 := h.bind
  unfold RunAt at hb2 ⊢
  cases q : ms e with
  | ok ds e1 =>
    rw [q] at hb2
    intro H1 F1 er1 mv1 vs hvs
    exact ap0_o (hb2 H1 F1 er1 mv1) mv1.there er1 (hvs.append (hdd F1)) (by rw [List.length_append, ha.ln ds e e1 q]; exact hn)
  | exc x e1 => rw [q] at hb2; exact hb2
  | bad => rw [q] at hb2; exact hb2
theorem jv_call1 {i : Nat} {y : Str} {py : Pos} (G : Fn X k x (spF1 X.K X.mg false n f) ps dvs) (hr : Room k X.A) (hgu : X.A.guards = some []) (tk : Takes X W) (hdd : ∀ F, RpL X.K X.mg F dds dvs) (hg : Gl X x) (hN : X.N[i]? = some y) (hv : Vis X.env.scope y) (ha : JL X T W es ms) (hn : es.length + dds.length + 1 = n := by rfl)
    (hdb : (x == ("__debug__" : Str)) = false := by decide) (he : starEach (.Name y py :: es) X.env = (false, eval (.Name y py) X.env) :: starEach es X.env := by rfl) (hpl : (backTo pos (starEach es X.env)).any (·.1) = false := by rfl)
    (hd2 : (y == ("__debug__" : Str)) = false := by decide) (hcd : (y == ("__classdict__" : Str)) = false := by decide) :
    JV X T W (.Call (.Name x p) (.Name y py :: es) [] pos) (mC1 f i dds ms) := by
  obtain ⟨fa, fd, ds0, FO, hm, hk, hb, hd⟩ := G.ex
  refine PEimp (pe_callG FO hr hgu hg hm hk hb hd tk (pa_cons (pe_var hN hv hd2 hcd) ha.ja he) hdb he hpl) fun σ H Q ⟨e, F, er, h⟩ => ?_
  obtain ⟨p, hp, h⟩ := chkO_fin h er
  refine ⟨_, hp, e, F, er, ?_⟩
  have hb2 := h.bind
  unfold RunAt at hb2 ⊢
  cases q : ms e with
  | ok ds e1 =>
    rw [q] at hb2
    intro H1 F1 er1 mv1 vs hvs
    exact ap1_v (hb2 H1 F1 er1 mv1) er1 hp (hvs.append (hdd F1)) (by rw [List.length_append, ha.ln ds e e1 q]; exact hn)
  | exc x e1 => rw [q] at hb2; exact hb2
  | bad => rw [q] at hb2; exact hb2
theorem jo_call1 {i : Nat} {y : Str} {py : Pos} (G : Fn X k x (spF1 X.K X.mg true n f) ps dvs) (hr : Room k X.A) (hgu : X.A.guards = some []) (tk : Takes X W) (hdd : ∀ F, RpL X.K X.mg F dds dvs) (hg : Gl X x) (hN : X.N[i]? = some y) (hv : Vis X.env.scope y) (ha : JL X T W es ms) (hn : es.length + dds.length + 1 = n := by rfl)
    (hdb : (x == ("__debug__" : Str)) = false := by decide) (he : starEach (.Name y py :: es) X.env = (false, eval (.Name y py) X.env) :: starEach es X.env := by rfl) (hpl : (backTo pos (starEach es X.env)).any (·.1) = false := by rfl)
    (hd2 : (y == ("__debug__" : Str)) = false := by decide) (hcd : (y == ("__classdict__" : Str)) = false := by decide) :
    JO X T W (.Call (.Name x p) (.Name y py :: es) [] pos) (mC1 f i dds ms) := by
  obtain ⟨fa, fd, ds0, FO, hm, hk, hb, hd⟩ := G.ex
  refine PEimp (pe_callG FO hr hgu hg hm hk hb hd tk (pa_cons (pe_var hN hv hd2 hcd) ha.ja he) hdb he hpl) fun σ H Q ⟨e, F, er, h⟩ => ?_
  obtain ⟨p, hp, h⟩ := chkO_fin h er
  refine ⟨_, hp, e, F, er, ?_⟩
  have hb2 := h.bind
  unfold RunAt at hb2 ⊢
  cases q : ms e with
  | ok ds e1 =>
    rw [q] at hb2
    intro H1 F1 er1 mv1 vs hvs
    exact ap1_o (hb2 H1 F1 er1 mv1) mv1.there er1 hp (hvs.append (hdd F1)) (by rw [List.length_append, ha.ln ds e e1 q]; exact hn)
  | exc x e1 => rw [q] at hb2; exact hb2
  | bad => rw [q] at hb2; exact hb2
end
end Sr
namespace Sr
open PySem hiding start
open PySem.Spec L2
open PyProof.Rows hiding St
def putD (f : Str) (d : D) : List (Str × D) → List (Str × D)
  | [] => [(f, d)]
  | (g, x) :: r => if g = f then (g, d) :: r else (g, x) :: putD f d r
section
variable {K : PySem.W.Frag} {mg : Str → Option Value} {F : Hp}
theorem rf_nil {xs : List (Str × V)} : RpF K mg F [] xs ↔ xs = [] := by rw [RpF]
theorem rf_cons {k : Str} {d : D} {ds : List (Str × D)} {xs : List (Str × V)} : RpF K mg F ((k, d) :: ds) xs ↔ ∃ v vs, xs = (k, v) :: vs ∧ Rp K mg F d v ∧ RpF K mg F ds vs := by rw [RpF]
theorem RpF.get {f : Str} {d : D} : ∀ {fs : List (Str × D)} {gs : List (Str × V)}, RpF K mg F fs gs → fs.lookup f = some d → ∃ v, gs.lookup f = some v ∧ Rp K mg F d v
  | [], gs, _, e => by cases e
  | (k, x) :: fs, gs, h, e => by
    rw [rf_cons] at h
    obtain ⟨v, vs, rfl, r, h⟩ := h
    rw [List.lookup_cons] at e ⊢
    split at e
    · cases e; exact ⟨v, rfl, r⟩
    · exact RpF.get h e
theorem RpF.put {f : Str} {d : D} {v : V} (r : Rp K mg F d v) : ∀ {fs : List (Str × D)} {gs : List (Str × V)}, RpF K mg F fs gs → RpF K mg F (putD f d fs) (putF f v gs)
  | [], gs, h => by
    rw [rf_nil] at h; subst h
    unfold putD putF
    rw [rf_cons]; exact ⟨v, [], rfl, r, by rw [rf_nil]⟩
  | (k, x) :: fs, gs, h => by
    rw [rf_cons] at h
    obtain ⟨w, vs, rfl, q, h⟩ := h
    unfold putD putF
    split
    · rw [rf_cons]; exact ⟨v, vs, rfl, r, h⟩
    · rw [rf_cons]; exact ⟨w, _, rfl, q, RpF.put r h⟩
theorem RpF.len : ∀ {fs : List (Str × D)} {gs : List (Str × V)}, RpF K mg F fs gs → fs.length = gs.length
  | [], gs, h => by rw [rf_nil] at h; subst h; rfl
  | (k, x) :: fs, gs, h => by rw [rf_cons] at h; obtain ⟨v, vs, rfl, r, h⟩ := h; rw [List.length_cons, List.length_cons, h.len]
end
structure ClK (K : PySem.W.Frag) (mg : Str → Option Value) (c : Str) (C : Addr) : Prop where
  mg : mg c = some (.ref C)
  cl : Cls K C
abbrev Cl (X : Cx) (c : Str) (C : Addr) : Prop := ClK X.K X.mg c C
def gFld (c f : Str) : D → Option D
  | .obj c' fs => if c' = c then fs.lookup f else none
  | _ => none
def mFldB (c f : Str) (m : M Bv) : M D := bnd m fun b => bnd (der b) fun d => opt (gFld c f d)
section
variable {X : Cx} {T : Pn} {W : WX} {pos : Pos} {a b : Expr} {es : List Expr} {ma mb : M D} {m1 : M Bv} {ms : M (List D)} {f : Fnc} {k n : Nat} {x c g : Str} {C : Addr}
theorem fld_ok {H F : Hp} {d z : D} {v : V} (s : Same F H) (r : Rq X.K X.mg H F d v) (hc : Cl X c C) (e : gFld c g d = some z) : ∃ a dx fs w, v = .ref a ∧ H a = some (.ins C dx fs) ∧ fs.lookup g = some w ∧ Rp X.K X.mg F z w := by
  cases d <;> simp only [gFld, reduceCtorEq] at e
  split at e
  · rename_i hcc
    subst hcc
    obtain ⟨a, C', dx, gs, rfl, h1, h2, h3⟩ := r
    rw [hc.mg] at h1; cases h1
    obtain ⟨w, h4, h5⟩ := h3.get e
    exact ⟨a, dx, gs, w, rfl, h2, h4, h5⟩
  · cases e
theorem jv_fld (hc : Cl X c C) (hn : NoAttr X.K C g) (ha : JB X T W a m1) (hb : attributeBase a g X.env (eval a X.env) = eval a X.env := by rfl) : JV X T W (.Attribute a g pos) (mFldB c g m1) := by
  refine PEimp (pe_fld ha hb) fun σ H Q ⟨e, F, er, h⟩ => ⟨e, F, er, h.bind.mono fun b e1 H1 F1 er1 mv1 h1 v hv => ?_⟩
  obtain ⟨d, r1, h3⟩ := der_fin h1.bind er1 hv
  obtain ⟨z, hz, fin⟩ := h3.fin er1
  obtain ⟨a, dx, fs, w, rfl, h4, h5, h6⟩ := fld_ok er1.sub r1 hc hz
  exact ⟨a, C, dx, fs, w, rfl, h4, hc.cl, hn, h5, fin H1 F1 Al.refl w h6⟩
theorem jv_prop {y : Str} {pp ga : Addr} {fd : FuncData} (hc : Cl X c C) (hp : PropOf X.K C y pp ga) (G : FnOk X.prog X.w X.K X.mg X.base CX0 k ga fd ["self"] (getSp C g)) (hr : Room (k + 1) X.A) (hb : Binds X.K fd ["self"] [])
    (ha : JB X T W a m1) (hab : attributeBase a y X.env (eval a X.env) = eval a X.env := by rfl) : JV X T W (.Attribute a y pos) (mFldB c g m1) := by
  refine PEimp (pe_prop (E := E0) (dvs := []) ha hc.cl hp G hr hb .nil pass0 hab) fun σ H Q ⟨e, F, er, h⟩ => ⟨e, F, er, h.bind.mono fun b e1 H1 F1 er1 mv1 h1 v hv => ?_⟩
  obtain ⟨d, r1, h3⟩ := der_fin h1.bind er1 hv
  obtain ⟨z, hz, fin⟩ := h3.fin er1
  obtain ⟨a, dx, fs, w, rfl, h4, h5, h6⟩ := fld_ok er1.sub r1 hc hz
  exact ⟨a, dx, fs, rfl, h4, a, dx, fs, w, rfl, h4, h5, fin H1 F1 Al.refl w h6⟩
def gA (i : Nat) (c f : Str) : D → M Unit := fun d e => match e[i]? with
  | some (.own (.obj c' fs)) => if c' = c ∧ fs.length < 1000 then .ok () (e.set i (.own (.obj c (putD f d fs)))) else .bad
  | _ => .bad
theorem ne_attr {i : Nat} : NoExc (gA i c g) := fun d e x e' h => by
  unfold gA at h
  split at h
  · split at h <;> cases h
  · cases h
theorem jg_attr {i : Nat} {y : Str} {pn : Pos} (hc : Cl X c C) (hn : NoAttr X.K C g) (hN : X.N[i]? = some y) (hv : Vis X.env.scope y) (hd : (y == ("__debug__" : Str)) = false := by decide) (hcd : (y == ("__classdict__" : Str)) = false := by decide) :
    JG X T W (.Attribute (.Name y pn) g pos) (gA i c g) := by
  refine ⟨fun pins s σ H v u Q I r h => ?_⟩
  obtain ⟨e, F, d, er, rd, h⟩ := h
  unfold gA at h
  cases q : e[i]? with
  | none => simp only [q] at h
  | some sl =>
    cases sl with
    | no => simp only [q] at h
    | val z => simp only [q] at h
    | own z =>
      cases z with
      | obj c' fs =>
        simp only [q] at h
        split at h
        · rename_i u' e' hh
          split at hh
          · rename_i hcc
            cases hh
            obtain ⟨p, h1, h2, C', dx, gs, h3, h4, h5⟩ := er.own i _ q
            rw [hcc.1, hc.mg] at h3; cases h3
            rw [assign_Attribute]
            refine wpAny_bind (wpAny_holding (thn ((pe_var (pos := pn) hN hv hd hcd).run pins s σ H (fun x H1 => x = .ref p ∧ H1 = H) I ⟨_, h1, rfl, rfl⟩) fun ov s1 ⟨x, H1, I1, r1, ex, eH⟩ => ?_))
            subst ex eH
            obtain rfl : ov = Value.ref p := r1
            refine wpAny_bind (wpAny_standAt (wpAny_bind (wpAny_holding (setattr_ok I1 h4 hc.cl hn (by rw [← h5.len]; exact hcc.2) r fun s2 I2 => ?_))))
            obtain ⟨er2, mv2⟩ := er.put (o := .ins C dx (putF g v gs)) (d' := .obj c (putD g d fs)) q h1 ⟨C, dx, _, hc.mg, upd_same, h5.put rd⟩
            exact wpAny_release ⟨σ, _, I2, h σ _ F er2 mv2⟩
          · cases hh
        · exact h.elim
      | _ => simp only [q] at h
end
end Sr
namespace Sr
open PySem hiding start
open PySem.Spec L2
open PyProof.Rows hiding St
theorem RunAt.eq {K : PySem.W.Frag} {mg : Str → Option Value} {T : Pn} {W : WX} {A : Type} {e : En} {σ : St} {H F : Hp} {m : M A} {P : A → En → Hp → Hp → Prop} (h : RunAt K mg T W e F m σ H P) : RunAt K mg T W e F m σ H fun a e' H' F' => m e = .ok a e' ∧ P a e' H' F' := by
  unfold RunAt at h ⊢
  cases q : m e with
  | ok a e' => rw [q] at h; exact fun H' F' er mv => ⟨rfl, h H' F' er mv⟩
  | exc x e' => rw [q] at h; exact h
  | bad => rw [q] at h; exact h
def sNever : M Fl := fun _ => .bad
theorem js_never {X : Cx} {T : Pn} {W : WX} {st : Stmt} : JS X T W st sNever := ⟨fun _ _ _ _ _ _ ⟨_, _, _, h⟩ => h.elim⟩
section
variable {X : Cx} {k n : Nat} {f C : Addr} {fd : FuncData} {ps ks : List Str} {sp : Sp} {W : WX} {g : List Value → List Value → List Value} {gV : List V → List V → List V}
theorem run_mk {pins : List (Addr × Obj)} {σ : St} {H : Hp} {s : Shared} {Q : VK} {us ws : List Value} {vs zs : List V} (M0 : Mk X.K C f)
    (F0 : FnG X.prog X.w X.K X.mg X.base k f fd ps sp) (hr : Room (k + 1) X.A) (hgu : X.A.guards = some []) (hb : KBn X.K fd ps (n + 1) ks g gV) (tk : Takes X W)
    (I : Inv X pins σ H s) (r : Vals vs us) (rz : Vals zs ws) (l1 : vs.length = n) (l2 : zs.length = ks.length)
    (h : ∀ x dx, H x = none → H dx = none → dx ≠ x → sp (gV (.ref x :: vs) zs) (upd (upd H dx (.own x)) x (.ins C dx [])) (fun v H2 => v = .non ∧ Q (.ref x) H2) (WE W σ)) :
    wpAny (model X.prog X.w) X.A (call (.ref C) us (ks.zip ws)) (EP X pins σ Q) X.xe s := by
  have f1 : H (s.heap.objs.size + 1) = none := I.hok.fresh (by omega)
  have f0 : H s.heap.objs.size = none := I.hok.fresh (by omega)
  have hq := h _ _ f1 f0 (Nat.ne_of_lt (Nat.lt_succ_self _))
  have I2 := Inv.made (C := C) I
  have r1 : Vals (V.ref _ :: vs) (Value.ref (s.heap.objs.size + 1) :: us) := .cons rfl r
  have n1 : (Value.ref (s.heap.objs.size + 1) :: us).length = n + 1 := by rw [List.length_cons, ← r.length, l1]
  refine wpAny_call (make_map (f := f) I.kIn M0.makes M0.init (beq_iff_eq.mp M0.fn) ?_)
  refine codeAny_mono (F0.run _ X.stack _ _ ⟨_, ks.zip ws⟩ (g _ ws) _ _ (WE W σ) (hr.make C us _) (by simpa [Around.under, Code.guards, Code.isGuard, guardIds, pushGuards] using hgu) (I2.env0.make C us _) (hb.to _ _ ws I2.kIn n1 (rz.length.symm.trans l2)) (hb.rel r1 rz) hq) ?_
  intro r s' hq'
  match r, hq' with
  | .error e, hq' => exact passAt tk σ pins _ _ e s' I2 hq'
  | .ok (.ret u), hq' =>
    obtain ⟨v, H', I3, rv, ev, q3⟩ := I2.after hq'
    subst ev
    exact ⟨rv, V.ref (s.heap.objs.size + 1), H', I3, rfl, q3⟩
  | .ok .next, hq' => exact hq'.elim
  | .ok .brk, hq' => exact hq'.elim
  | .ok .cont, hq' => exact hq'.elim
end
def TKs (K : PySem.W.Frag) (mg : Str → Option Value) (T : Pn) (W : WX) (m : M (List D)) : TA := TAs K mg T W m
structure JK (X : Cx) (T : Pn) (W : WX) (kws : List Keyword) (ms : M (List D)) : Prop where
  pk : PK X kws (TAs X.K X.mg T W ms)
  ln : ∀ (ds : List D) (e e' : En), ms e = .ok ds e' → ds.length = kws.length
theorem PKimp {X : Cx} {es : List Keyword} {t t' : TA} (h : PK X es t) (k : ∀ σ H Q, t' σ H Q → t σ H Q) : PK X es t' := ⟨fun pos pins s σ H Q I q => h.run pos pins s σ H Q I (k σ H Q q)⟩
theorem jk_nil {X : Cx} {T : Pn} {W : WX} : JK X T W [] mNil := ⟨PKimp pk_nil fun σ H Q ⟨e, F, er, h⟩ => h.rfin er H F Al.refl _ (by rw [rl_nil]), fun _ _ _ h => len_nil h⟩
theorem jk_cons {X : Cx} {T : Pn} {W : WX} {e : Expr} {nm : Option Str} {kpos : Pos} {kws : List Keyword} {m : M D} {ms : M (List D)} (ha : JV X T W e m) (hr : JK X T W kws ms) : JK X T W (⟨nm, e, kpos⟩ :: kws) (mCons m ms) := by
  refine ⟨PKimp (pk_cons ha hr.pk) fun σ H Q ⟨e, F, er, h⟩ => ⟨e, F, er, h.bind.mono fun d e1 H1 F1 er1 mv1 h1 v hv => ⟨e1, F1, er1, h1.bind.mono fun ds e2 H2 F2 er2 mv2 h2 vs hvs => ?_⟩⟩, len_cons hr.ln⟩
  exact h2.rfin er2 H2 F2 Al.refl _ (by rw [rl_cons]; exact ⟨v, vs, rfl, Rp.mono mv2.sub _ _ hv, hvs⟩)
structure Mkr (X : Cx) (k : Nat) (c : Str) (C : Addr) (sp : Sp) (ps : List Str) (n : Nat) (ks : List Str) (gV : List V → List V → List V) : Prop where
  cl : Cl X c C
  ex : ∃ f fd g, Mk X.K C f ∧ FnG X.prog X.w X.K X.mg X.base k f fd ps sp ∧ KBn X.K fd ps (n + 1) ks g gV
def apM (c : Str) (f : Fnc) (ds : List D) : M D := fun e => match f (.obj c []) ds with
  | .ok .non o => .ok o e
  | .ok _ _ => .bad
  | .exc x _ => .exc x e
  | .bad => .bad
def mMk (c : Str) (f : Fnc) (gD : List D → List D → List D) (ms mk : M (List D)) : M D := bnd ms fun ds => bnd mk fun es => apM c f (gD ds es)
section
variable {X : Cx} {T : Pn} {W : WX} {pos p : Pos} {a : Expr} {es : List Expr} {kws : List Keyword} {ms mk : M (List D)} {f : Fnc} {k n np : Nat} {c : Str} {C : Addr} {ps ks : List Str} {gV : List V → List V → List V} {gD : List D → List D → List D}
theorem apM_o {K : PySem.W.Frag} {mg : Str → Option Value} {e : En} {σ : St} {H F H0 : Hp} {ds : List D} {vs : List V} {Q : VK} {x dx : Addr}
    (h : RunAt K mg T W e F (apM c f ds) σ H fun d e' H' F' => ∀ p, H0 p = none → F' p = none → ¬ Ow e' σ p → OwnAt K mg H' F' p d → Q (.ref p) H') (hH : ∀ p, H p = none → H0 p = none) (er : ER K mg T e σ H F) (l : RpL K mg F ds vs) (hn : ds.length + 1 = n)
    (hm : mg c = some (.ref C)) (hx : H x = none) (hdx : H dx = none) (hne : dx ≠ x) : spF1 K mg false n f (.ref x :: vs) (upd (upd H dx (.own x)) x (.ins C dx [])) (fun v H2 => v = .non ∧ Q (.ref x) H2) (fun cl dd H' => W cl dd σ H') := by
  have s0 : Same H (upd (upd H dx (.own x)) x (.ins C dx [])) := fun b o q => by
    rw [upd_ne (ne_of_none q hx), upd_ne (ne_of_none q hdx)]; exact q
  refine ⟨x, .obj c [], vs, ds, F, rfl, er.sub.trans s0, er.sub.free hx, ⟨C, dx, [], hm, upd_same, by rw [rf_nil]⟩, l, hn, ?_⟩
  have conv : ∀ H' F', Fr (some x) (upd (upd H dx (.own x)) x (.ins C dx [])) F H' F' → Fr none H F H' F' := fun H' F' fr =>
    ⟨fr.sub, fr.fin, fun b o q _ => fr.keep b o (s0 b o q) fun z => (ne_of_none q hx) (Option.some.inj z).symm, fun b o q => (fr.new b o q).imp id fun z => s0.free z, fun b q => s0.free (fr.there b q)⟩
  unfold RunAt apM at h
  cases q : f (.obj c []) ds with
  | ok d o' =>
    simp only [q] at h
    intro H' F' fr fp ow v hv
    obtain ⟨er', mv⟩ := er.fr (conv H' F' fr)
    cases d with
    | non =>
      rw [rp_non] at hv
      exact ⟨hv, h H' F' er' mv x (hH x hx) fp (Ow.ne_of_free er hx) ow⟩
    | _ => exact h.elim
  | exc x' o' =>
    simp only [q] at h
    intro H' F' cl dd fr fp ow xr
    obtain ⟨er', mv⟩ := er.fr (conv H' F' fr)
    exact h H' F' cl dd er' mv xr
  | bad => simp only [q] at h
theorem jo_make (G : Mkr X k c C (spF1 X.K X.mg false np f) ps n ks gV) (hr : Room (k + 1) X.A) (hgu : X.A.guards = some []) (tk : Takes X W) (hg : Gl X c) (ha : JL X T W (a :: es) ms) (hkw : JK X T W kws mk)
    (hrel : ∀ (ds es : List D) (vs zs : List V) (F : Hp) (x : Addr), RpL X.K X.mg F ds vs → RpL X.K X.mg F es zs → ds.length = n → es.length = ks.length → ∃ ws, gV (.ref x :: vs) zs = .ref x :: ws ∧ RpL X.K X.mg F (gD ds es) ws ∧ (gD ds es).length + 1 = np)
    (hn : (a :: es).length = n := by rfl) (hkl : kws.length = ks.length := by rfl)
    (hall : (backToKw pos (keywordEach kws X.env)).all (·.1.isSome) = true := by rfl) (hks : (backToKw pos (keywordEach kws X.env)).filterMap (·.1) = ks := by rfl) (hdb : (c == ("__debug__" : Str)) = false := by decide)
    (he : starEach (a :: es) X.env = (false, eval a X.env) :: starEach es X.env := by rfl) (hpl : ((backTo pos (starEach (a :: es) X.env)).any (·.1) || (backToKw pos (keywordEach kws X.env)).any (·.1.isNone)) = false := by rfl) :
    JO X T W (.Call (.Name c p) (a :: es) kws pos) (mMk c f gD ms mk) := by
  obtain ⟨fa, fd, g, M0, F0, hb⟩ := G.ex
  refine ⟨fun pins s σ H Q I h => ?_⟩
  obtain ⟨e, F, er, h⟩ := h
  refine wpAny_Call_Name_kw (ld_glob I hg G.cl.mg ?_ hdb)
  refine PySem.W.callWith_KW (h₀ := X.base) I.ok.mod.kin M0.kp hall (thn (ha.ja.run pos pins s σ H (fun vs H1 => TAs X.K X.mg T W mk σ H1 fun zs H2 => vs.length = n ∧ zs.length = ks.length ∧ ∀ x dx, H2 x = none → H2 dx = none → dx ≠ x → spF1 X.K X.mg false np f (gV (.ref x :: vs) zs) (upd (upd H2 dx (.own x)) x (.ins C dx [])) (fun v H3 => v = .non ∧ Q (.ref x) H3) (WE W σ)) I ?_) fun us s1 ⟨vs, H1, I1, r, q⟩ => ?_) hpl he
  · refine ⟨e, F, er, h.bind.eq.mono fun ds e1 H1 F1 er1 mv1 h1 vs hvs => ⟨e1, F1, er1, h1.2.bind.eq.mono fun es e2 H2 F2 er2 mv2 h2 zs hzs => ?_⟩⟩
    have hl1 : ds.length = n := (ha.ln ds e e1 h1.1).trans hn
    have hl2 : es.length = ks.length := (hkw.ln es e1 e2 h2.1).trans hkl
    refine ⟨by rw [← hvs.len]; exact hl1, by rw [← hzs.len]; exact hl2, fun x dx hx hdx hne => ?_⟩
    obtain ⟨ws, e1', e2', e3'⟩ := hrel ds es vs zs F2 x (RpL.mono mv2.sub _ _ hvs) hzs hl1 hl2
    rw [e1']
    exact apM_o h2.2 (fun p hp => mv1.there p (mv2.there p hp)) er2 e2' e3' G.cl.mg hx hdx hne
  · refine thn (hkw.pk.run pos pins s1 σ H1 _ I1 q) fun ws s2 ⟨zs, H2, I2, rz, l1, l2, q2⟩ => ⟨I2.kIn, ?_⟩
    rw [hks]
    exact run_mk M0 F0 hr hgu hb tk I2 r rz l1 l2 q2
end
end Sr
namespace Sr
open PySem hiding start
open PySem.Spec L2
open PyProof.Rows hiding St
section
variable {X : Cx} {T : Pn} {W : WX} {pos : Pos} {a : Expr} {ma : M D}
def rRepr (K : PySem.W.Frag) : List V → Hp → VK → Prop := fun xs H Q => ∃ (q : Addr) (p : PyData), xs = [.ref q] ∧ Dp K H (.ref q) p ∧ p.showable = true ∧ p.hasDict = false ∧ p.depth ≤ 64 ∧ p.shown.length ≤ sizeLine ∧ Q (.str p.shown) H
theorem call_reprD (hgu : X.A.guards = some []) (hu : X.A.units + 100 < cLine) : CallR X (.builtin "repr") (rRepr X.K) := by
  intro pins s σ H xs us Q I r h
  obtain ⟨q, p, rfl, hp, h1, h2, h3, h4, hq⟩ := h
  obtain ⟨u, rfl, ru⟩ := vals1 r
  obtain rfl : u = Value.ref q := ru
  obtain ⟨as, rd⟩ := Dp.reads I p _ _ hp rfl
  exact repr_of_reads' rd h1 (PyData.noDict_hsm h2) hgu (by omega) (fun _ _ e => e) (fun h' u tk hk => ⟨.str _, H, I.kept hk, ⟨_, rfl⟩, hq⟩) h4
def gRepr : D → Option D
  | .lst ds => match toP (.lst ds) with
    | some p => if (p.showable && !p.hasDict && decide (p.depth ≤ 64) && decide (p.shown.length ≤ sizeLine)) = true then some (.str p.shown) else none
    | none => none
  | .tup ds => match toP (.tup ds) with
    | some p => if (p.showable && !p.hasDict && decide (p.depth ≤ 64) && decide (p.shown.length ≤ sizeLine)) = true then some (.str p.shown) else none
    | none => none
  | _ => none
theorem c_repr (hgu : X.A.guards = some []) (hu : X.A.units + 100 < cLine) : Cal1 X (.builtin "repr") gRepr := by
  intro H F x d d' s r e
  unfold gRepr at e
  split at e
  · rename_i ds
    split at e
    · rename_i p hp
      split at e
      · rename_i hh
        cases e
        simp only [Bool.and_eq_true, Bool.not_eq_true', decide_eq_true_eq] at hh
        have hdp := Rq.dp s hp r
        obtain ⟨q, xs, rfl, _⟩ := r
        exact ⟨_, call_reprD hgu hu, fun Q qq => ⟨q, p, rfl, hdp, hh.1.1.1, hh.1.1.2, hh.1.2, hh.2, qq H F _ Al.refl (by rw [rp_str])⟩⟩
      · cases e
    · cases e
  · rename_i ds
    split at e
    · rename_i p hp
      split at e
      · rename_i hh
        cases e
        simp only [Bool.and_eq_true, Bool.not_eq_true', decide_eq_true_eq] at hh
        have hdp := Rq.dp s hp r
        rw [rq_tup] at r
        obtain ⟨q, xs, rfl, _⟩ := r
        exact ⟨_, call_reprD hgu hu, fun Q qq => ⟨q, p, rfl, hdp, hh.1.1.1, hh.1.1.2, hh.1.2, hh.2, qq H F _ Al.refl (by rw [rp_str])⟩⟩
      · cases e
    · cases e
  · cases e
def IsiK (K : PySem.W.Frag) (mg : Str → Option Value) (u : Value) (g : D → Option Bool) : Prop := ∀ (H F : Hp) (d : D) (v : V) (b : Bool), Same F H → Rp K mg F d v → g d = some b → ∃ t, TyX K H v t ∧ PySem.W.kitOne K t u = some b
abbrev Isi (X : Cx) (u : Value) (g : D → Option Bool) : Prop := IsiK X.K X.mg u g
def mIsi (g : D → Option Bool) (m : M D) : M D := bnd m fun d => opt ((g d).map D.bl)
theorem runIsi {g : D → Option Bool} {u : Value} {cv : V} {σ : St} {H : Hp} {Q : VK} (hi : Isi X u g) (hc : ClsV cv u) (h : TV X.K X.mg T W (mIsi g ma) σ H Q) : TV X.K X.mg T W ma σ H fun v H1 => rIsi X.K [v, cv] H1 Q := by
  obtain ⟨e, F, er, h⟩ := h
  refine ⟨e, F, er, h.bind.mono fun d e1 H1 F1 er1 mv1 h1 v hv => ?_⟩
  obtain ⟨z, hz, fin⟩ := h1.fin er1
  rw [Option.map_eq_some_iff] at hz
  obtain ⟨b, hb, rfl⟩ := hz
  obtain ⟨t, h2, h3⟩ := hi H1 F1 d v b er1.sub hv hb
  exact ⟨v, cv, t, u, b, rfl, hc, h2, h3, fin H1 F1 Al.refl _ (by rw [rp_bl])⟩
theorem jv_isiB {g : D → Option Bool} {y : Str} {n : String} {p p2 : Pos} (hi : Isi X (.type n) g) (hg : Gl X "isinstance") (hm : X.mg "isinstance" = none) (hy : Gl X y) (hmy : X.mg y = none) (hv : bootBuiltins y = some (.type n)) (ha : JV X T W a ma)
    (hnn : y ≠ "__name__" := by decide) (hdy : (y == ("__debug__" : Str)) = false := by decide)
    (he : starEach [a, .Name y p2] X.env = (false, eval a X.env) :: starEach [.Name y p2] X.env := by rfl) (he2 : starEach [.Name y p2] X.env = (false, eval (.Name y p2) X.env) :: starEach [] X.env := by rfl) :
    JV X T W (.Call (.Name "isinstance" p) [a, .Name y p2] [] pos) (mIsi g ma) :=
  PEimp (pe_callB call_isi hg hm (by decide +kernel) (pa_cons ha (pa_cons (pe_bltn (v := .ty n) hy hmy hv rfl hnn hdy) pa_nil he2) he) (by decide) (by decide) he (by rfl)) fun σ H Q h => runIsi hi (.ty n) h
theorem jv_isiC {g : D → Option Bool} {y : Str} {C : Addr} {p p2 : Pos} (hi : Isi X (.ref C) g) (hg : Gl X "isinstance") (hm : X.mg "isinstance" = none) (hy : Gl X y) (hmy : X.mg y = some (.ref C)) (ha : JV X T W a ma)
    (hdy : (y == ("__debug__" : Str)) = false := by decide)
    (he : starEach [a, .Name y p2] X.env = (false, eval a X.env) :: starEach [.Name y p2] X.env := by rfl) (he2 : starEach [.Name y p2] X.env = (false, eval (.Name y p2) X.env) :: starEach [] X.env := by rfl) :
    JV X T W (.Call (.Name "isinstance" p) [a, .Name y p2] [] pos) (mIsi g ma) :=
  PEimp (pe_callB call_isi hg hm (by decide +kernel) (pa_cons ha (pa_cons (pe_glob (v := .ref C) hy hmy rfl hdy) pa_nil he2) he) (by decide) (by decide) he (by rfl)) fun σ H Q h => runIsi hi (.own C) h
inductive Kd where
  | non | bool | int | str | bytes | list | tuple | dict
  deriving DecidableEq
def Kd.nm : Kd → String
  | .non => "NoneType"
  | .bool => "bool"
  | .int => "int"
  | .str => "str"
  | .bytes => "bytes"
  | .list => "list"
  | .tuple => "tuple"
  | .dict => "dict"
def dKind : D → Option (Kd ⊕ Str)
  | .non => some (.inl .non)
  | .bl _ => some (.inl .bool)
  | .int _ => some (.inl .int)
  | .str _ => some (.inl .str)
  | .byt _ => some (.inl .bytes)
  | .lst _ => some (.inl .list)
  | .tup _ => some (.inl .tuple)
  | .dk _ => some (.inl .dict)
  | .dt _ => some (.inl .dict)
  | .obj c _ => some (.inr c)
  | .scr _ => none
  | .ct _ => none
structure ClI (K : PySem.W.Frag) (mg : Str → Option Value) (c : Str) (C : Addr) : Prop where
  cl : ClK K mg c C
  ha : PySem.W.findIn K (.ref C) "__class__" = some (some (.builtin "object.__class__"))
  hn : PySem.W.specialIn K (.builtin "object.__class__") "__get__" = some (some (.builtin "getset_descriptor.__get__"))
  ht : PySem.W.takesIn K (.builtin "object.__class__") = some true
  hm : PySem.W.mroIn K C (.type "object") = some true
section
variable {K : PySem.W.Frag} {mg : Str → Option Value}
theorem tyx_ok {H F : Hp} {d : D} {v : V} {n : Kd} (s : Same F H) (r : Rp K mg F d v) (h : dKind d = some (.inl n)) : TyX K H v (.type n.nm) := by
  cases d <;> simp only [dKind, Option.some.injEq, Sum.inl.injEq, reduceCtorEq] at h
  · subst h; rw [rp_non] at r; subst r; exact .base .non
  · subst h; rw [rp_bl] at r; subst r; exact .base (.bl _)
  · subst h; rw [rp_int] at r; subst r; exact .base (.int _)
  · subst h; rw [rp_str] at r; subst r; exact .base (.str _)
  · subst h; rw [rp_byt] at r; subst r; exact .byt _
  · subst h; rw [rp_lst] at r; obtain ⟨a, xs, rfl, q, _⟩ := r; exact .base (.lst (s _ _ q))
  · subst h; rw [rp_tup] at r
    obtain ⟨a, xs, rfl, q, _⟩ := r
    exact .base (.tup (s _ _ q))
  · subst h; rw [rp_dk] at r; obtain ⟨a, xs, rfl, q, _⟩ := r; exact .base (.dK (s _ _ q))
  · subst h; unfold Rp at r; obtain ⟨a, xs, rfl, q, _⟩ := r; exact .base (.dT (s _ _ q))
theorem tyx_obj {H F : Hp} {c : Str} {C : Addr} {fs : List (Str × D)} {v : V} (s : Same F H) (r : Rp K mg F (.obj c fs) v) (h : ClI K mg c C) : TyX K H v (.ref C) := by
  rw [rp_obj] at r
  obtain ⟨a, C', dx, gs, rfl, h1, h2, _⟩ := r
  rw [h.cl.mg] at h1; cases h1
  exact .base (.ins (s _ _ h2) h.cl.cl h.ha h.hn h.ht h.hm)
def gIsi (tb : Kd → Option Bool) (to : Str → Option Bool) (d : D) : Option Bool := match dKind d with
  | some (.inl n) => tb n
  | some (.inr c) => to c
  | none => none
theorem isi_of {u : Value} {tb : Kd → Option Bool} {to : Str → Option Bool} (h1 : ∀ n b, tb n = some b → PySem.W.kitOne K (.type n.nm) u = some b) (h2 : ∀ c b, to c = some b → ∃ C, ClI K mg c C ∧ PySem.W.kitOne K (.ref C) u = some b) : IsiK K mg u (gIsi tb to) := by
  intro H F d v b s r e
  unfold gIsi at e
  split at e
  · rename_i n hk
    exact ⟨_, tyx_ok s r hk, h1 n b e⟩
  · rename_i c hk
    obtain ⟨C, hC, hb⟩ := h2 c b e
    cases d <;> simp only [dKind, Option.some.injEq, Sum.inr.injEq, reduceCtorEq] at hk
    subst hk
    exact ⟨_, tyx_obj s r hC, hb⟩
  · cases e
def tInt : Kd → Option Bool
  | .bool => some true
  | .int => some true
  | _ => some false
def tOnly (k : Kd) : Kd → Option Bool := fun n => some (decide (n = k))
theorem tInt_ok : ∀ n b, tInt n = some b → PySem.W.kitOne K (.type n.nm) (.type "int") = some b := by
  intro n b h
  cases n <;> cases h <;> exact kit_ty (by decide +kernel)
theorem tBool_ok : ∀ n b, tOnly .bool n = some b → PySem.W.kitOne K (.type n.nm) (.type "bool") = some b := by
  intro n b h
  cases n <;> cases h <;> exact kit_ty (by decide +kernel)
theorem tStr_ok : ∀ n b, tOnly .str n = some b → PySem.W.kitOne K (.type n.nm) (.type "str") = some b := by
  intro n b h
  cases n <;> cases h <;> exact kit_ty (by decide +kernel)
theorem tTuple_ok : ∀ n b, tOnly .tuple n = some b → PySem.W.kitOne K (.type n.nm) (.type "tuple") = some b := by
  intro n b h
  cases n <;> cases h <;> exact kit_ty (by decide +kernel)
theorem tList_ok : ∀ n b, tOnly .list n = some b → PySem.W.kitOne K (.type n.nm) (.type "list") = some b := by
  intro n b h
  cases n <;> cases h <;> exact kit_ty (by decide +kernel)
theorem tBytes_ok : ∀ n b, tOnly .bytes n = some b → PySem.W.kitOne K (.type n.nm) (.type "bytes") = some b := by
  intro n b h
  cases n <;> cases h <;> exact kit_ty (by decide +kernel)
end
end
theorem law_g {P : Program} {w : World} {K : PySem.W.Frag} {mg mb : Str → Option Value} {k : Nat} {fa a : Addr} {fd : FuncData} {x : Str} {sp : Sp} {s : Shared} {vs : List Value} {ns : List Int}
    (KX : K.In s.heap) (hns : s.heap.Ns mainGlobals mg) (hb : s.heap.Ns builtinsNs mb) (hbb : ∀ x : Str, x ≠ "__name__" → mb x = bootBuiltins x) (hlim : s.heap.NoLimit) (hg : s.gens = #[])
    (ha : s.heap.get? a = some { cls := .type "list", data := .seq vs.toArray }) (hi : IntsAre vs ns) (hl : ns.length ≤ sizeLine) (hr : Room k callerA)
    (F : ∀ base : Heap, K.In base → base.Ns mainGlobals mg → FnG P w K mg base k fa fd [x] sp) (hbind : ∀ (s : Shared) (u : Value), BindsTo s fd ⟨[u], []⟩ [(x, u)])
    (hsp : ∀ H : Hp, SqL K H a (ns.map V.int) → sp [.ref a] H (fun v _ => v = .bl true) fun _ _ _ => False) :
    codeAny (model P w) callerA (.call (.ref fa) ⟨[.ref a], []⟩) (fun r s' => r = .ok (.ret (.bool true)) ∧ OldK s.heap s'.heap ∧ s'.os = s.os ∧ AllBare s'.gens) s := by
  have rv := vals_ints hi
  have lenV := hi.length
  have core : ∀ H : Hp, Only H → SqL K H a (ns.map V.int) → HOk P w H s.heap → (∀ b, H b ≠ none → b = a) → (H a ≠ none → K.lookup a = none) →
      codeAny (model P w) callerA (.call (.ref fa) ⟨[.ref a], []⟩) (fun r s' => r = .ok (.ret (.bool true)) ∧ OldK s.heap s'.heap ∧ s'.os = s.os ∧ AllBare s'.gens) s := by
    intro H hO hS hok hA hK
    have onlyA : ∀ {b : Addr} {u : HO}, H b = some u → b = a := fun {b u} q => hA b (by rw [q]; simp)
    have noD : ∀ {b : Addr} {o : Obj} {es : Array DictEntry} {ep : Nat}, s.heap.get? b = some o → o.data = .dict es ep → H b = none := fun {b o es ep} e d => by
      cases q : H b with
      | none => rfl
      | some u => rw [onlyA q, ha] at e; cases e; cases d
    have nsK : ∀ {b : Addr} {m : Str → Option Value}, s.heap.Ns b m → (hidT s.heap H).Ns b m := fun {b m} ⟨o, es, ep, e, d, r⟩ => ⟨o, es, ep, hidT_get e (noD e d), d, r⟩
    have hKb : K.In (hidT s.heap H) := fun b o e => by
      refine hidT_get (KX b o e) ?_
      cases q : H b with
      | none => rfl
      | some u =>
        have e' := onlyA q
        subst e'
        rw [hK (by rw [q]; simp)] at e; cases e
    have hM : Mod K mg (hidT s.heap H) := by
      obtain ⟨mc, h1, h2⟩ := hlim
      exact ⟨hKb, nsK hns, ⟨mb, nsK hb, hbb⟩, ⟨mc, nsK h1, h2⟩⟩
    have e0 : Env0 P w K mg (hidT s.heap H) callerA [] s H := ⟨rfl, hM, fun b o e => of_hidT e, Nat.le_of_eq (hidT_size _ _), trivial, fun b z => (by cases z), hok, .of_eq hg⟩
    refine codeAny_mono ((F _ hKb (nsK hns)).run callerA [] s H _ [.ref a] [.ref a] _ _ hr rfl e0 (hbind s (.ref a)) (.cons rfl .nil) (hsp H hS)) ?_
    intro r s' h
    match r, h with
    | .error e, h => obtain ⟨_, _, _, _, _, _, _, _, _, _, _, _, z⟩ := h; exact z.elim
    | .ok .next, h => exact h.elim
    | .ok .brk, h => exact h.elim
    | .ok .cont, h => exact h.elim
    | .ok (.ret u), ⟨v, H', os, bare, un, hok', r', q⟩ =>
      have q' : v = .bl true := q
      subst q'
      obtain rfl : u = Value.bool true := r'
      refine ⟨rfl, OldK.of_keep fun b o e => ?_, os, bare⟩
      cases q : H b with
      | none => exact un.keep b o e q (fun z => by cases z) (by simp)
      | some u =>
        rcases hO b with z | ⟨ob, xs, z⟩
        · rw [q] at z; cases z
        · obtain ⟨e1, _⟩ := hok b _ z
          obtain ⟨e2, _⟩ := hok' b _ (un.frzs b ob _ z)
          rw [e] at e1; cases e1
          exact e2
  cases hk : K.lookup a with
  | some o =>
    have e := KX a o hk
    rw [ha] at e
    cases e
    refine core (fun _ => none) (fun _ => .inl rfl) (.inr ⟨_, vs.toArray, _, hk, rfl, rfl, rfl, by rw [List.size_toArray, lenV]; exact hl, by simpa using rv⟩) (fun b u z => by cases z) (fun b z => absurd rfl z) fun z => absurd rfl z
  | none =>
    refine core (fun b => if b = a then some (.frz { cls := .type "list", data := .seq vs.toArray } (.lst (ns.map V.int))) else none) (fun b => ?_) (.inl (.inr ⟨_, if_pos rfl⟩)) (fun b u z => ?_) (fun b z => ?_) fun _ => hk
    · by_cases hb : b = a
      · exact .inr ⟨_, _, if_pos hb⟩
      · exact .inl (if_neg hb)
    · by_cases hb : b = a
      · subst hb
        dsimp only at z
        rw [if_pos rfl] at z; cases z
        exact ⟨ha, by rw [List.length_map]; exact hl, vs, _, rv, ha⟩
      · dsimp only at z
        rw [if_neg hb] at z; cases z
    · by_cases hb : b = a
      · exact hb
      · exact absurd (if_neg hb) z
theorem walk_g {l : PySem.W.OpenLaw} {n k : Nat} {q : Program} {loose : List Str} {XP : (Str → Option Value) → Heap → Prop} {YP : World → Heap → Prop} {d : DefRec} {x : Str}
    (hn : l.most = some n) (hn2 : n ≤ sizeLine) (hdf : d.params.defaults = []) (hr : Room k callerA)
    (F : ∀ (w : World) (mg : Str → Option Value) (fa : Addr) (h : Heap), YP w h → h.Ns mainGlobals mg → mg d.name = some (.ref fa) →
      ∃ (K : PySem.W.Frag) (fd : FuncData) (sp : Sp), K.In h ∧ (∀ (s : Shared) (u : Value), BindsTo s fd ⟨[u], []⟩ [(x, u)]) ∧
        (∀ (H : Hp) (a : Addr) (ns : List Int), ns.length ≤ n → SqL K H a (ns.map V.int) → sp [.ref a] H (fun v _ => v = .bl true) fun _ _ _ => False) ∧
        ∀ base : Heap, K.In base → base.Ns mainGlobals mg → FnG l.prog w K mg base k fa fd [x] sp) :
    PySem.W.WalkO q loose XP YP l.row.toRowW d [] (fun f vs => PySem.call f vs) := by
  refine Att.attach_call hn hdf fun w s₀ s₁ mg mb fa o pm cd doc a vs ns G Y ho hd hcd hmg hobj hints hlen hg => ?_
  obtain ⟨K, fd, sp, KX, hb, hsp, hF⟩ := F w mg fa _ Y G.T.g hmg
  exact law_g KX G.T.g G.T.b G.T.builtins G.T.nolimit hg hobj hints (Nat.le_trans hlen hn2) hr hF hb (fun H hS => hsp H a ns hlen hS)
end Sr
namespace Sr
open PySem hiding start
open PySem.Spec L2
open PyProof.Rows hiding St
def gLt (a b : D) : Option D := (gI0 (fun i j => .bl (decide (i < j))) a b).or (gLtT a b)
def gLe : D → D → Option D := gI0 fun i j => .bl (decide (i ≤ j))
def gGt : D → D → Option D := gI0 fun i j => .bl (decide (j < i))
def gGe : D → D → Option D := gI0 fun i j => .bl (decide (j ≤ i))
structure Pl (X : Cx) (k : Nat) : Prop where
  room : Room k X.A
  gu : X.A.guards = some []
section
variable {X : Cx} {k : Nat}
theorem Pl.u64 (h : Pl X k) : X.A.units + 64 < cLine := h.room.units
theorem Pl.u100 (h : Pl X k) : X.A.units + 100 < cLine := by have := h.room.un; omega
theorem Pl.u0 (h : Pl X k) : X.A.units < cLine := h.room.units0
theorem Pl.u1 (h : Pl X k) : X.A.units + 1 < cLine := by have := h.room.un; omega
theorem p_lt (h : Pl X k) : Op2 X (compareOp .Lt) gLt := o_lt.or (o_ltT h.u0)
theorem p_le : Op2 X (compareOp .LtE) gLe := o_le
theorem p_gt : Op2 X (compareOp .Gt) gGt := o_gt
theorem p_ge : Op2 X (compareOp .GtE) gGe := o_ge
end
section
variable {X : Cx} {T : Pn} {W : WX} {pos p : Pos} {a : Expr} {es : List Expr} {ma : M D} {ms : M (List D)} {f : Fnc} {k j n : Nat} {x c g : Str} {ps : List Str} {dvs : List V} {dds : List D} {C : Addr}
theorem jv_gI {i : Int} (hg : Gl X x) (h : ∃ t, X.mg x = some (.int i t)) (hx : (x == ("__debug__" : Str)) = false := by decide) : JV X T W (.Name x pos) (ret (.int i)) := by
  obtain ⟨t, h⟩ := h
  exact jv_glob (v := .int i) hg h ⟨t, rfl⟩ (fun F => by rw [rp_int]) hx
theorem jv_gS {z : Str} (hg : Gl X x) (h : ∃ t, X.mg x = some (.str z t)) (hx : (x == ("__debug__" : Str)) = false := by decide) : JV X T W (.Name x pos) (ret (.str z)) := by
  obtain ⟨t, h⟩ := h
  exact jv_glob (v := .str z) hg h ⟨t, rfl⟩ (fun F => by rw [rp_str]) hx
theorem runCalV {fv : Value} {g1 : D → Option D} {σ : St} {H : Hp} {Q : VK} (hc : Cal1 X fv g1) (h : TV X.K X.mg T W (m1 g1 ma) σ H Q) : TV X.K X.mg T W ma σ H fun v H1 => rAnyC X fv [v] H1 Q := by
  obtain ⟨e, F, er, h⟩ := h
  refine ⟨e, F, er, h.bind.mono fun d e1 H1 F1 er1 mv1 h1 v hv => ?_⟩
  obtain ⟨z, hz, fin⟩ := h1.fin er1
  obtain ⟨r, hr, q⟩ := hc H1 F1 v d z er1.sub (Rp.rq er1.sub hv) hz
  exact ⟨r, hr, q Q fun H' F' z al hz => fin H' F' al z hz⟩
theorem jv_callV1 {id : String} {g1 : D → Option D} (hc : Cal1 X (.builtin id) g1) (hg : Gl X x) (hm : X.mg x = none) (hv : bootBuiltins x = some (.builtin id)) (ha : JV X T W a ma) (hn : x ≠ "__name__" := by decide) (hdb : (x == ("__debug__" : Str)) = false := by decide)
    (he : starEach [a] X.env = (false, eval a X.env) :: starEach [] X.env := by rfl) : JV X T W (.Call (.Name x p) [a] [] pos) (m1 g1 ma) :=
  PEimp (pe_callB callAny hg hm hv (pa_cons ha pa_nil he) hn hdb he rfl) fun σ H Q h => runCalV hc h
theorem jv_callT1 {id : String} {g1 : D → Option D} (hc : Cal1 X (.type id) g1) (hg : Gl X x) (hm : X.mg x = none) (hv : bootBuiltins x = some (.type id)) (ha : JV X T W a ma) (hn : x ≠ "__name__" := by decide) (hdb : (x == ("__debug__" : Str)) = false := by decide)
    (he : starEach [a] X.env = (false, eval a X.env) :: starEach [] X.env := by rfl) : JV X T W (.Call (.Name x p) [a] [] pos) (m1 g1 ma) :=
  PEimp (pe_callTy callAny hg hm hv (pa_cons ha pa_nil he) hn hdb he rfl) fun σ H Q h => runCalV hc h
theorem jv_fldV (hc : Cl X c C) (hn : NoAttr X.K C g) (ha : JV X T W a ma) (hb : attributeBase a g X.env (eval a X.env) = eval a X.env := by rfl) : JV X T W (.Attribute a g pos) (m1 (gFld c g) ma) := by
  refine PEimp (pe_fld ha hb) fun σ H Q ⟨e, F, er, h⟩ => ⟨e, F, er, h.bind.mono fun d e1 H1 F1 er1 mv1 h1 v hv => ?_⟩
  obtain ⟨z, hz, fin⟩ := h1.fin er1
  obtain ⟨a, dx, fs, w, rfl, h4, h5, h6⟩ := fld_ok er1.sub (Rp.rq er1.sub hv) hc hz
  exact ⟨a, C, dx, fs, w, rfl, h4, hc.cl, hn, h5, fin H1 F1 Al.refl w h6⟩
structure Prp (X : Cx) (k : Nat) (c : Str) (C : Addr) (y g : Str) : Prop where
  cl : Cl X c C
  ex : ∃ pp ga fd, PropOf X.K C y pp ga ∧ FnOk X.prog X.w X.K X.mg X.base CX0 k ga fd ["self"] (getSp C g) ∧ Binds X.K fd ["self"] []
theorem jv_propV {y : Str} (G : Prp X k c C y g) (hp : Pl X j) (ha : JV X T W a ma) (hj : k + 1 ≤ j := by decide) (hab : attributeBase a y X.env (eval a X.env) = eval a X.env := by rfl) : JV X T W (.Attribute a y pos) (m1 (gFld c g) ma) := by
  obtain ⟨pp, ga, fd, h1, h2, h3⟩ := G.ex
  refine PEimp (pe_prop (E := E0) (dvs := []) ha G.cl.cl h1 h2 (hp.room.mono hj) h3 .nil pass0 hab) fun σ H Q ⟨e, F, er, h⟩ => ⟨e, F, er, h.bind.mono fun d e1 H1 F1 er1 mv1 h1 v hv => ?_⟩
  obtain ⟨z, hz, fin⟩ := h1.fin er1
  obtain ⟨a, dx, fs, w, rfl, h4, h5, h6⟩ := fld_ok er1.sub (Rp.rq er1.sub hv) G.cl hz
  exact ⟨a, dx, fs, rfl, h4, a, dx, fs, w, rfl, h4, h5, fin H1 F1 Al.refl w h6⟩
theorem jv_c0 (G : Fn X k x (spF0 X.K X.mg false n f) ps dvs) (hp : Pl X j) (tk : Takes X W) (hdd : ∀ F, RpL X.K X.mg F dds dvs) (hg : Gl X x) (ha : JL X T W (a :: es) ms) (hk : k ≤ j := by decide) (hn : (a :: es).length + dds.length = n := by rfl)
    (hdb : (x == ("__debug__" : Str)) = false := by decide) (he : starEach (a :: es) X.env = (false, eval a X.env) :: starEach es X.env := by rfl) (hpl : (backTo pos (starEach es X.env)).any (·.1) = false := by rfl) :
    JV X T W (.Call (.Name x p) (a :: es) [] pos) (mC0 f dds ms) := jv_call0 G (hp.room.mono hk) hp.gu tk hdd hg ha hn hdb he hpl
theorem jo_c0 (G : Fn X k x (spF0 X.K X.mg true n f) ps dvs) (hp : Pl X j) (tk : Takes X W) (hdd : ∀ F, RpL X.K X.mg F dds dvs) (hg : Gl X x) (ha : JL X T W (a :: es) ms) (hk : k ≤ j := by decide) (hn : (a :: es).length + dds.length = n := by rfl)
    (hdb : (x == ("__debug__" : Str)) = false := by decide) (he : starEach (a :: es) X.env = (false, eval a X.env) :: starEach es X.env := by rfl) (hpl : (backTo pos (starEach es X.env)).any (·.1) = false := by rfl) :
    JO X T W (.Call (.Name x p) (a :: es) [] pos) (mC0 f dds ms) := jo_call0 G (hp.room.mono hk) hp.gu tk hdd hg ha hn hdb he hpl
theorem jv_c1 (i : Nat) {y : Str} {py : Pos} (G : Fn X k x (spF1 X.K X.mg false n f) ps dvs) (hp : Pl X j) (tk : Takes X W) (hdd : ∀ F, RpL X.K X.mg F dds dvs) (hg : Gl X x) (hN : X.N[i]? = some y) (hv : Vis X.env.scope y) (ha : JL X T W es ms) (hk : k ≤ j := by decide) (hn : es.length + dds.length + 1 = n := by rfl)
    (hdb : (x == ("__debug__" : Str)) = false := by decide) (he : starEach (.Name y py :: es) X.env = (false, eval (.Name y py) X.env) :: starEach es X.env := by rfl) (hpl : (backTo pos (starEach es X.env)).any (·.1) = false := by rfl)
    (hd2 : (y == ("__debug__" : Str)) = false := by decide) (hcd : (y == ("__classdict__" : Str)) = false := by decide) :
    JV X T W (.Call (.Name x p) (.Name y py :: es) [] pos) (mC1 f i dds ms) := jv_call1 G (hp.room.mono hk) hp.gu tk hdd hg hN hv ha hn hdb he hpl hd2 hcd
theorem jo_c1 (i : Nat) {y : Str} {py : Pos} (G : Fn X k x (spF1 X.K X.mg true n f) ps dvs) (hp : Pl X j) (tk : Takes X W) (hdd : ∀ F, RpL X.K X.mg F dds dvs) (hg : Gl X x) (hN : X.N[i]? = some y) (hv : Vis X.env.scope y) (ha : JL X T W es ms) (hk : k ≤ j := by decide) (hn : es.length + dds.length + 1 = n := by rfl)
    (hdb : (x == ("__debug__" : Str)) = false := by decide) (he : starEach (.Name y py :: es) X.env = (false, eval (.Name y py) X.env) :: starEach es X.env := by rfl) (hpl : (backTo pos (starEach es X.env)).any (·.1) = false := by rfl)
    (hd2 : (y == ("__debug__" : Str)) = false := by decide) (hcd : (y == ("__classdict__" : Str)) = false := by decide) :
    JO X T W (.Call (.Name x p) (.Name y py :: es) [] pos) (mC1 f i dds ms) := jo_call1 G (hp.room.mono hk) hp.gu tk hdd hg hN hv ha hn hdb he hpl hd2 hcd
theorem nodd : ∀ F, RpL X.K X.mg F [] [] := fun F => by rw [rl_nil]
end
abbrev FnC (P : Program) (w : World) (K : PySem.W.Frag) (mg : Str → Option Value) (base : Heap) (k : Nat) (x : Str) (sp : Sp) (ps : List Str) (dvs : List V) : Prop :=
  ∃ f fd ds, FnG P w K mg base k f fd ps sp ∧ mg x = some (.ref f) ∧ PySem.W.keepIn K (.ref f) = true ∧ Binds K fd ps ds ∧ Vals dvs ds
end Sr
namespace Sr
open PySem hiding start
open PySem.Spec L2
open PyProof.Rows hiding St
structure DefZ where
  ad : PySem.W.Frag → Addr
  name : Str
  qual : Str
  st : Stmt
  kwd : List (Str × V) := []
def fnZ (K : PySem.W.Frag) (a : Addr) : He.FnW := match K.lookup a with
  | some ⟨_, _, .func fd, _⟩ => some (fd.name, fd.qualname, fd.params, fd.body, fd.scope, fd.globals, fd.closure, fd.builtins)
  | _ => none
def DefZ.val (d : DefZ) : He.FnW := some (d.name, d.qual, defArgs d.st, .stmts (defBody d.st), defScope d.st, mainGlobals, [], builtinsNs)
def DefZ.ok (K : PySem.W.Frag) (d : DefZ) : Bool := PySem.W.keepIn K (.ref (d.ad K)) && (match K.lookup (d.ad K) with
  | some ⟨_, _, .func fd, _⟩ => PySem.W.codeIn K fd.code d.qual && (He.dflB K fd.defaults [] && He.kwdB K fd.kwdefaults d.kwd)
  | _ => false)
theorem DefZ.funD {K : PySem.W.Frag} {d : DefZ} (e : fnZ K (d.ad K) = d.val) (c : d.ok K = true) : ∃ fd, FunD K d.name d.qual (defArgs d.st) (defBody d.st) (defScope d.st) [] d.kwd (d.ad K) fd := by
  obtain ⟨kp, c2⟩ := He.ba c
  unfold fnZ at e
  cases q : K.lookup (d.ad K) with
  | none => rw [q] at c2; cases c2
  | some o =>
    obtain ⟨oc, od, dt, osl⟩ := o
    rw [q] at c2 e
    cases dt with
    | func fd =>
      obtain ⟨n1, n2, n3, n4, n5, n6, n7, n8, n9, n10, n11, n12, n13, n14, n15⟩ := fd
      have e2 : (some (n1, n2, n3, n4, n5, n6, n7, n15) : He.FnW) = some (d.name, d.qual, defArgs d.st, .stmts (defBody d.st), defScope d.st, mainGlobals, [], builtinsNs) := e
      simp only [Option.some.injEq, Prod.mk.injEq] at e2
      obtain ⟨h1, h2, h3, h4, h5, h6, h7, h8⟩ := e2
      subst h1 h2 h3 h4 h5 h6 h7 h8
      have c3 : (PySem.W.codeIn K n13 d.qual && (He.dflB K n8 [] && He.kwdB K n9 d.kwd)) = true := c2
      obtain ⟨k1, k2⟩ := He.ba c3
      obtain ⟨k3, k4⟩ := He.ba k2
      exact ⟨_, ⟨oc, od, n8, n9, n10, n11, n12, n13, n14, osl, rfl, q, k1, He.dflB_ok k3, He.kwdB_ok k4⟩, kp⟩
    | _ => cases c2
abbrev AlZ : Type := Bool × List He.FnW
def obsK (fa : List He.Fa) (fn : List DefZ) (ex : PySem.W.Frag → Bool) (K : PySem.W.Frag) : AlZ := ((fa.all fun f => f.ok K) && ((fn.all fun d => d.ok K) && ex K), fn.map fun d => fnZ K (d.ad K))
def valZ (fn : List DefZ) : AlZ := (true, fn.map DefZ.val)
def SaysZ (fa : List He.Fa) (fn : List DefZ) (ex : PySem.W.Frag → Bool) (K : PySem.W.Frag) : Prop := obsK fa fn ex K = valZ fn
def obsZ (n : Nat) (fa : List He.Fa) (fn : List DefZ) (ex : PySem.W.Frag → Bool) (g : Addr → Option Obj) : AlZ := obsK fa fn ex (He.frG g (He.asD g n ++ [cStatics]))
def hookZ (n : Nat) (fa : List He.Fa) (fn : List DefZ) (ex : PySem.W.Frag → Bool) : PySem.W.Hook where
  α := AlZ
  obs := fun s => obsZ n fa fn ex s.heap.get?
  val := fun _ => valZ fn
  says := fun _ h => ∃ K : PySem.W.Frag, K.In h ∧ SaysZ fa fn ex K
  of := fun _ _ e => ⟨_, He.frG_in, e⟩
  keeps := fun _ _ _ ⟨K, hK, c⟩ k => ⟨K, PySem.W.Frag.In.keeps hK k, c⟩
theorem obsZ_eq {n : Nat} {fa : List He.Fa} {fn : List DefZ} {ex : PySem.W.Frag → Bool} {g : Addr → Option Obj} {s : Shared} (h : ∀ a, g a = s.heap.get? a) : obsZ n fa fn ex g = (hookZ n fa fn ex).obs s := by
  have e : g = s.heap.get? := funext h
  rw [e] <;> rfl
section
variable {fa : List He.Fa} {fn : List DefZ} {ex : PySem.W.Frag → Bool} {K : PySem.W.Frag}
theorem SaysZ.all (c : SaysZ fa fn ex K) : (fa.all fun f => f.ok K) = true ∧ (fn.all fun d => d.ok K) = true ∧ ex K = true := by
  obtain ⟨h1, h2⟩ := He.ba (show ((fa.all fun f => f.ok K) && ((fn.all fun d => d.ok K) && ex K)) = true from congrArg (fun z : AlZ => z.1) c)
  exact ⟨h1, He.ba h2⟩
theorem SaysZ.fact (c : SaysZ fa fn ex K) (i : Nat) {f : He.Fa} (h : fa[i]? = some f := by rfl) : f.ok K = true := List.all_eq_true.mp c.all.1 f (List.mem_of_getElem? h)
theorem SaysZ.def_ (c : SaysZ fa fn ex K) (i : Nat) {d : DefZ} (h : fn[i]? = some d := by rfl) : ∃ fd, FunD K d.name d.qual (defArgs d.st) (defBody d.st) (defScope d.st) [] d.kwd (d.ad K) fd := by
  have e : fn.map (fun d => fnZ K (d.ad K)) = fn.map DefZ.val := congrArg (fun z : AlZ => z.2) c
  have e2 : (fn.map fun d => fnZ K (d.ad K))[i]? = (fn.map DefZ.val)[i]? := by rw [e]
  rw [List.getElem?_map, List.getElem?_map, h] at e2
  exact DefZ.funD (Option.some.inj e2) (List.all_eq_true.mp c.all.2.1 d (List.mem_of_getElem? h))
end
def prG (K : PySem.W.Frag) (c f : Str) : Addr × Addr := match PySem.W.findIn K (.ref (He.ga K c)) f with
  | some (some (.ref p)) => (p, match PySem.W.recIn K p "property" with
    | some (.ref g :: _) => g
    | _ => 0)
  | _ => (0, 0)
def propB (K : PySem.W.Frag) (c f : Str) : Bool :=
  decide (PySem.W.findIn K (.ref (He.ga K c)) f = some (some (.ref (prG K c f).1))) && (decide (PySem.W.specialIn K (.ref (prG K c f).1) "__get__" = some (some (.builtin "property.__get__"))) && (decide (PySem.W.takesIn K (.ref (prG K c f).1) = some true) &&
    match PySem.W.recIn K (prG K c f).1 "property" with
    | some (.ref g :: _) => decide (g = (prG K c f).2)
    | _ => false))
theorem propB_ok {K : PySem.W.Frag} {c f : Str} (h : propB K c f = true) : PropOf K (He.ga K c) f (prG K c f).1 (prG K c f).2 := by
  unfold propB at h
  simp only [Bool.and_eq_true, decide_eq_true_eq] at h
  obtain ⟨h1, h2, h3, h4⟩ := h
  refine ⟨h1, h2, h3, ?_⟩
  split at h4
  · rename_i g r e
    rw [decide_eq_true_eq] at h4
    rw [← h4]; exact ⟨r, e⟩
  · cases h4
def cliB (K : PySem.W.Frag) (c : Str) : Bool :=
  decide (PySem.W.findIn K (.ref (He.ga K c)) "__class__" = some (some (.builtin "object.__class__"))) && (decide (PySem.W.specialIn K (.builtin "object.__class__") "__get__" = some (some (.builtin "getset_descriptor.__get__"))) &&
    (decide (PySem.W.takesIn K (.builtin "object.__class__") = some true) && decide (PySem.W.mroIn K (He.ga K c) (.type "object") = some true)))
theorem cliB_ok {K : PySem.W.Frag} {mg : Str → Option Value} {c : Str} (hc : ClK K mg c (He.ga K c)) (h : cliB K c = true) : ClI K mg c (He.ga K c) := by
  unfold cliB at h
  simp only [Bool.and_eq_true, decide_eq_true_eq] at h
  exact ⟨hc, h.1, h.2.1, h.2.2.1, h.2.2.2⟩
def allKd : List Kd := [.non, .bool, .int, .str, .bytes, .list, .tuple, .dict]
def noKd (K : PySem.W.Frag) (c : Str) : Bool := allKd.all fun k => decide (PySem.W.kitOne K (.type k.nm) (.ref (He.ga K c)) = some false)
theorem noKd_ok {K : PySem.W.Frag} {c : Str} (h : noKd K c = true) : ∀ n b, (fun _ : Kd => some false) n = some b → PySem.W.kitOne K (.type n.nm) (.ref (He.ga K c)) = some b := by
  intro n b e
  cases e
  have hm : n ∈ allKd := by cases n <;> decide
  exact of_decide_eq_true (List.all_eq_true.mp h n hm)
def ownB (K : PySem.W.Frag) (u : Value) (l : List (Str × Bool)) : Bool := l.all fun q => decide (PySem.W.kitOne K (.ref (He.ga K q.1)) u = some q.2)
theorem ownB_ok {K : PySem.W.Frag} {mg : Str → Option Value} {u : Value} {l : List (Str × Bool)} (h : ownB K u l = true) (hC : ∀ q ∈ l, ClI K mg q.1 (He.ga K q.1)) : ∀ c b, l.lookup c = some b → ∃ C, ClI K mg c C ∧ PySem.W.kitOne K (.ref C) u = some b := by
  intro c b e
  have hm : (c, b) ∈ l := PySem.mem_of_lookup e
  exact ⟨_, hC (c, b) hm, of_decide_eq_true (List.all_eq_true.mp h (c, b) hm)⟩
def gMul : D → D → Option D := gMulI
theorem o_mul {X : Cx} : Op2 X (binaryOp .Mult) gMul := o_mulI
end Sr
namespace Sr
open PySem hiding start
open PySem.Spec L2
open PyProof.Rows hiding St
theorem bt_len : bootBuiltins "len" = some (.builtin "len") := by decide +kernel
theorem bt_max : bootBuiltins "max" = some (.builtin "max") := by decide +kernel
theorem bt_min : bootBuiltins "min" = some (.builtin "min") := by decide +kernel
theorem bt_abs : bootBuiltins "abs" = some (.builtin "abs") := by decide +kernel
theorem bt_repr : bootBuiltins "repr" = some (.builtin "repr") := by decide +kernel
theorem bt_sum : bootBuiltins "sum" = some (.builtin "sum") := by decide +kernel
theorem bt_all : bootBuiltins "all" = some (.builtin "all") := by decide +kernel
theorem bt_any : bootBuiltins "any" = some (.builtin "any") := by decide +kernel
theorem bt_isinstance : bootBuiltins "isinstance" = some (.builtin "isinstance") := by decide +kernel
theorem bt_sorted : bootBuiltins "sorted" = some (.builtin "sorted") := by decide +kernel
theorem bt_int : bootBuiltins "int" = some (.type "int") := by decide +kernel
theorem bt_bool : bootBuiltins "bool" = some (.type "bool") := by decide +kernel
theorem bt_str : bootBuiltins "str" = some (.type "str") := by decide +kernel
theorem bt_tuple : bootBuiltins "tuple" = some (.type "tuple") := by decide +kernel
theorem bt_list : bootBuiltins "list" = some (.type "list") := by decide +kernel
theorem bt_bytes : bootBuiltins "bytes" = some (.type "bytes") := by decide +kernel
theorem bt_set : bootBuiltins "set" = some (.type "set") := by decide +kernel
theorem bt_range : bootBuiltins "range" = some (.type "range") := by decide +kernel
theorem bt_enumerate : bootBuiltins "enumerate" = some (.type "enumerate") := by decide +kernel
theorem bt_zip : bootBuiltins "zip" = some (.type "zip") := by decide +kernel
theorem bt_reversed : bootBuiltins "reversed" = some (.type "reversed") := by decide +kernel
theorem bt_dict : bootBuiltins "dict" = some (.type "dict") := by decide +kernel
theorem law_true {K : PySem.W.Frag} {mg : Str → Option Value} {f : Fnc} {ns : List Int} {H : Hp} {a : Addr} (h : f .non [.scr ns] = .ok (.bl true) .non) (hS : SqL K H a (ns.map V.int)) : spF0 K mg false 1 f [.ref a] H (fun v _ => v = .bl true) fun _ _ _ => False := by
  refine ⟨[.scr ns], H, Same.refl _, ?_, rfl, ?_⟩
  · rw [rl_cons]
    exact ⟨_, [], rfl, by rw [rp_scr]; exact ⟨a, rfl, hS⟩, by rw [rl_nil]⟩
  · rw [h]
    intro H' F' _ v hv
    rw [rp_bl] at hv
    exact hv
theorem fn_get {P : Program} {w : World} {K : PySem.W.Frag} {mg : Str → Option Value} {base : Heap} {x qual f : Str} {st : Stmt} {kws : List (Str × V)} {fa C : Addr} {fd : FuncData} {p1 p2 p3 : Pos} (G : FunD K x qual (defArgs st) (defBody st) (defScope st) [] kws fa fd) (cl : Cls K C) (hn : NoAttr K C f)
    (S : FnScope ["self"] ["self"] (defScope st)) (hb : defBody st = [.Return (some (.Attribute (.Name "self" p1) f p2)) p3]) : FnOk P w K mg base CX0 1 fa fd ["self"] (getSp C f) := by
  refine G.ok S (fun vs H Q E h => ?_) (fun cdv A outer s H vs Q E hr h => ?_)
  · obtain ⟨a, dx, fs, v, rfl, _⟩ := h
    rfl
  · obtain ⟨a, dx, fs, v, rfl, h1, h2, h3⟩ := h
    have hv : Vis (defScope st) "self" := by
      rcases S.par "self" (by simp) with q | q
      · exact .inl q
      · exact .inr (.inl q)
    rw [hb]
    refine ⟨_, pss_one (ps_ret (pe_fld (pe_var (i := 0) rfl hv) rfl)), ?_⟩
    exact ⟨_, rfl, a, C, dx, fs, v, rfl, h1, cl, hn, h2, h3⟩
theorem kbn0 {K : PySem.W.Frag} {fd : FuncData} {ps : List Str} (h : Binds K fd ps []) : KBn K fd ps ps.length [] (fun us _ => us) (fun vs _ => vs) := by
  refine ⟨fun s us ws X l1 l2 => ?_, fun r _ => r⟩
  have e : ws = [] := List.length_eq_zero_iff.mp l2
  subst e
  have b := h s us X (by rw [List.append_nil]; exact l1)
  rw [List.append_nil] at b
  exact b
end Sr
namespace Sr
open PySem hiding start
open L2
section
variable {A B : Type}
theorem bnd_ok {m : M A} {f : A → M B} {e e' : En} {a : A} (h : m e = .ok a e') : bnd m f e = f a e' := by unfold bnd; rw [h]
theorem bnd_exc {m : M A} {f : A → M B} {e e' : En} {x : Ex} (h : m e = .exc x e') : bnd m f e = .exc x e' := by unfold bnd; rw [h]
@[simp] theorem bnd_ret {a : A} {f : A → M B} {e : En} : bnd (ret a) f e = f a e := rfl
@[simp] theorem bnd_opt {a : A} {f : A → M B} {e : En} : bnd (opt (some a)) f e = f a e := rfl
theorem sq_nx {s u : M Fl} {e e' : En} (h : s e = .ok .nx e') : sq s u e = u e' := by unfold sq; rw [h]
theorem sq_rt {s u : M Fl} {e e' : En} {d : D} (h : s e = .ok (.rt d) e') : sq s u e = .ok (.rt d) e' := by unfold sq; rw [h]
theorem lp_nx {b k : M Fl} {e e' : En} (h : b e = .ok .nx e') : lp b k e = k e' := by unfold lp; rw [h]
theorem lp_rt {b k : M Fl} {e e' : En} {d : D} (h : b e = .ok (.rt d) e') : lp b k e = .ok (.rt d) e' := by unfold lp; rw [h]
end
def turn (w : D → M Unit) (b : M Fl) (d : D) : M Fl := bnd (w d) fun _ => b
theorem forL_cons_nx {w : D → M Unit} {b : M Fl} {d : D} {ds : List D} {e e' : En} (h : turn w b d e = .ok .nx e') : forL w b (d :: ds) e = forL w b ds e' := by
  unfold turn bnd at h
  show bnd (w d) (fun _ => lp b (forL w b ds)) e = _
  unfold bnd
  cases q : w d e with
  | ok u e1 => rw [q] at h; exact lp_nx h
  | exc x e1 => rw [q] at h; cases h
  | bad => rw [q] at h; cases h
theorem forL_cons_rt {w : D → M Unit} {b : M Fl} {d : D} {ds : List D} {e e' : En} {z : D} (h : turn w b d e = .ok (.rt z) e') : forL w b (d :: ds) e = .ok (.rt z) e' := by
  unfold turn bnd at h
  show bnd (w d) (fun _ => lp b (forL w b ds)) e = _
  unfold bnd
  cases q : w d e with
  | ok u e1 => rw [q] at h; exact lp_rt h
  | exc x e1 => rw [q] at h; cases h
  | bad => rw [q] at h; cases h
theorem forL_inv {w : D → M Unit} {b : M Fl} (I : En → Prop) : ∀ {ds : List D} {e : En}, (∀ d ∈ ds, ∀ e, I e → ∃ e', turn w b d e = .ok .nx e' ∧ I e') → I e → ∃ e', forL w b ds e = .ok .nx e' ∧ I e'
  | [], e, _, h => ⟨e, rfl, h⟩
  | d :: ds, e, hs, h => by
    obtain ⟨e1, h1, h2⟩ := hs d (by simp) e h
    obtain ⟨e2, h3, h4⟩ := forL_inv I (ds := ds) (fun d hd => hs d (List.mem_cons_of_mem _ hd)) h2
    exact ⟨e2, by rw [forL_cons_nx h1]; exact h3, h4⟩
theorem forL_fold {A : Type} {w : D → M Unit} {b : M Fl} (R : A → En → Prop) (step : A → D → A) : ∀ {ds : List D} {a : A} {e : En}, (∀ d ∈ ds, ∀ a e, R a e → ∃ e', turn w b d e = .ok .nx e' ∧ R (step a d) e') → R a e → ∃ e', forL w b ds e = .ok .nx e' ∧ R (ds.foldl step a) e'
  | [], a, e, _, h => ⟨e, rfl, h⟩
  | d :: ds, a, e, hs, h => by
    obtain ⟨e1, h1, h2⟩ := hs d (by simp) a e h
    obtain ⟨e2, h3, h4⟩ := forL_fold R step (ds := ds) (fun d hd => hs d (List.mem_cons_of_mem _ hd)) h2
    exact ⟨e2, by rw [forL_cons_nx h1]; exact h3, h4⟩
end Sr
namespace Sr
open PySem hiding start
open L2
theorem forL_foldP {A : Type} {w : D → M Unit} {b : M Fl} (R : A → En → Prop) (step : A → D → A) (a : A) (ds : List D) : ∀ (pre post : List D) (e : En), ds = pre ++ post →
    (∀ pre d post, ds = pre ++ d :: post → ∀ e, R (pre.foldl step a) e → ∃ e', turn w b d e = .ok .nx e' ∧ R (step (pre.foldl step a) d) e') → R (pre.foldl step a) e → ∃ e', forL w b post e = .ok .nx e' ∧ R (ds.foldl step a) e'
  | pre, [], e, h, _, hR => by rw [List.append_nil] at h; subst h; exact ⟨e, rfl, hR⟩
  | pre, d :: post, e, h, hs, hR => by
    obtain ⟨e1, h1, h2⟩ := hs pre d post h e hR
    obtain ⟨e2, h3, h4⟩ := forL_foldP R step a ds (pre ++ [d]) post e1 (by rw [h]; simp) hs (by rw [List.foldl_append]; exact h2)
    exact ⟨e2, by rw [forL_cons_nx h1]; exact h3, h4⟩
def irng (lo hi : Int) : List Int := (List.range (hi - lo).toNat).map fun (i : Nat) => lo + i
theorem rngL_eq (lo hi : Int) : rngL lo hi = (irng lo hi).map D.int := by
  unfold rngL irng
  rw [List.map_map]; rfl
theorem irng_mem {lo hi i : Int} (h : i ∈ irng lo hi) : lo ≤ i ∧ i < hi := by
  unfold irng at h
  rw [List.mem_map] at h
  obtain ⟨n, h1, rfl⟩ := h
  rw [List.mem_range] at h1
  omega
theorem forL_map {A B : Type} {w : D → M Unit} {b : M Fl} (f : B → D) (R : A → En → Prop) (step : A → B → A) (a : A) (xs : List B) (e : En)
    (hs : ∀ pre x post, xs = pre ++ x :: post → ∀ e, R (pre.foldl step a) e → ∃ e', turn w b (f x) e = .ok .nx e' ∧ R (step (pre.foldl step a) x) e') (h0 : R a e) : ∃ e', forL w b (xs.map f) e = .ok .nx e' ∧ R (xs.foldl step a) e' := by
  suffices H : ∀ (pre post : List B) (e : En), xs = pre ++ post → R (pre.foldl step a) e → ∃ e', forL w b (post.map f) e = .ok .nx e' ∧ R (xs.foldl step a) e' from H [] xs e rfl h0
  intro pre post
  induction post generalizing pre with
  | nil => intro e h hR; rw [List.append_nil] at h; subst h; exact ⟨e, rfl, hR⟩
  | cons x post ih =>
    intro e h hR
    obtain ⟨e1, h1, h2⟩ := hs pre x post h e hR
    obtain ⟨e2, h3, h4⟩ := ih (pre ++ [x]) e1 (by rw [h]; simp) (by rw [List.foldl_append]; exact h2)
    exact ⟨e2, by rw [List.map_cons, forL_cons_nx h1]; exact h3, h4⟩
theorem foldl_len {A B : Type} {step : List A → B → List A} {k : Nat} (h : ∀ a b, (step a b).length ≤ a.length + k) : ∀ (xs : List B) (a : List A), (xs.foldl step a).length ≤ a.length + k * xs.length
  | [], a => by simp
  | x :: xs, a => by
    have h1 := h a x
    have h2 := foldl_len h xs (step a x)
    rw [List.foldl_cons, List.length_cons, Nat.mul_succ]
    omega
theorem cmul_l {i j : Int} (h1 : -18446744073709551616 < i) (h2 : i < 18446744073709551616) : cMul i j = true := by
  unfold cMul; simp; left; exact ⟨h1, h2⟩
def PenOk (o : D) : Prop := ∃ a b c : Int, o = .lst [.int a, .int b, .int c] ∧ 0 ≤ a ∧ 0 ≤ b ∧ b ≤ 2147483647
end Sr
namespace Sr
open PySem hiding start
open L2
structure Sh (d : D) (k n : Nat) (p : PyData) : Prop where
  eq : toP d = some p
  sh : p.showable = true
  nd : p.hasDict = false
  dp : p.depth ≤ k
  ln : p.shown.length ≤ n
structure ShL (ds : List D) (k n : Nat) (ps : List PyData) : Prop where
  eq : toPL ds = some ps
  sh : PyData.showableAll ps = true
  nd : PyData.hasDictAll ps = false
  dp : PyData.depthAll ps ≤ k
  ln : piled (PyData.shownAll ps) ≤ n
theorem listText_le (ts : List Str) : (listText ts).length ≤ piled ts + 2 := by
  cases ts with
  | nil => decide +kernel
  | cons t r =>
    show (textFrom 1 ((("[" : Str) ++ ((if 0 > 0 then ", " else "" : String) : Str)) ++ t) r ++ ("]" : Str)).length ≤ _
    rw [strLen_append, textFrom_length_pos _ _ _ (by omega), piled_cons, strLen_append, strLen_append]
    have h1 : (("[" : Str)).length = 1 := by decide +kernel
    have h2 : (("]" : Str)).length = 1 := by decide +kernel
    have h3 : (((if 0 > 0 then ", " else "" : String) : Str)).length = 0 := by decide +kernel
    omega
theorem tupleText_le (ts : List Str) : (tupleText ts).length ≤ piled ts + 3 := by
  unfold tupleText
  rw [strLen_append, strLen_append]
  have h1 : (("(" : Str)).length = 1 := by decide +kernel
  have h2 : (((if ts.length == 1 then ",)" else ")" : String) : Str)).length ≤ 2 := by split <;> decide +kernel
  cases ts with
  | nil =>
    have h3 : (Str.join ", " ([] : List Str)).length = 0 := by decide +kernel
    rw [h3]; omega
  | cons t r =>
    have h3 := join_length_add (t :: r) (by simp)
    omega
theorem sh_non : Sh .non 0 4 .none := ⟨rfl, rfl, rfl, Nat.le_refl _, by decide +kernel⟩
theorem sh_bl (b : Bool) : Sh (.bl b) 0 5 (.bool b) := ⟨rfl, rfl, rfl, Nat.le_refl _, by cases b <;> decide +kernel⟩
theorem short99 (i : Int) (h : 0 ≤ i ∧ i < 100) : (PyData.shown (.int i)).length ≤ 2 ∧ i.natAbs.log2 < 1920 := by
  have H : ∀ n : Fin 100, (PyData.shown (.int (n.val : Int))).length ≤ 2 ∧ (n.val : Int).natAbs.log2 < 1920 := by decide +kernel
  have := H ⟨i.toNat, by omega⟩
  have e : ((i.toNat : Nat) : Int) = i := by omega
  rw [e] at this
  exact this
theorem sh_int {i : Int} (h0 : 0 ≤ i) (h1 : i < 100) : Sh (.int i) 0 2 (.int i) := by
  obtain ⟨h2, h3⟩ := short99 i ⟨h0, h1⟩
  exact ⟨rfl, by simp only [PyData.showable, decide_eq_true_eq]; exact h3, rfl, Nat.le_refl _, h2⟩
theorem shl_nil : ShL [] 0 0 [] := ⟨rfl, rfl, rfl, Nat.le_refl _, Nat.le_refl _⟩
theorem shl_cons {d : D} {ds : List D} {k k' n n' : Nat} {p : PyData} {ps : List PyData} (h : Sh d k n p) (hs : ShL ds k' n' ps) : ShL (d :: ds) (max k k') (n + 2 + n') (p :: ps) := by
  refine ⟨by simp only [toPL, h.eq, hs.eq, Option.bind_some, Option.map_some], by simp only [PyData.showableAll, h.sh, hs.sh, Bool.and_self], by simp only [PyData.hasDictAll, h.nd, hs.nd, Bool.or_self], ?_, ?_⟩
  · have := h.dp; have := hs.dp; simp only [PyData.depthAll]; omega
  · have := h.ln; have := hs.ln; simp only [PyData.shownAll, piled_cons]; omega
theorem sh_lst {ds : List D} {k n : Nat} {ps : List PyData} (h : ShL ds k n ps) : Sh (.lst ds) (k + 1) (n + 2) (.list ps) := by
  refine ⟨by simp only [toP, h.eq, Option.map_some], by simp only [PyData.showable]; exact h.sh, by simp only [PyData.hasDict]; exact h.nd, ?_, ?_⟩
  · have := h.dp; simp only [PyData.depth]; omega
  · have := listText_le (PyData.shownAll ps); have := h.ln; simp only [PyData.shown]; omega
theorem sh_tup {ds : List D} {k n : Nat} {ps : List PyData} (h : ShL ds k n ps) : Sh (.tup ds) (k + 1) (n + 3) (.tuple ps) := by
  refine ⟨by simp only [toP, h.eq, Option.map_some], by simp only [PyData.showable]; exact h.sh, by simp only [PyData.hasDict]; exact h.nd, ?_, ?_⟩
  · have := h.dp; simp only [PyData.depth]; omega
  · have := tupleText_le (PyData.shownAll ps); have := h.ln; simp only [PyData.shown]; omega
theorem repr_lst {ds : List D} {k n : Nat} {p : PyData} (h : Sh (.lst ds) k n p) (hk : k ≤ 64) (hn : n ≤ 16777216) : gRepr (.lst ds) = some (.str p.shown) := by
  have h1 := h.dp; have h2 := h.ln
  have hs : sizeLine = 16777216 := by decide
  simp only [gRepr, h.eq, h.sh, h.nd, Bool.not_false, Bool.and_true, Bool.true_and, Bool.and_eq_true, decide_eq_true_eq]
  rw [if_pos ⟨by omega, by rw [hs]; omega⟩]
theorem repr_tup {ds : List D} {k n : Nat} {p : PyData} (h : Sh (.tup ds) k n p) (hk : k ≤ 64) (hn : n ≤ 16777216) : gRepr (.tup ds) = some (.str p.shown) := by
  have h1 := h.dp; have h2 := h.ln
  have hs : sizeLine = 16777216 := by decide
  simp only [gRepr, h.eq, h.sh, h.nd, Bool.not_false, Bool.and_true, Bool.true_and, Bool.and_eq_true, decide_eq_true_eq]
  rw [if_pos ⟨by omega, by rw [hs]; omega⟩]
end Sr
namespace Sr
open PySem hiding start
open PySem.Spec L2
open PyProof.Rows hiding St
def W0 : WX := fun _ _ _ _ => False
theorem takes0 {X : Cx} : Takes X W0 := fun u s' ⟨a, B, sI, pins, σ, H, cls, d, e, I, nb, up, sky, na, os, ag, w⟩ => w.elim
def wipE : List Nat → En → En
  | [], e => e
  | v :: vs, e => (wipE vs e).set v .no
def rst : List Nat → En → En → En
  | [], _, e2 => e2
  | v :: vs, e1, e2 => (rst vs e1 e2).set v (match e1[v]? with
    | some (.val d) => .val d
    | _ => .no)
theorem wipE_len : ∀ (vs : List Nat) (e : En), (wipE vs e).length = e.length
  | [], _ => rfl
  | v :: vs, e => by unfold wipE; rw [List.length_set, wipE_len vs e]
theorem rst_len : ∀ (vs : List Nat) (e1 e : En), (rst vs e1 e).length = e.length
  | [], _, _ => rfl
  | v :: vs, e1, e => by unfold rst; rw [List.length_set, rst_len vs e1 e]
theorem wipE_get : ∀ {vs : List Nat} {e : En} {j : Nat} {x : Sl}, (wipE vs e)[j]? = some x → x ≠ .no → j ∉ vs ∧ e[j]? = some x
  | [], e, j, x, h, _ => ⟨by simp, h⟩
  | v :: vs, e, j, x, h, n => by
    unfold wipE at h
    by_cases hj : v = j
    · subst hj
      by_cases hl : v < (wipE vs e).length
      · rw [List.getElem?_set_self hl] at h; cases h; exact (n rfl).elim
      · rw [List.getElem?_eq_none (by rw [List.length_set]; omega)] at h; cases h
    · rw [List.getElem?_set_ne hj] at h
      obtain ⟨h1, h2⟩ := wipE_get h n
      exact ⟨by simp only [List.mem_cons, not_or]; exact ⟨fun q => hj q.symm, h1⟩, h2⟩
theorem rst_get : ∀ {vs : List Nat} {e1 e : En} {j : Nat} {x : Sl}, (rst vs e1 e)[j]? = some x → x ≠ .no → (j ∉ vs ∧ e[j]? = some x) ∨ ((∃ d, x = .val d) ∧ e1[j]? = some x)
  | [], e1, e, j, x, h, _ => .inl ⟨by simp, h⟩
  | v :: vs, e1, e, j, x, h, n => by
    unfold rst at h
    by_cases hj : v = j
    · subst hj
      by_cases hl : v < (rst vs e1 e).length
      · rw [List.getElem?_set_self hl] at h
        cases q : e1[v]? with
        | none => rw [q] at h; cases h; exact (n rfl).elim
        | some s =>
          rw [q] at h
          cases s with
          | no => cases h; exact (n rfl).elim
          | own d => cases h; exact (n rfl).elim
          | val d => cases h; exact .inr ⟨⟨d, rfl⟩, rfl⟩
      · rw [List.getElem?_eq_none (by rw [List.length_set]; omega)] at h; cases h
    · rw [List.getElem?_set_ne hj] at h
      rcases rst_get h n with ⟨h1, h2⟩ | h1
      · exact .inl ⟨by simp only [List.mem_cons, not_or]; exact ⟨fun q => hj q.symm, h1⟩, h2⟩
      · exact .inr h1
theorem wipe_get {σ : St} {j : Nat} : ∀ {vs : List Nat}, (wipe σ vs)[j]? = if j ∈ vs ∧ j < σ.length then some none else σ[j]?
  | [] => by simp [wipe]
  | v :: vs => by
    unfold wipe
    by_cases hj : v = j
    · subst hj
      by_cases hl : v < σ.length
      · rw [List.getElem?_set_self (by rw [wipe_length]; exact hl), if_pos ⟨by simp, hl⟩]
      · rw [List.getElem?_eq_none (by rw [List.length_set, wipe_length]; omega), if_neg (fun z => hl z.2), List.getElem?_eq_none (by omega)]
    · rw [List.getElem?_set_ne hj, wipe_get (vs := vs)]
      have : j ∈ v :: vs ↔ j ∈ vs := by simp only [List.mem_cons]; exact ⟨fun z => z.elim (fun q => (hj q.symm).elim) id, .inr⟩
      simp only [this]
theorem wipe_set {σ : St} {i : Nat} {x : Option V} {vs : List Nat} (h : i ∈ vs) : wipe (σ.set i x) vs = wipe σ vs := by
  refine List.ext_getElem? fun j => ?_
  rw [wipe_get, wipe_get, List.length_set]
  by_cases hj : j ∈ vs ∧ j < σ.length
  · rw [if_pos hj, if_pos hj]
  · rw [if_neg hj, if_neg hj]
    by_cases hij : i = j
    · subst hij
      have : ¬ i < σ.length := fun z => hj ⟨h, z⟩
      rw [List.getElem?_eq_none (by rw [List.length_set]; omega), List.getElem?_eq_none (by omega)]
    · rw [List.getElem?_set_ne hij]
section
variable {K : PySem.W.Frag} {mg : Str → Option Value} {T : Pn} {W : WX} {e e0 e1 e2 : En} {σ σ0 : St} {H F H0 F0 H1 F1 F2 : Hp} {p : Addr} {o : HO} {vs : List Nat}
theorem Mv.updNew (m : Mv e0 σ0 H0 F0 e σ H F) (n : H0 p = none) : Mv e0 σ0 H0 F0 e σ (upd H p o) F := by
  refine ⟨m.sub, fun a u h w => ?_, m.new, fun a h => ?_⟩
  · obtain ⟨h1, h2⟩ := m.keep a u h w
    exact ⟨by rw [upd_ne (ne_of_none h n)]; exact h1, h2⟩
  · by_cases ha : a = p
    · subst ha; exact n
    · rw [upd_ne ha] at h; exact m.there a h
theorem ER.updFree (er : ER K mg T e σ H F) (n : F p = none) (w : ¬ Ow e σ p) : ER K mg T e σ (upd H p o) F := by
  refine ⟨fun b u q => ?_, er.val, fun i d h => ?_, er.inj, er.len, er.pin⟩
  · rw [upd_ne (ne_of_none q n)]; exact er.sub b u q
  · obtain ⟨q, h1, h2, h3⟩ := er.own i d h
    refine ⟨q, h1, h2, h3.keep (Same.refl _) fun u hu => ?_⟩
    rw [upd_ne]; exact hu
    rintro rfl
    exact w ⟨i, d, h, h1⟩
theorem ER.wip (er : ER K mg T e σ H F) (hT : ∀ v ∈ vs, NoP T v) : ER K mg T (wipE vs e) (wipe σ vs) H F ∧ Mv e σ H F (wipE vs e) (wipe σ vs) H F := by
  have ow : ∀ a, Ow (wipE vs e) (wipe σ vs) a → Ow e σ a := fun a ⟨j, d, h1, h2⟩ => by
    obtain ⟨h3, h4⟩ := wipE_get h1 (fun z => nomatch z)
    rw [wipe_out h3] at h2
    exact ⟨j, d, h4, h2⟩
  refine ⟨⟨er.sub, fun i d h => ?_, fun i d h => ?_, fun i j q d d' h1 h2 h3 h4 => ?_, by rw [wipE_len, wipe_length]; exact er.len, fun q hq => ?_⟩, Same.refl _, fun a u h n => ⟨h, fun z => n (ow a z)⟩, fun a u h => .inl h, fun a h => h⟩
  · obtain ⟨h1, h2⟩ := wipE_get h (fun z => nomatch z)
    obtain ⟨v, h3, h4⟩ := er.val i d h2
    exact ⟨v, by rw [wipe_out h1]; exact h3, h4⟩
  · obtain ⟨h1, h2⟩ := wipE_get h (fun z => nomatch z)
    obtain ⟨v, h3, h4⟩ := er.own i d h2
    exact ⟨v, by rw [wipe_out h1]; exact h3, h4⟩
  · obtain ⟨g1, g2⟩ := wipE_get h1 (fun z => nomatch z)
    obtain ⟨g3, g4⟩ := wipE_get h2 (fun z => nomatch z)
    rw [wipe_out g1] at h3; rw [wipe_out g3] at h4
    exact er.inj i j q d d' g2 g4 h3 h4
  · rw [wipe_out (fun z => hT _ z q hq rfl)]; exact er.pin q hq
theorem ER.rst (er : ER K mg T e2 (wipe σ vs) H F2) (er1 : ER K mg T e1 σ H1 F1) (mv : Mv e1 σ H1 F1 e2 (wipe σ vs) H F2) (hl : e2.length = e1.length) : ER K mg T (Sr.rst vs e1 e2) σ H F2 ∧ Mv e1 σ H1 F1 (Sr.rst vs e1 e2) σ H F2 := by
  have ow : ∀ j d, (Sr.rst vs e1 e2)[j]? = some (.own d) → j ∉ vs ∧ e2[j]? = some (.own d) := fun j d h => by
    rcases rst_get h (fun z => nomatch z) with h1 | ⟨⟨d', h1⟩, _⟩
    · exact h1
    · cases h1
  refine ⟨⟨er.sub, fun i d h => ?_, fun i d h => ?_, fun i j q d d' h1 h2 h3 h4 => ?_, by rw [rst_len, hl]; exact er1.len, er1.pin⟩, mv.sub, fun a u h n => ?_, mv.new, mv.there⟩
  · rcases rst_get h (fun z => nomatch z) with ⟨h1, h2⟩ | ⟨_, h2⟩
    · obtain ⟨v, h3, h4⟩ := er.val i d h2
      exact ⟨v, by rw [wipe_out h1] at h3; exact h3, h4⟩
    · obtain ⟨v, h3, h4⟩ := er1.val i d h2
      exact ⟨v, h3, Rp.mono mv.sub _ _ h4⟩
  · obtain ⟨h1, h2⟩ := ow i d h
    obtain ⟨v, h3, h4⟩ := er.own i d h2
    exact ⟨v, by rw [wipe_out h1] at h3; exact h3, h4⟩
  · obtain ⟨g1, g2⟩ := ow i d h1
    obtain ⟨g3, g4⟩ := ow j d' h2
    exact er.inj i j q d d' g2 g4 (by rw [wipe_out g1]; exact h3) (by rw [wipe_out g3]; exact h4)
  · obtain ⟨h1, h2⟩ := mv.keep a u h n
    refine ⟨h1, fun ⟨j, d, q1, q2⟩ => h2 ?_⟩
    obtain ⟨g1, g2⟩ := ow j d q1
    exact ⟨j, d, g2, by rw [wipe_out g1]; exact q2⟩
end
def TH (K : PySem.W.Frag) (mg : Str → Option Value) (T : Pn) (vs : List Nat) (w : D → M Unit) : TG := fun v σ H Q => ∃ e F d, ER K mg T e σ H F ∧ Rp K mg F d v ∧
  match w d e with
  | .ok _ e' => ∀ σ' H' F', ER K mg T e' σ' H' F' → Mv e σ H F e' σ' H' F' → wipe σ' vs = wipe σ vs → Q σ' H'
  | _ => False
def THs (K : PySem.W.Frag) (mg : Str → Option Value) (T : Pn) (vs : List Nat) (w : List D → M Unit) : TGs := fun us σ H Q => ∃ e F ds, ER K mg T e σ H F ∧ RpL K mg F ds us ∧
  match w ds e with
  | .ok _ e' => ∀ σ' H' F', ER K mg T e' σ' H' F' → Mv e σ H F e' σ' H' F' → wipe σ' vs = wipe σ vs → Q σ' H'
  | _ => False
abbrev JH (X : Cx) (T : Pn) (vs : List Nat) (tg : Expr) (w : D → M Unit) : Prop := PG X tg (TH X.K X.mg T vs w)
abbrev JHs (X : Cx) (T : Pn) (vs : List Nat) (tg : List Expr) (w : List D → M Unit) : Prop := PGs X tg (THs X.K X.mg T vs w)
def lcL (w : D → M Unit) (t : M Bool) (el : M D) (vs : List Nat) : List D → List D → M (List D)
  | [], acc => ret acc
  | d :: ds, acc => bnd (w d) fun _ => bnd t fun b => if b = true then bnd el fun y => (if acc.length < sizeLine then fun e => lcL w t el vs ds (acc ++ [y]) (wipE vs e) else fun _ => .bad) else fun e => lcL w t el vs ds acc (wipE vs e)
def mLc (vs : List Nat) (m : M (List D)) (w : D → M Unit) (t : M Bool) (el : M D) : M D := bnd m fun ds e1 => match lcL w t el vs ds [] (wipE vs e1) with
  | .ok acc e2 => .ok (.lst acc) (rst vs e1 e2)
  | _ => .bad
def mYes : M Bool := ret true
theorem bnd_inv {A B : Type} {m : M A} {f : A → M B} {e e2 : En} {b : B} (h : bnd m f e = .ok b e2) : ∃ a e1, m e = .ok a e1 ∧ f a e1 = .ok b e2 := by
  unfold bnd at h
  cases q : m e with
  | ok a e1 => rw [q] at h; exact ⟨a, e1, rfl, h⟩
  | exc x e1 => rw [q] at h; cases h
  | bad => rw [q] at h; cases h
theorem RunAt.of {K : PySem.W.Frag} {mg : Str → Option Value} {T : Pn} {W : WX} {A : Type} {m : M A} {e e1 : En} {σ : St} {H F : Hp} {x : A} {P : A → En → Hp → Hp → Prop} (q : m e = .ok x e1) (h : ∀ H' F', ER K mg T e1 σ H' F' → Mv e σ H F e1 σ H' F' → P x e1 H' F') : RunAt K mg T W e F m σ H P := by
  unfold RunAt
  rw [q]
  exact h
section
variable {X : Cx} {T : Pn} {W : WX} {pos : Pos}
theorem jh_name {i : Nat} {x : Str} {vs : List Nat} (hT : NoP T i) (hN : X.N.Nodup) (hi : X.N[i]? = some x) (hx : Loc X.env.scope x) (hm : i ∈ vs) (hf : X.fn x = true ∨ X.env.scope.names.lookup x = some .local := by first | exact .inl rfl | exact .inr rfl | assumption) : JH X T vs (.Name x pos) (gN i) := by
  refine ⟨fun pins s σ H v u Q I r h => (pg_name hN hi hx hf).run pins s σ H v u Q I r ?_⟩
  obtain ⟨e, F, d, er, rd, h⟩ := h
  obtain ⟨er2, mv2⟩ := er.setV hT rd
  exact h _ H F er2 mv2 (wipe_set hm)
theorem jhs_nil {vs : List Nat} : JHs X T vs [] gsN := by
  refine ⟨fun pins s σ H us u Q I r h => pgs_nil.run pins s σ H us u Q I r ?_⟩
  obtain ⟨e, F, ds, er, rd, h⟩ := h
  cases ds with
  | nil => rw [rl_nil] at rd; exact ⟨rd, h σ H F er Mv.refl rfl⟩
  | cons d ds => exact h.elim
theorem jhs_cons {e : Expr} {es : List Expr} {vs : List Nat} {w : D → M Unit} {ws : List D → M Unit} (h1 : JH X T vs e w) (h2 : JHs X T vs es ws)
    (hs : (assignEach (e :: es) X.env).map (·.2) = assign e X.env :: (assignEach es X.env).map (·.2) := by rfl) : JHs X T vs (e :: es) (gsC w ws) := by
  refine ⟨fun pins s σ H us u Q I r h => (pgs_cons h1 h2 hs).run pins s σ H us u Q I r ?_⟩
  obtain ⟨e, F, ds, er, rd, h⟩ := h
  cases ds with
  | nil => exact h.elim
  | cons d ds =>
    rw [rl_cons] at rd
    obtain ⟨v, us, rfl, rd, rl⟩ := rd
    refine ⟨v, us, rfl, e, F, d, er, rd, ?_⟩
    simp only [gsC, bnd] at h
    cases q : w d e with
    | ok u e1 =>
      rw [q] at h
      dsimp only at h ⊢
      intro σ1 H1 F1 er1 mv1 w1
      refine ⟨e1, F1, ds, er1, RpL.mono mv1.sub _ _ rl, ?_⟩
      cases q2 : ws ds e1 with
      | ok u e2 => rw [q2] at h; exact fun σ' H' F' er' mv' w2 => h σ' H' F' er' (mv1.trans mv') (w2.trans w1)
      | exc x e2 => rw [q2] at h; exact h
      | bad => rw [q2] at h; exact h
    | exc x e1 => rw [q] at h; exact h
    | bad => rw [q] at h; exact h
theorem jh_tup {es : List Expr} {k : Nat} {vs : List Nat} {ws : List D → M Unit} {n : Nat} (hc : X.calm = true) (h : JHs X T vs es ws)
    (hn : (assignEach es X.env).length = n := by rfl) (hst : (assignEach es X.env).findIdx? (·.1) = none := by rfl) : JH X T vs (.Tuple es k pos) (gT n ws) := by
  refine ⟨fun pins s σ H v u Q I r q => (pg_tup hc h hn hst).run pins s σ H v u Q I r ?_⟩
  obtain ⟨e, F, d, er, rd, q⟩ := q
  unfold gT at q
  split at q
  · rename_i u e' hh
    split at hh
    · rename_i ds
      rw [rp_tup] at rd
      obtain ⟨a, xs, rfl, rd, rl⟩ := rd
      split at hh
      · rename_i hl
        refine ⟨a, xs, rfl, seqT_mono er.sub rd, by rw [← rl.len]; exact hl, e, F, ds, er, rl, ?_⟩
        rw [hh]; exact q
      · cases hh
    · rename_i ds
      rw [rp_ct] at rd
      obtain ⟨a, xs, rfl, rd, rl⟩ := rd
      split at hh
      · rename_i hl
        refine ⟨a, xs, rfl, seqC_mono er.sub rd, by rw [← rl.len]; exact hl, e, F, ds, er, rl, ?_⟩
        rw [hh]; exact q
      · cases hh
    · cases hh
  · exact q.elim
abbrev JTs (X : Cx) (T : Pn) (W : WX) (ifs : List Expr) (m : M Bool) : Prop := PTs X ifs (TT' X.K X.mg T W m)
theorem jts_nil : JTs X T W [] mYes := ⟨fun pins s σ H Q I ⟨e, F, er, h⟩ => pts_nil.run pins s σ H Q I (h H F er Mv.refl)⟩
theorem jts_one {c : Expr} {t : M Bool} (h : JT X T W c t) : JTs X T W [c] t := pts_one h
theorem lcL_len {w : D → M Unit} {t : M Bool} {el : M D} {vs : List Nat} (hl : ∀ d e a e', w d e = .ok a e' → e'.length = e.length) (ht : ∀ e b e', t e = .ok b e' → e'.length = e.length) (he : ∀ e y e', el e = .ok y e' → e'.length = e.length) : ∀ (ds acc : List D) (e : En) (r : List D) (e' : En), lcL w t el vs ds acc e = .ok r e' → e'.length = e.length
  | [], acc, e, r, e', h => by cases h; rfl
  | d :: ds, acc, e, r, e', h => by
    unfold lcL at h
    obtain ⟨_, e1, h1, h⟩ := bnd_inv h
    obtain ⟨b, e2, h2, h⟩ := bnd_inv h
    split at h
    · obtain ⟨y, e3, h3, h⟩ := bnd_inv h
      split at h
      · rw [lcL_len hl ht he ds _ _ r e' h, wipE_len, he _ _ _ h3, ht _ _ _ h2, hl _ _ _ _ h1]
      · cases h
    · rw [lcL_len hl ht he ds _ _ r e' h, wipE_len, ht _ _ _ h2, hl _ _ _ _ h1]
theorem lc_imp {vs : List Nat} {m : M (List D)} {w : D → M Unit} {t : M Bool} {el : M D} {σ : St} {H : Hp} {Q : VK} (hT : ∀ v ∈ vs, NoP T v) (h : TO X.K X.mg T W (mLc vs m w t el) σ H Q) : tLc (TIt X.K X.mg T W m) (TH X.K X.mg T vs w) (TT' X.K X.mg T W0 t) (TV X.K X.mg T W0 el) vs σ H Q := by
  obtain ⟨e, F, er, h⟩ := h
  refine ⟨e, F, er, h.bind.mono fun ds e1 H1 F1 er1 mv1 h1 J wk D hD => ?_⟩
  obtain ⟨G, Y, wlk, hG, hY⟩ := wk
  unfold RunAt at h1
  cases q : lcL w t el vs ds [] (wipE vs e1) with
  | exc x e2 => simp only [q] at h1
  | bad => simp only [q] at h1
  | ok acc eF =>
    simp only [q] at h1
    obtain ⟨erw, mvw⟩ := er1.wip (vs := vs) hT
    have fD : F1 D = none := er1.sub.free hD
    have nD : ¬ Ow (wipE vs e1) (wipe σ vs) D := Ow.ne_of_free erw hD
    refine lc_it wlk (fun i H' => ∃ e2 F2 ac xs, ER X.K X.mg T e2 (wipe σ vs) H' F2 ∧ Mv e1 σ H1 F1 e2 (wipe σ vs) H' F2 ∧ F2 D = none ∧ ¬ Ow e2 (wipe σ vs) D ∧ H' D = some (.lst xs) ∧ RpL X.K X.mg F2 ac xs ∧ lcL w t el vs (ds.drop i) ac e2 = .ok acc eF)
      ⟨wipE vs e1, F1, [], [], erw.updFree fD nD, mvw.updNew hD, fD, nD, upd_same, by rw [rl_nil], q⟩ (fun i H' _ ⟨e2, F2, ac, xs, er2, mv2, _⟩ => hG H' (mv2.sub.trans er2.sub)) ?_ ?_
    · rintro i x H2 H3 hi ⟨e2, F2, ac, xs, er2, mv2, fD2, nD2, hD2, rl2, q2⟩ y
      obtain ⟨F3, d, al, hd, rd⟩ := hY i H2 F2 x H3 hi mv2.sub er2.sub y
      have er3 := er2.al al
      have mv3 := mv2.trans (Mv.al er2 al)
      have keepD : ∀ {e4 : En} {σ4 : St} {H4 F4 : Hp}, Mv e2 (wipe σ vs) H2 F2 e4 σ4 H4 F4 → H4 D = some (.lst xs) ∧ ¬ Ow e4 σ4 D ∧ F4 D = none := fun {e4 σ4 H4 F4} mv => by
        obtain ⟨k1, k2⟩ := mv.keep D _ hD2 nD2
        refine ⟨k1, k2, ?_⟩
        cases z : F4 D with
        | none => rfl
        | some u =>
          rcases mv.new D u z with z | z | z
          · rw [fD2] at z; cases z
          · rw [hD2] at z; cases z
          · exact (nD2 z).elim
      have hdr : ds.drop i = d :: ds.drop (i + 1) := by
        rw [List.drop_eq_getElem_cons hi]
        have : ds[i] = d := by rw [List.getElem?_eq_getElem hi] at hd; exact Option.some.inj hd
        rw [this]
      rw [hdr] at q2
      unfold lcL at q2
      obtain ⟨_, e4, w4, q2⟩ := bnd_inv q2
      obtain ⟨b, e5, t5, q2⟩ := bnd_inv q2
      refine ⟨e2, F3, d, er3, rd, ?_⟩
      rw [w4]
      intro σ4 H4 F4 er4 mv4 ws
      refine ⟨ws.trans (by refine List.ext_getElem? fun j => ?_; rw [wipe_get, wipe_get, wipe_length]; by_cases hj : j ∈ vs ∧ j < σ.length <;> simp only [hj, if_true, if_false, and_self]), e4, F4, er4, RunAt.of t5 fun H5 F5 er5 mv5 => ?_⟩
      cases b with
      | false =>
        rw [if_neg (by decide)] at q2 ⊢
        have mm := ((Mv.al er2 al).trans mv4).trans mv5
        obtain ⟨k1, k2, k3⟩ := keepD mm
        obtain ⟨er6, mv6⟩ := er5.wip (vs := vs) hT
        have wz : wipe σ4 vs = wipe σ vs := ws.trans (by refine List.ext_getElem? fun j => ?_; rw [wipe_get, wipe_get, wipe_length]; by_cases hj : j ∈ vs ∧ j < σ.length <;> simp only [hj, if_true, if_false, and_self])
        rw [wz] at er6 mv6
        have mm2 := mm.trans mv6
        obtain ⟨_, k2', _⟩ := keepD mm2
        exact ⟨_, F5, ac, xs, er6, mv2.trans mm2, k3, k2', k1, RpL.mono mm.sub _ _ rl2, q2⟩
      | true =>
        rw [if_pos rfl] at q2 ⊢
        obtain ⟨y', e6, el6, q2⟩ := bnd_inv q2
        refine ⟨e5, F5, er5, RunAt.of el6 fun H6 F6 er6 mv6 v hv => ?_⟩
        have mm := (((Mv.al er2 al).trans mv4).trans mv5).trans mv6
        obtain ⟨k1, k2, k3⟩ := keepD mm
        split at q2
        · rename_i hz
          obtain ⟨er7, mv7⟩ := er6.wip (vs := vs) hT
          have wz : wipe σ4 vs = wipe σ vs := ws.trans (by refine List.ext_getElem? fun j => ?_; rw [wipe_get, wipe_get, wipe_length]; by_cases hj : j ∈ vs ∧ j < σ.length <;> simp only [hj, if_true, if_false, and_self])
          rw [wz] at er7 mv7
          have mm2 := mm.trans mv7
          obtain ⟨_, k2', _⟩ := keepD mm2
          have rl6 := RpL.mono mm.sub _ _ rl2
          refine ⟨xs, k1, by rw [← rl2.len]; exact hz, _, F6, ac ++ [y'], xs ++ [v], er7.updFree k3 k2', (mv2.trans mm2).updNew hD, k3, k2', upd_same, rl6.append (by rw [rl_cons]; exact ⟨v, [], rfl, hv, by rw [rl_nil]⟩), q2⟩
        · cases q2
    · rintro H2 ⟨e2, F2, ac, xs, er2, mv2, fD2, nD2, hD2, rl2, q2⟩
      rw [List.drop_length] at q2
      have hl : e2.length = e1.length := by rw [er2.len, wipe_length, er1.len]
      cases q2
      obtain ⟨er3, mv3⟩ := er2.rst er1 mv2 hl
      refine h1 H2 F2 er3 mv3 D (mv1.there D hD) fD2 (fun z => nD2 (by
        obtain ⟨j, d, q1, q2⟩ := z
        rcases rst_get q1 (fun z => nomatch z) with ⟨g1, g2⟩ | ⟨⟨d', g1⟩, _⟩
        · exact ⟨j, d, g2, by rw [wipe_out g1]; exact q2⟩
        · cases g1)) ⟨xs, hD2, rl2⟩
theorem to_tv {K : PySem.W.Frag} {mg : Str → Option Value} {m : M D} {σ : St} {H : Hp} {Q : VK} (h : TV K mg T W m σ H Q) : TO K mg T W m σ H Q := by
  obtain ⟨e, F, er, q⟩ := h
  refine ⟨e, F, er, ?_⟩
  unfold RunAt at q ⊢
  cases z : m e with
  | ok d e1 =>
    rw [z] at q
    intro H' F' er' mv' p hp fp np ow
    obtain ⟨o, ho⟩ := ow.there
    refine q H' (upd F' p o) (er'.freeze fp np ho) ⟨mv'.sub.trans (same_upd fp), mv'.keep, fun a u ha => ?_, mv'.there⟩ _ (ow.rp fp ho)
    by_cases hb : a = p
    · subst hb; exact .inr (.inl hp)
    · rw [upd_ne hb] at ha; exact mv'.new a u ha
  | exc x e1 => rw [z] at q; exact q
  | bad => rw [z] at q; exact q
theorem Pl.blk {k : Nat} {s : Shared} {H : Hp} {scope : Scope} {en : Env} {fp : List Addr} (h : Pl X k) : Pl (X.blk s H scope en fp) k := ⟨h.room, h.gu⟩
section
variable {elt tg iter : Expr} {ifs : List Expr} {scope : Scope} {m : M (List D)} {w : D → M Unit} {t : M Bool} {el : M D} {k : Nat}
theorem jo_lc (own : List (Str × Nat)) (hp : Pl X k) (hc : X.calm = true) (hN : X.N.Nodup) (hT : ∀ v ∈ own.map (·.2), NoP T v) (ok : BlkOk X.N X.env.scope scope own) (hi : JI X T W tg iter m)
    (hg : ∀ (s : Shared) (H : Hp) (C : Addr) (cl : List (Str × Addr)) (fp : List Addr), Pl (X.blk s H scope (compEnvC scope cl C X.env) fp) k → JH (X.blk s H scope (compEnvC scope cl C X.env) fp) T (own.map (·.2)) tg w)
    (ht : ∀ (s : Shared) (H : Hp) (C : Addr) (cl : List (Str × Addr)) (fp : List Addr), Pl (X.blk s H scope (compEnvC scope cl C X.env) fp) k → JTs (X.blk s H scope (compEnvC scope cl C X.env) fp) T W0 ifs t)
    (he : ∀ (s : Shared) (H : Hp) (C : Addr) (cl : List (Str × Addr)) (fp : List Addr), Pl (X.blk s H scope (compEnvC scope cl C X.env) fp) k → JV (X.blk s H scope (compEnvC scope cl C X.env) fp) T W0 elt el) (hs : ∀ x, foldedSetIterable iter X.env x = pure x := by intro _; rfl) :
    JO X T W (.ListComp elt [⟨tg, iter, ifs, 0⟩] scope pos) (mLc (own.map (·.2)) m w t el) :=
  PEimp (pe_lc (g := TH X.K X.mg T (List.map (fun q : Str × Nat => q.2) own) w) (tt := TT' X.K X.mg T W0 t) (te := TV X.K X.mg T W0 el) hc hN hi ok (fun s H C cl fp => hg s H C cl fp hp.blk) (fun s H C cl fp => ht s H C cl fp hp.blk) (fun s H C cl fp => he s H C cl fp hp.blk) hs) fun σ H Q h => lc_imp hT h
theorem js_setLcO {i : Nat} {y : Str} {py spos : Pos} (own : List (Str × Nat)) (hp : Pl X k) (hc : X.calm = true) (hN : X.N.Nodup) (hT : ∀ v ∈ own.map (·.2), NoP T v) (ok : BlkOk X.N X.env.scope scope own) (hTi : NoP T i) (hy : X.N[i]? = some y) (hyl : X.env.scope.names.lookup y = some .local)
    (hsw : swapsWith (.ListComp elt [⟨tg, iter, ifs, 0⟩] scope pos) (some (.Name y py)) spos.line X.env = pure true) (hi : JI X T W tg iter m)
    (hg : ∀ (s : Shared) (H : Hp) (C : Addr) (cl : List (Str × Addr)) (fp : List Addr), Pl (X.blk s H scope (compEnvC scope cl C X.env) fp) k → JH (X.blk s H scope (compEnvC scope cl C X.env) fp) T (own.map (·.2)) tg w)
    (ht : ∀ (s : Shared) (H : Hp) (C : Addr) (cl : List (Str × Addr)) (fp : List Addr), Pl (X.blk s H scope (compEnvC scope cl C X.env) fp) k → JTs (X.blk s H scope (compEnvC scope cl C X.env) fp) T W0 ifs t)
    (he : ∀ (s : Shared) (H : Hp) (C : Addr) (cl : List (Str × Addr)) (fp : List Addr), Pl (X.blk s H scope (compEnvC scope cl C X.env) fp) k → JV (X.blk s H scope (compEnvC scope cl C X.env) fp) T W0 elt el) (hs : ∀ x, foldedSetIterable iter X.env x = pure x := by intro _; rfl) :
    JS X T W (.Assign [.Name y py] (.ListComp elt [⟨tg, iter, ifs, 0⟩] scope pos) spos) (sSetO i (mLc (own.map (·.2)) m w t el)) :=
  PSimp (ps_setLc (g := TH X.K X.mg T (List.map (fun q : Str × Nat => q.2) own) w) (tt := TT' X.K X.mg T W0 t) (te := TV X.K X.mg T W0 el) hc hN hy hyl hsw hi ok (fun s H C cl fp => hg s H C cl fp hp.blk) (fun s H C cl fp => ht s H C cl fp hp.blk) (fun s H C cl fp => he s H C cl fp hp.blk) hs) fun Dn σ H h => lc_imp hT (run_setO hTi h)
theorem js_setLc {i : Nat} {y : Str} {py spos : Pos} (own : List (Str × Nat)) (hp : Pl X k) (hc : X.calm = true) (hN : X.N.Nodup) (hT : ∀ v ∈ own.map (·.2), NoP T v) (ok : BlkOk X.N X.env.scope scope own) (hTi : NoP T i) (hy : X.N[i]? = some y) (hyl : X.env.scope.names.lookup y = some .local)
    (hsw : swapsWith (.ListComp elt [⟨tg, iter, ifs, 0⟩] scope pos) (some (.Name y py)) spos.line X.env = pure true) (hi : JI X T W tg iter m)
    (hg : ∀ (s : Shared) (H : Hp) (C : Addr) (cl : List (Str × Addr)) (fp : List Addr), Pl (X.blk s H scope (compEnvC scope cl C X.env) fp) k → JH (X.blk s H scope (compEnvC scope cl C X.env) fp) T (own.map (·.2)) tg w)
    (ht : ∀ (s : Shared) (H : Hp) (C : Addr) (cl : List (Str × Addr)) (fp : List Addr), Pl (X.blk s H scope (compEnvC scope cl C X.env) fp) k → JTs (X.blk s H scope (compEnvC scope cl C X.env) fp) T W0 ifs t)
    (he : ∀ (s : Shared) (H : Hp) (C : Addr) (cl : List (Str × Addr)) (fp : List Addr), Pl (X.blk s H scope (compEnvC scope cl C X.env) fp) k → JV (X.blk s H scope (compEnvC scope cl C X.env) fp) T W0 elt el) (hs : ∀ x, foldedSetIterable iter X.env x = pure x := by intro _; rfl) :
    JS X T W (.Assign [.Name y py] (.ListComp elt [⟨tg, iter, ifs, 0⟩] scope pos) spos) (sSet i (mLc (own.map (·.2)) m w t el)) :=
  PSimp (ps_setLc (g := TH X.K X.mg T (List.map (fun q : Str × Nat => q.2) own) w) (tt := TT' X.K X.mg T W0 t) (te := TV X.K X.mg T W0 el) hc hN hy hyl hsw hi ok (fun s H C cl fp => hg s H C cl fp hp.blk) (fun s H C cl fp => ht s H C cl fp hp.blk) (fun s H C cl fp => he s H C cl fp hp.blk) hs) fun Dn σ H h => lc_imp hT (to_tv (run_set hTi h))
end
end
end Sr
namespace Sr
open PySem hiding start
open PySem.Spec L2
open PyProof.Rows hiding St
structure Rai (K : PySem.W.Frag) (mg : Str → Option Value) (x : Str) : Prop where
  g : mg x = some (.ref (He.ga K x))
  q : PySem.W.excIn K (He.ga K x) He.veBase "ValueError.__new__" = true
  k : PySem.W.keepIn K (.ref (He.ga K x)) = true
  s : PySem.W.subIn K (.ref (He.ga K x)) (.type "BaseException") = some true
  t : PySem.W.typeIn K (.ref (He.ga K x)) = some (.type "type")
theorem rai_of {K : PySem.W.Frag} {mg : Str → Option Value} {x : Str} (g : mg x = some (.ref (He.ga K x))) (c : (He.Fa.exc x).ok K = true) : Rai K mg x := by
  obtain ⟨h1, h2, h3, h4⟩ := He.exc_ok c
  exact ⟨g, h1, h2, h3, h4⟩
def sRaise (x : Str) : M Fl := fun e => .exc ⟨x, []⟩ e
section
variable {X : Cx} {T : Pn} {W : WX} {pos : Pos}
theorem js_raise {x m : Str} {j : Nat} {p p2 pos' : Pos} (hc : X.calm = true) (tk : Takes X W) (R : Rai X.K X.mg x) (hg : Gl X x) (hdb : (x == ("__debug__" : Str)) = false := by decide) :
    JS X T W (.Raise (some (.Call (.Name x p) [.Constant (.str m) j p2] [] pos')) none pos) (sRaise x) :=
  PSimp (ps_raise hc tk (pmk_own PySem.F.excBase_ValueError R.q R.g R.k (raises_own R.s R.t) hg hdb)) fun Dn σ H ⟨e, F, er, h⟩ => h σ H F _ none er Mv.refl ⟨R.g, .inl ⟨rfl, rfl⟩⟩
end
section
variable {K : PySem.W.Frag} {mg : Str → Option Value} {T : Pn} {e : En} {σ : St} {H F : Hp} {i : Nat}
theorem set_no {j : Nat} {x : Sl} (h : (e.set i .no)[j]? = some x) (n : x ≠ .no) : j ≠ i ∧ e[j]? = some x := by
  by_cases hj : i = j
  · subst hj
    by_cases hl : i < e.length
    · rw [List.getElem?_set_self hl] at h; cases h; exact (n rfl).elim
    · rw [List.getElem?_eq_none (by rw [List.length_set]; omega)] at h; cases h
  · rw [List.getElem?_set_ne hj] at h; exact ⟨fun z => hj z.symm, h⟩
theorem ER.setN (er : ER K mg T e σ H F) (hT : NoP T i) (x : Option V) : ER K mg T (e.set i .no) (σ.set i x) H F ∧ Mv e σ H F (e.set i .no) (σ.set i x) H F := by
  have ne : ∀ {j : Nat}, j ≠ i → (σ.set i x)[j]? = σ[j]? := fun h => List.getElem?_set_ne (Ne.symm h)
  refine ⟨⟨er.sub, fun j d h => ?_, fun j d h => ?_, fun j k q d d' h1 h2 h3 h4 => ?_, by rw [List.length_set, List.length_set]; exact er.len, fun q hq => ?_⟩, Same.refl _, fun a u h n => ⟨h, fun z => n ?_⟩, fun a u h => .inl h, fun a h => h⟩
  · obtain ⟨h1, h2⟩ := set_no h (fun z => nomatch z)
    rw [ne h1]; exact er.val j d h2
  · obtain ⟨h1, h2⟩ := set_no h (fun z => nomatch z)
    rw [ne h1]; exact er.own j d h2
  · obtain ⟨g1, g2⟩ := set_no h1 (fun z => nomatch z)
    obtain ⟨g3, g4⟩ := set_no h2 (fun z => nomatch z)
    rw [ne g1] at h3; rw [ne g3] at h4
    exact er.inj j k q d d' g2 g4 h3 h4
  · rw [ne (hT q hq)]; exact er.pin q hq
  · obtain ⟨j, d, q1, q2⟩ := z
    obtain ⟨g1, g2⟩ := set_no q1 (fun z => nomatch z)
    rw [ne g1] at q2
    exact ⟨j, d, g2, q2⟩
theorem ER.pinned {a : Addr} (er : ER K mg T e σ H F) (h : σ[i]? = some (some (.ref a))) : ER K mg ((i, a) :: T) e σ H F := ⟨er.sub, er.val, er.own, er.inj, er.len, fun q hq => by
  rcases List.mem_cons.mp hq with rfl | hq
  · exact h
  · exact er.pin q hq⟩
theorem ER.unpin {q : Nat × Addr} (er : ER K mg (q :: T) e σ H F) : ER K mg T e σ H F := ⟨er.sub, er.val, er.own, er.inj, er.len, fun z hz => er.pin z (List.mem_cons_of_mem _ hz)⟩
end
def sTry (i : Nat) (ct : Str → Option Bool) (b : M Fl) (su : Ex → M Fl) : M Fl := fun e => match b e with
  | .exc x e1 => match ct x.c with
    | some true => if i < e1.length then (match su x (e1.set i .no) with
      | .ok f e2 => .ok f (e2.set i .no)
      | _ => .bad) else .bad
    | some false => .exc x e1
    | none => .bad
  | o => o
def sTryO (ct : Str → Option Bool) (b : M Fl) (su : Ex → M Fl) : M Fl := fun e => match b e with
  | .exc x e1 => match ct x.c with
    | some true => (match su x e1 with
      | .ok f e2 => .ok f e2
      | _ => .bad)
    | some false => .exc x e1
    | none => .bad
  | o => o
section
variable {X : Cx} {T : Pn} {W : WX} {pos : Pos} {k : Nat}
theorem Pl.tr {pn : List (Addr × Obj)} {xe : Value → Shared → Prop} (h : Pl X k) : Pl (X.tr pn xe) k := ⟨h.room, h.gu⟩
def Cat (K : PySem.W.Frag) (mg : Str → Option Value) (c : Value) (ct : Str → Option Bool) : Prop := ∀ y b, ct y = some b → ∀ cl, mg y = some cl → PySem.W.exmOne K cl c = some b
theorem js_try {x n : Str} {c : Value} {i : Nat} {body suite : List Stmt} {b₀ : Stmt} {np pos' : Pos} {ct : Str → Option Bool} {m : M Fl} {su : Ex → M Fl} (hp : Pl X k)
    (hs : X.stack = X.env :: X.outer) (hf : X.env.frame = some X.env.locals) (hN : X.N.Nodup) (hi : X.N[i]? = some n) (hln : X.env.kindOf n = some .local) (hc : Names X x c) (tk : Takes X W) (hT : NoP T i) (hct : Cat X.K X.mg c ct)
    (hb : ∀ (W' : WX) (pn : List (Addr × Obj)) (xe : Value → Shared → Prop), Pl (X.tr pn xe) k → Takes (X.tr pn xe) W' → PassesOwn (model X.prog X.w) X.A X.env xe → JSs (X.tr pn xe) T W' body m)
    (hsu : ∀ (a : Addr) (oe : Obj) (cls : Value) (d : Option Addr) (pn : List (Addr × Obj)) (ex : Ex), Zc cls d oe → (∃ vs, oe.data = .fields vs) → X.mg ex.c = some cls → (ex.fs = [] → d = none) → JSs (X.suite a ((a, oe) :: pn)) ((i, a) :: T) W0 (b₀ :: suite) (su ex)) :
    JS X T W (.Try body [.ExceptHandler (some (.Name x np)) (some n) (b₀ :: suite) pos'] [] [] pos) (sTry i ct m su) := by
  refine PSimp (ps_try_as (tb := fun W' => TSt X.K X.mg T W' m) (ts := fun a cls d Dn σ H => ∃ ex : Ex, X.mg ex.c = some cls ∧ (ex.fs = [] → d = none) ∧ TSt X.K X.mg ((i, a) :: T) W0 (su ex) Dn σ H) hs hf hN hi hln hc tk (fun W' pn xe h1 h2 => hb W' pn xe hp.tr h1 h2)
    (fun a oe cls d pn h1 h2 => ⟨fun pins s σ H Dn I ⟨ex, g1, g2, h⟩ => (hsu a oe cls d pn ex h1 h2 g1 g2).run pins s σ H Dn I h⟩)) fun Dn σ H ⟨e, F, er, h⟩ => ⟨e, F, er, ?_⟩
  unfold RunS sTry at h
  unfold RunS
  cases q : m e with
  | ok fl e1 => rw [q] at h; cases fl <;> exact h
  | bad => rw [q] at h; exact h
  | exc ex e1 =>
    rw [q] at h
    intro σ1 H1 F1 cl dd er1 mv1 xr
    dsimp only at h ⊢
    cases qc : ct ex.c with
    | none => simp only [qc] at h
    | some b =>
      refine ⟨b, hct _ _ qc _ xr.1, fun hb => ?_, fun hb => ?_⟩
      · subst hb
        simp only [qc] at h
        intro a ha
        by_cases hl : i < e1.length
        · rw [if_pos hl] at h
          obtain ⟨er2, mv2⟩ := er1.setN hT (some (.ref a))
          have er3 := er2.pinned (i := i) (a := a) (List.getElem?_set_self (by rw [← er1.len]; exact hl))
          refine ⟨ex, xr.1, fun z => ?_, e1.set i .no, F1, er3, ?_⟩
          · rcases xr.2 with ⟨_, h2⟩ | ⟨h2, _⟩
            · exact h2
            · exact (h2 z).elim
          · unfold RunS
            cases qs : su ex (e1.set i .no) with
            | bad => simp only [qs] at h
            | exc y e2 => simp only [qs] at h
            | ok f e2 =>
              simp only [qs] at h
              cases f with
              | nx =>
                intro σ2 H2 F2 er4 mv4
                obtain ⟨er5, mv5⟩ := er4.unpin.setN hT none
                exact h _ H2 F2 er5 (((mv1.trans mv2).trans mv4).trans mv5)
              | bk =>
                intro σ2 H2 F2 er4 mv4
                obtain ⟨er5, mv5⟩ := er4.unpin.setN hT none
                exact h _ H2 F2 er5 (((mv1.trans mv2).trans mv4).trans mv5)
              | ct =>
                intro σ2 H2 F2 er4 mv4
                obtain ⟨er5, mv5⟩ := er4.unpin.setN hT none
                exact h _ H2 F2 er5 (((mv1.trans mv2).trans mv4).trans mv5)
              | rt d =>
                intro σ2 H2 F2 v er4 mv4 rv
                obtain ⟨er5, mv5⟩ := er4.unpin.setN hT none
                exact h _ H2 F2 v er5 (((mv1.trans mv2).trans mv4).trans mv5) rv
              | ro d =>
                intro σ2 H2 F2 p er4 mv4 hp fp np ow
                obtain ⟨er5, mv5⟩ := er4.unpin.setN hT none
                refine h _ H2 F2 p er5 (((mv1.trans mv2).trans mv4).trans mv5) ((mv1.trans mv2).newO hp) fp (fun z => np ?_) ow
                obtain ⟨j, d', q1, q2⟩ := z
                obtain ⟨g1, g2⟩ := set_no q1 (fun z => nomatch z)
                rw [List.getElem?_set_ne (Ne.symm g1)] at q2
                exact ⟨j, d', g2, q2⟩
        · rw [if_neg hl] at h; exact h.elim
      · subst hb
        simp only [qc] at h
        exact h σ1 H1 F1 cl dd er1 mv1 xr
theorem js_tryO {x : Str} {c : Value} {body suite : List Stmt} {b₀ : Stmt} {np pos' : Pos} {ct : Str → Option Bool} {m : M Fl} {su : Ex → M Fl} (hp : Pl X k)
    (hs : X.stack = X.env :: X.outer) (hf : X.env.frame = some X.env.locals) (hc : Names X x c) (tk : Takes X W) (hct : Cat X.K X.mg c ct)
    (hb : ∀ (W' : WX) (pn : List (Addr × Obj)) (xe : Value → Shared → Prop), Pl (X.tr pn xe) k → Takes (X.tr pn xe) W' → PassesOwn (model X.prog X.w) X.A X.env xe → JSs (X.tr pn xe) T W' body m)
    (hsu : ∀ (a : Addr) (oe : Obj) (cls : Value) (d : Option Addr) (pn : List (Addr × Obj)) (ex : Ex), Zc cls d oe → (∃ vs, oe.data = .fields vs) → JSs (X.suite a ((a, oe) :: pn)) T W0 (b₀ :: suite) (su ex)) :
    JS X T W (.Try body [.ExceptHandler (some (.Name x np)) none (b₀ :: suite) pos'] [] [] pos) (sTryO ct m su) := by
  refine PSimp (ps_try_only (tb := fun W' => TSt X.K X.mg T W' m) (ts := fun a cls d Dn σ H => ∃ ex : Ex, TSt X.K X.mg T W0 (su ex) Dn σ H) hs hf hc tk (fun W' pn xe h1 h2 => hb W' pn xe hp.tr h1 h2)
    (fun a oe cls d pn h1 h2 => ⟨fun pins s σ H Dn I ⟨ex, h⟩ => (hsu a oe cls d pn ex h1 h2).run pins s σ H Dn I h⟩)) fun Dn σ H ⟨e, F, er, h⟩ => ⟨e, F, er, ?_⟩
  unfold RunS sTryO at h
  unfold RunS
  cases q : m e with
  | ok fl e1 => rw [q] at h; cases fl <;> exact h
  | bad => rw [q] at h; exact h
  | exc ex e1 =>
    rw [q] at h
    intro σ1 H1 F1 cl dd er1 mv1 xr
    dsimp only at h ⊢
    cases qc : ct ex.c with
    | none => simp only [qc] at h
    | some b =>
      refine ⟨b, hct _ _ qc _ xr.1, fun hb => ?_, fun hb => ?_⟩
      · subst hb
        simp only [qc] at h
        intro a ha
        refine ⟨ex, e1, F1, er1, ?_⟩
        unfold RunS
        cases qs : su ex e1 with
        | bad => simp only [qs] at h
        | exc y e2 => simp only [qs] at h
        | ok f e2 =>
          simp only [qs] at h
          cases f with
          | nx => exact fun σ2 H2 F2 er4 mv4 => h _ H2 F2 er4 (mv1.trans mv4)
          | bk => exact fun σ2 H2 F2 er4 mv4 => h _ H2 F2 er4 (mv1.trans mv4)
          | ct => exact fun σ2 H2 F2 er4 mv4 => h _ H2 F2 er4 (mv1.trans mv4)
          | rt d => exact fun σ2 H2 F2 v er4 mv4 rv => h _ H2 F2 v er4 (mv1.trans mv4) rv
          | ro d => exact fun σ2 H2 F2 p er4 mv4 hp fp np ow => h _ H2 F2 p er4 (mv1.trans mv4) (mv1.newO hp) fp np ow
      · subst hb
        simp only [qc] at h
        exact h σ1 H1 F1 cl dd er1 mv1 xr
def IsE (K : PySem.W.Frag) (mg : Str → Option Value) (cv : Value) (tbl : List (Str × Bool)) : Prop := ∀ c b, tbl.lookup c = some b → ∃ C, mg c = some (.ref C) ∧ ExcC K C ∧ PySem.W.kitOne K (.ref C) cv = some b
def mIsE (tbl : List (Str × Bool)) (ex : Ex) : M D := opt (if ex.fs.isEmpty = true then (tbl.lookup ex.c).map .bl else none)
theorem jv_isE {a : Addr} {oe : Obj} {cls : Value} {d : Option Addr} {pn : List (Addr × Obj)} {ex : Ex} {i : Nat} {n y : Str} {p p1 p2 : Pos} {cv : Value} {c : V} {tbl : List (Str × Bool)} {ty : TE} (hi : IsE X.K X.mg cv tbl) (hz : Zc cls d oe) (hfs : ∃ vs, oe.data = .fields vs) (hm : X.mg ex.c = some cls) (hd0 : ex.fs = [] → d = none)
    (hcv : ∀ u, RelV c u → u = cv) (hy : PE (X.suite a ((a, oe) :: pn)) (.Name y p2) ty) (hty : ∀ σ H Q, Q c H → ty σ H Q)
    (hg : Gl X "isinstance") (hmi : X.mg "isinstance" = none) (hN : X.N[i]? = some n) (hv : Vis X.env.scope n) (hdn : (n == ("__debug__" : Str)) = false := by decide) (hcd : (n == ("__classdict__" : Str)) = false := by decide)
    (he : starEach [.Name n p1, .Name y p2] X.env = (false, eval (.Name n p1) X.env) :: starEach [.Name y p2] X.env := by rfl) (he2 : starEach [.Name y p2] X.env = (false, eval (.Name y p2) X.env) :: starEach [] X.env := by rfl) :
    JV (X.suite a ((a, oe) :: pn)) ((i, a) :: T) W (.Call (.Name "isinstance" p) [.Name n p1, .Name y p2] [] pos) (mIsE tbl ex) := by
  by_cases hfe : ex.fs.isEmpty = true
  · cases q : tbl.lookup ex.c with
    | none => exact ⟨fun pins s σ H Q I ⟨e, F, er, h⟩ => by unfold RunAt mIsE opt at h; rw [if_pos hfe, q] at h; exact h.elim⟩
    | some b =>
      obtain ⟨C, h1, h2, h3⟩ := hi _ _ q
      rw [hm] at h1; cases h1
      obtain rfl := hd0 (List.isEmpty_iff.mp hfe)
      refine PEimp (pe_callB (X := X.suite a ((a, oe) :: pn)) (call_isE (X := X) h2 hz hfs) hg hmi (by decide +kernel) (pa_cons (pe_var (X := X.suite a ((a, oe) :: pn)) hN hv hdn hcd) (pa_cons hy pa_nil he2) he) (by decide) (by decide) he (by rfl)) fun σ H Q ⟨e, F, er, h⟩ => ?_
      unfold mIsE at h
      rw [if_pos hfe, q] at h
      obtain ⟨z, hz', fin⟩ := h.fin er
      cases hz'
      refine ⟨_, er.pin (i, a) List.mem_cons_self, hty σ H _ ⟨c, cv, b, rfl, hcv, h3, ?_⟩⟩
      exact fin H F Al.refl _ (by rw [rp_bl])
  · exact ⟨fun pins s σ H Q I ⟨e, F, er, h⟩ => by unfold RunAt mIsE opt at h; rw [if_neg hfe] at h; exact h.elim⟩
end
def excB (K : PySem.W.Frag) (x : Str) : Bool :=
  decide (PySem.W.findIn K (.ref (He.ga K x)) "__getattribute__" = some (some (.builtin "BaseException.__getattribute__"))) && (decide (PySem.W.findIn K (.ref (He.ga K x)) "__getattr__" = some none) &&
    (decide (PySem.W.subIn K (.ref (He.ga K x)) (.type "BaseException") = some true) && (PySem.W.hasDictIn K (He.ga K x) && cliB K x)))
theorem excB_ok {K : PySem.W.Frag} {x : Str} (h : excB K x = true) : ExcC K (He.ga K x) := by
  unfold excB cliB at h
  simp only [Bool.and_eq_true, decide_eq_true_eq] at h
  exact ⟨h.1, h.2.1, h.2.2.1, h.2.2.2.1, h.2.2.2.2.1, h.2.2.2.2.2.1, h.2.2.2.2.2.2.1, h.2.2.2.2.2.2.2⟩
def catB (K : PySem.W.Frag) (u : Value) (l : List (Str × Bool)) : Bool := l.all fun q => decide (PySem.W.exmOne K (.ref (He.ga K q.1)) u = some q.2)
theorem cat_of {K : PySem.W.Frag} {mg : Str → Option Value} {u : Value} {l : List (Str × Bool)} (h : catB K u l = true) (hg : ∀ q ∈ l, mg q.1 = some (.ref (He.ga K q.1))) : Cat K mg u fun y => l.lookup y := by
  intro y b e cl hm
  have hq : (y, b) ∈ l := PySem.mem_of_lookup e
  rw [hg _ hq] at hm
  cases hm
  exact of_decide_eq_true (List.all_eq_true.mp h (y, b) hq)
def exsB (K : PySem.W.Frag) (u : Value) (l : List (Str × Bool)) : Bool := l.all fun q => excB K q.1 && decide (PySem.W.kitOne K (.ref (He.ga K q.1)) u = some q.2)
theorem isE_of {K : PySem.W.Frag} {mg : Str → Option Value} {u : Value} {l : List (Str × Bool)} (h : exsB K u l = true) (hg : ∀ q ∈ l, mg q.1 = some (.ref (He.ga K q.1))) : IsE K mg u l := by
  intro c b e
  have hq : (c, b) ∈ l := PySem.mem_of_lookup e
  have z := List.all_eq_true.mp h (c, b) hq
  rw [Bool.and_eq_true] at z
  exact ⟨_, hg _ hq, excB_ok z.1, of_decide_eq_true z.2⟩
end Sr
namespace Sr
open PySem hiding start
open PySem.Spec L2
open PyProof.Rows hiding St
section
variable {K : PySem.W.Frag} {mg : Str → Option Value} {F : Hp}
def cutD (ds : List D) (lo hi : Option Int) : List D := (ds.drop (HT.sIx ds.length 0 lo)).take (HT.sIx ds.length ds.length hi - HT.sIx ds.length 0 lo)
theorem RpL.cut {ds : List D} {xs : List V} (h : RpL K mg F ds xs) (lo hi : Option Int) : RpL K mg F (cutD ds lo hi) (cutV xs lo hi) := by
  unfold cutD cutV
  rw [h.len]
  exact (h.drop _).take _
end
def gSl : D → Option Int → Option Int → Option D
  | .lst ds, lo, hi => some (.lst (cutD ds lo hi))
  | .tup ds, lo, hi => some (.tup (cutD ds lo hi))
  | .str z, lo, hi => if z.length ≤ sizeLine then some (.str (cutS z lo hi)) else none
  | _, _, _ => none
def mSl (m : M D) (ml mh : M (Option Int)) : M D := bnd m fun d => bnd ml fun l => bnd mh fun h => opt (gSl d l h)
def mNoP : M (Option Int) := ret none
def asI : D → Option (Option Int)
  | .int i => some (some i)
  | _ => none
def mPart (m : M D) : M (Option Int) := bnd m fun d => opt (asI d)
def TPt (K : PySem.W.Frag) (mg : Str → Option Value) (T : Pn) (W : WX) (m : M (Option Int)) : L2.TO := fun σ H Q => ∃ e F, ER K mg T e σ H F ∧ RunAt K mg T W e F m σ H fun o _ H' F' => Q o H'
abbrev JP (X : Cx) (T : Pn) (W : WX) (e : Option Expr) (m : M (Option Int)) : Prop := PO X e (TPt X.K X.mg T W m)
theorem POimp {X : Cx} {e : Option Expr} {t t' : L2.TO} (h : PO X e t) (k : ∀ σ H Q, t' σ H Q → t σ H Q) : PO X e t' := ⟨fun pins s σ H Q I q => h.run pins s σ H Q I (k σ H Q q)⟩
section
variable {X : Cx} {T : Pn} {W : WX} {pos p2 : Pos} {a : Expr} {ma : M D} {lo hi : Option Expr} {ml mh : M (Option Int)}
theorem jp_none : JP X T W none mNoP := POimp po_none fun σ H Q ⟨e, F, er, h⟩ => h.rfin er H F Al.refl
theorem jp_some (ha : JV X T W a ma) : JP X T W (some a) (mPart ma) := by
  refine POimp (po_some ha) fun σ H Q ⟨e, F, er, h⟩ => ⟨e, F, er, h.bind.mono fun d e1 H1 F1 er1 mv1 h1 v hv => ?_⟩
  obtain ⟨z, hz, fin⟩ := h1.fin er1
  unfold asI at hz
  split at hz
  · cases hz
    rw [rp_int] at hv
    exact ⟨_, hv, fin H1 F1 Al.refl⟩
  · cases hz
theorem jv_slice (ha : JV X T W a ma) (hl : JP X T W lo ml) (hh : JP X T W hi mh) : JV X T W (.Subscript a (.Slice lo hi none p2) pos) (mSl ma ml mh) := by
  refine PEimp (pe_slice (sl_list.or (sl_tupA.or sl_str)) ha hl hh) fun σ H Q ⟨e, F, er, h⟩ => ⟨e, F, er, h.bind.mono fun d e1 H1 F1 er1 mv1 h1 v hv => ⟨e1, F1, er1, h1.bind.mono fun l e2 H2 F2 er2 mv2 h2 => ⟨e2, F2, er2, h2.bind.mono fun u e3 H3 F3 er3 mv3 h3 => ?_⟩⟩⟩
  obtain ⟨z, hz, fin⟩ := h3.fin er3
  have hv := Rp.mono (mv2.sub.trans mv3.sub) _ _ hv
  cases d with
  | lst ds =>
    cases hz
    rw [rp_lst] at hv
    obtain ⟨b, xs, rfl, hb, lr⟩ := hv
    refine .inl ⟨b, xs, rfl, SqL.of (er3.sub _ _ hb), fun p hp => fin _ _ (Al.one hp) _ ?_⟩
    rw [rp_lst]
    exact ⟨p, _, rfl, upd_same, RpL.mono (same_upd (er3.sub.free hp)) _ _ (lr.cut _ _)⟩
  | tup ds =>
    cases hz
    rw [rp_tup] at hv
    obtain ⟨b, xs, rfl, hb, lr⟩ := hv
    refine .inr (.inl ⟨b, xs, rfl, seqT_mono er3.sub hb, fun hw => fin _ _ Al.refl _ ?_, fun hw p hp => fin _ _ (Al.one hp) _ ?_⟩)
    · rw [rp_tup]
      refine ⟨b, xs, rfl, hb, ?_⟩
      have e : cutD ds l u = ds := by
        unfold cutD
        rw [lr.len, hw.1, hw.2, List.drop_zero, Nat.sub_zero, ← lr.len, List.take_length]
      rw [e]; exact lr
    · rw [rp_tup]
      exact ⟨p, _, rfl, upd_same, RpL.mono (same_upd (er3.sub.free hp)) _ _ (lr.cut _ _)⟩
  | str z =>
    simp only [gSl] at hz
    split at hz
    · cases hz
      rename_i hzl
      rw [rp_str] at hv
      exact .inr (.inr ⟨z, hv, hzl, fin _ _ Al.refl _ (by rw [rp_str])⟩)
    · cases hz
  | _ => cases hz
end
end Sr
namespace Sr
open PySem hiding start
open PySem.Spec L2
open PyProof.Rows hiding St
def MtD (X : Cx) (id : String) (g : Str → List D → Option D) : Prop :=
  ∀ (H F : Hp) (a : Str) (xs : List V) (ds : List D) (d : D), Same F H → RpL X.K X.mg F ds xs → g a ds = some d →
    ∃ r, MtR X id r ∧ ∀ Q : VK, (∀ H' F' z, Al H F H' F' → Rp X.K X.mg F' d z → Q z H') → r (.str a) xs H Q
def rAnyM (X : Cx) (id : String) : V → List V → Hp → VK → Prop := fun x xs H Q => ∃ r, MtR X id r ∧ r x xs H Q
theorem mtAny {X : Cx} {id : String} : MtR X id (rAnyM X id) := fun pins s σ H x xs v us Q I rx rxs ⟨r, hr, q⟩ => hr pins s σ H x xs v us Q I rx rxs q
def asS : D → Option Str
  | .str z => some z
  | _ => none
def mMt (g : Str → List D → Option D) (m : M D) (ms : M (List D)) : M D := bnd m fun d => bnd (opt (asS d)) fun a => bnd ms fun ds => opt (g a ds)
def mMt0 (g : Str → List D → Option D) (m : M D) : M D := bnd m fun d => bnd (opt (asS d)) fun a => opt (g a [])
section
variable {X : Cx} {T : Pn} {W : WX} {o e : Expr} {es : List Expr} {mo : M D} {ms : M (List D)} {name : Str} {apos cpos : Pos} {id : String} {g : Str → List D → Option D}
theorem jv_mt (slot : Slot "str" name id) (hty : typeOf (.builtin id) = pure (.type "method_descriptor")) (hm : MtD X id g) (ho : JV X T W o mo) (ha : JA X T W (e :: es) ms)
    (hbase : attributeBase o name X.env (eval o X.env) = eval o X.env := by rfl)
    (hfew : ((backTo cpos (starEach (e :: es) X.env)).all (fun x => !x.1) && (backToKw cpos (keywordEach [] X.env)).all (fun x => x.1.isSome)
      && decide ((e :: es).length + ([] : List Keyword).length + (if ([] : List Keyword).isEmpty then 0 else 1) < 30)) = true := by rfl)
    (hline : (apos.endLine == cpos.line) = true := by rfl) (hs : starEach (e :: es) X.env = (false, eval e X.env) :: starEach es X.env := by rfl) (hplain : (backTo cpos (starEach es X.env)).any (·.1) = false := by rfl) :
    JV X T W (.Call (.Attribute o name apos) (e :: es) [] cpos) (mMt g mo ms) := by
  refine PEimp (pe_bm PySem.F.plainAttrs_str slot hty mtAny ho ha hbase hfew hline hs hplain) fun σ H Q ⟨e, F, er, h⟩ => ⟨e, F, er, h.bind.mono fun d e1 H1 F1 er1 mv1 h1 v hv => ?_⟩
  have h2 := h1.bind
  obtain ⟨a, ha', fin⟩ := h2.fin er1
  have h3 := fin H1 F1 Al.refl
  unfold asS at ha'
  split at ha'
  · cases ha'
    rw [rp_str] at hv
    subst hv
    refine ⟨rfl, e1, F1, er1, h3.bind.mono fun ds e2 H2 F2 er2 mv2 h4 vs hvs => ?_⟩
    obtain ⟨z, hz, fin2⟩ := h4.fin er2
    obtain ⟨r, hr, q⟩ := hm H2 F2 _ vs ds z er2.sub hvs hz
    exact ⟨r, hr, q Q fun H' F' z al hz => fin2 H' F' al z hz⟩
  · cases ha'
theorem jv_mt0 (slot : Slot "str" name id) (hty : typeOf (.builtin id) = pure (.type "method_descriptor")) (hm : MtD X id g) (ho : JV X T W o mo)
    (hbase : attributeBase o name X.env (eval o X.env) = eval o X.env := by rfl) (hline : (apos.endLine == cpos.line) = true := by rfl) :
    JV X T W (.Call (.Attribute o name apos) [] [] cpos) (mMt0 g mo) := by
  refine PEimp (pe_bm0 PySem.F.plainAttrs_str slot hty mtAny ho hbase hline) fun σ H Q ⟨e, F, er, h⟩ => ⟨e, F, er, h.bind.mono fun d e1 H1 F1 er1 mv1 h1 v hv => ?_⟩
  have h2 := h1.bind
  obtain ⟨a, ha', fin⟩ := h2.fin er1
  have h3 := fin H1 F1 Al.refl
  unfold asS at ha'
  split at ha'
  · cases ha'
    rw [rp_str] at hv
    subst hv
    obtain ⟨z, hz, fin2⟩ := h3.fin er1
    obtain ⟨r, hr, q⟩ := hm H1 F1 _ [] [] z er1.sub (by rw [rl_nil]) hz
    exact ⟨rfl, r, hr, q Q fun H' F' z al hz => fin2 H' F' al z hz⟩
  · cases ha'
def dStrs : List D → Option (List Str)
  | [] => some []
  | .str z :: ds => (dStrs ds).map (z :: ·)
  | _ :: _ => none
theorem dStrs_vals {K : PySem.W.Frag} {mg : Str → Option Value} {F : Hp} : ∀ {ds : List D} {ys : List Str} {xs : List V}, dStrs ds = some ys → RpL K mg F ds xs → xs = ys.map V.str
  | [], ys, xs, h, l => by cases h; rw [rl_nil] at l; exact l
  | d :: ds, ys, xs, h, l => by
    cases d with
    | str z =>
      simp only [dStrs, Option.map_eq_some_iff] at h
      obtain ⟨ys', h1, rfl⟩ := h
      rw [rl_cons] at l
      obtain ⟨v, vs, rfl, l1, l2⟩ := l
      rw [rp_str] at l1
      rw [l1, dStrs_vals h1 l2]; rfl
    | _ => cases h
def gJoinL (a : Str) (ds : List D) : Option D := match dStrs ds with
  | some ys => if (ys.map (·.length)).sum + ys.length * a.length ≤ 16777216 then some (.str (Txt.join a ys)) else none
  | none => none
def gJoin : Str → List D → Option D
  | a, [.lst ds] => gJoinL a ds
  | a, [.tup ds] => gJoinL a ds
  | _, _ => none
theorem m_join : MtD X "str.join" gJoin := by
  intro H F a xs ds d s l h
  refine ⟨_, mt_join, fun Q q => ?_⟩
  unfold gJoin at h
  split at h
  · rename_i ds'
    unfold gJoinL at h
    split at h
    · rename_i ys hy
      split at h
      · rename_i hz
        cases h
        obtain ⟨v, rfl, r⟩ := rl_one l
        rw [rp_lst] at r
        obtain ⟨p, zs, rfl, hp, lz⟩ := r
        rw [dStrs_vals hy lz] at hp
        exact ⟨a, p, ys, rfl, rfl, .inl (SqL.of (s _ _ hp)), hz, q H F _ Al.refl (by rw [rp_str])⟩
      · cases h
    · cases h
  · rename_i ds'
    unfold gJoinL at h
    split at h
    · rename_i ys hy
      split at h
      · rename_i hz
        cases h
        obtain ⟨v, rfl, r⟩ := rl_one l
        rw [rp_tup] at r
        obtain ⟨p, zs, rfl, hp, lz⟩ := r
        rw [dStrs_vals hy lz] at hp
        exact ⟨a, p, ys, rfl, rfl, .inr (seqT_mono s hp), hz, q H F _ Al.refl (by rw [rp_str])⟩
      · cases h
    · cases h
  · cases h
def gS1 (f : Str → Str → Option D) : Str → List D → Option D
  | a, [.str b] => f a b
  | _, _ => none
theorem m_s1 {id : String} {f : Str → Str → Option D} {r : V → List V → Hp → VK → Prop} (hr : MtR X id r) (hq : ∀ a b d H F (Q : VK), f a b = some d → (∀ z, Rp X.K X.mg F d z → Q z H) → r (.str a) [.str b] H Q) : MtD X id (gS1 f) := by
  intro H F a xs ds d s l h
  refine ⟨r, hr, fun Q q => ?_⟩
  unfold gS1 at h
  split at h
  · obtain ⟨v, rfl, rv⟩ := rl_one l
    rw [rp_str] at rv; subst rv
    exact hq _ _ _ H F Q h fun z hz => q H F z Al.refl hz
  · cases h
def gCount : Str → List D → Option D := gS1 fun a b => some (.int (Txt.count a b))
theorem m_count : MtD X "str.count" gCount := m_s1 mt_count fun a b d H F Q h q => ⟨a, b, rfl, rfl, q _ (by cases h; rw [rp_int])⟩
def gEnds : Str → List D → Option D := gS1 fun a b => some (.bl (Txt.endswith a b))
theorem m_ends : MtD X "str.endswith" gEnds := m_s1 mt_endswith fun a b d H F Q h q => ⟨a, b, rfl, rfl, q _ (by cases h; rw [rp_bl])⟩
def gStarts : Str → List D → Option D := gS1 fun a b => some (.bl (Txt.startswith a b))
theorem m_starts : MtD X "str.startswith" gStarts := m_s1 mt_startswith fun a b d H F Q h q => ⟨a, b, rfl, rfl, q _ (by cases h; rw [rp_bl])⟩
def gStrip : Str → List D → Option D := gS1 fun a b => if a.length ≤ sizeLine then some (.str (Txt.stripChars a b)) else none
theorem m_strip : MtD X "str.strip" gStrip := m_s1 mt_stripChars fun a b d H F Q h q => by
  by_cases hz : a.length ≤ sizeLine
  · rw [if_pos hz] at h; cases h; exact ⟨a, b, rfl, rfl, hz, q _ (by rw [rp_str])⟩
  · rw [if_neg hz] at h; cases h
def gRstrip : Str → List D → Option D := gS1 fun a b => if a.length ≤ sizeLine then some (.str (Txt.rstripChars a b)) else none
theorem m_rstrip : MtD X "str.rstrip" gRstrip := m_s1 mt_rstripChars fun a b d H F Q h q => by
  by_cases hz : a.length ≤ sizeLine
  · rw [if_pos hz] at h; cases h; exact ⟨a, b, rfl, rfl, hz, q _ (by rw [rp_str])⟩
  · rw [if_neg hz] at h; cases h
def gStr : D → Option D
  | .int i => if i.natAbs.log2 < 1920 then some (.str (toString i)) else none
  | .str z => some (.str z)
  | _ => none
theorem c_str : Cal1 X (.type "str") gStr := by
  intro H F x d d' s r h
  cases d with
  | int i =>
    simp only [gStr] at h
    split at h
    · rename_i hz
      cases h
      have r : Rp X.K X.mg F (.int i) x := r
      rw [rp_int] at r; subst r
      exact ⟨_, call_str_int, fun Q q => ⟨i, rfl, hz, q H F _ Al.refl (by rw [rp_str])⟩⟩
    · cases h
  | str z =>
    simp only [gStr] at h
    cases h
    have r : Rp X.K X.mg F (.str z) x := r
    rw [rp_str] at r; subst r
    exact ⟨_, SkE.call_str_str, fun Q q => ⟨z, rfl, q H F _ Al.refl (by rw [rp_str])⟩⟩
  | _ => cases h
def gFmt : D → Option D
  | .int i => if i.natAbs.log2 < 1920 then some (.str (toString i)) else none
  | .str z => if z.length ≤ sizeLine then some (.str z) else none
  | _ => none
theorem jv_fmt {pos : Pos} (ho : JV X T W o mo) : JV X T W (.FormattedValue o (-1) none pos) (m1 gFmt mo) := by
  refine PEimp (pe_fmt ho) fun σ H Q ⟨e, F, er, h⟩ => ⟨e, F, er, h.bind.mono fun d e1 H1 F1 er1 mv1 h1 v hv => ?_⟩
  obtain ⟨z, hz, fin⟩ := h1.fin er1
  cases d with
  | int i =>
    simp only [gFmt] at hz
    split at hz
    · rename_i hl
      cases hz
      rw [rp_int] at hv
      exact .inr ⟨i, hv, hl, fin H1 F1 Al.refl _ (by rw [rp_str])⟩
    · cases hz
  | str y =>
    simp only [gFmt] at hz
    split at hz
    · rename_i hl
      cases hz
      rw [rp_str] at hv
      exact .inl ⟨y, hv, hl, fin H1 F1 Al.refl _ (by rw [rp_str])⟩
    · cases hz
  | _ => cases hz
def mJs : List (M D) → Str → M D
  | [], acc => ret (.str acc)
  | m :: ms, acc => bnd m fun d => bnd (opt (asS d)) fun y => if (acc ++ y).length ≤ sizeLine then mJs ms (acc ++ y) else fun _ => .bad
theorem js_imp {K : PySem.W.Frag} {mg : Str → Option Value} {σ : St} {Q : VK} : ∀ (ms : List (M D)) (acc : Str) (e : En) (H F : Hp), ER K mg T e σ H F → RunAt K mg T W e F (mJs ms acc) σ H (fun d _ H' F' => ∀ v, Rp K mg F' d v → Q v H') → tJs (ms.map (TV K mg T W)) acc σ H fun out H1 => Q (.str out) H1
  | [], acc, e, H, F, er, h => h.rfin er H F Al.refl _ (by rw [rp_str])
  | m :: ms, acc, e, H, F, er, h => by
    refine ⟨e, F, er, h.bind.mono fun d e1 H1 F1 er1 mv1 h1 v hv => ?_⟩
    obtain ⟨y, hy, fin⟩ := h1.bind.fin er1
    have h2 := fin H1 F1 Al.refl
    unfold asS at hy
    split at hy
    · cases hy
      rw [rp_str] at hv
      split at h2
      · rename_i hl
        exact ⟨_, hv, hl, js_imp ms _ e1 H1 F1 er1 h2⟩
      · exact h2.elim
    · cases hy
def JJ (X : Cx) (T : Pn) (W : WX) (es : List Expr) (ms : List (M D)) : Prop := PJ X es (ms.map (TV X.K X.mg T W))
theorem jj_nil : JJ X T W [] [] := .nil
theorem jj_cons {m : M D} {mss : List (M D)} (h : JV X T W e m) (hs : JJ X T W es mss) : JJ X T W (e :: es) (m :: mss) := .cons h hs
theorem jv_js {v1 v2 : Expr} {rest : List Expr} {pos : Pos} {mss : List (M D)} (h : JJ X T W (v1 :: v2 :: rest) mss) : JV X T W (.JoinedStr (v1 :: v2 :: rest) pos) (mJs mss Str.empty) :=
  PEimp (pe_joined h) fun σ H Q ⟨e, F, er, h⟩ => js_imp mss _ e H F er h
end
end Sr
namespace Sr
open PySem hiding start
open PySem.Spec L2
open PyProof.Rows hiding St
structure OwnM (X : Cx) (k : Nat) (c : Str) (C : Addr) (m : Str) (n : Nat) (ps : List Str) (f : Fnc) : Prop where
  cl : Cl X c C
  ex : ∃ fa fd, PySem.W.findIn X.K (.ref C) m = some (some (.ref fa)) ∧ PySem.W.isFn X.K (.ref fa) = true ∧ FnG X.prog X.w X.K X.mg X.base k fa fd ps (spF0 X.K X.mg false n f) ∧ Binds X.K fd ps []
def NotF (K : PySem.W.Frag) (mg : Str → Option Value) (C : Addr) (nf : Str → Bool) : Prop := (∀ k : Kd, PySem.W.notFirst K C (.type k.nm) = true) ∧ ∀ c, nf c = true → ∃ C', ClI K mg c C' ∧ PySem.W.notFirst K C (.ref C') = true
def okK (nf : Str → Bool) (d : D) : Bool := match dKind d with
  | some (.inl _) => true
  | some (.inr c) => nf c
  | none => false
theorem okK_ty {K : PySem.W.Frag} {mg : Str → Option Value} {C : Addr} {nf : Str → Bool} {H F : Hp} {d : D} {v : V} (n : NotF K mg C nf) (s : Same F H) (r : Rp K mg F d v) (h : okK nf d = true) : ∃ t, TyX K H v t ∧ PySem.W.notFirst K C t = true := by
  unfold okK at h
  split at h
  · rename_i k hk
    exact ⟨_, tyx_ok s r hk, n.1 k⟩
  · rename_i c hc
    obtain ⟨C', h1, h2⟩ := n.2 c h
    cases d <;> simp only [dKind, Option.some.injEq, Sum.inr.injEq, reduceCtorEq] at hc
    subst hc
    exact ⟨_, tyx_obj s r h1, h2⟩
  · cases h
def rCmpO (X : Cx) (C : Addr) (sp : Sp) : R2 := fun x y H Q => ∃ a dx fs t, x = .ref a ∧ H a = some (.ins C dx fs) ∧ TyX X.K H y t ∧ PySem.W.notFirst X.K C t = true ∧ sp [x, y] H Q fun _ _ _ => False
theorem op_cmpO {X : Cx} {op : CmpOp} {k : Nat} {C fa : Addr} {fd : FuncData} {ps : List Str} {sp : Sp} (hop : ∀ a b : Value, compareOp op a b = richCompare op a b) (hs : PySem.W.findIn X.K (.ref C) (cmpInfo op).2.1 = some (some (.ref fa))) (hf : PySem.W.isFn X.K (.ref fa) = true)
    (G : FnG X.prog X.w X.K X.mg X.base k fa fd ps sp) (hb : Binds X.K fd ps []) (hr : Room k X.A) (hgu : X.A.guards = some []) : OpR X (compareOp op) (rCmpO X C sp) := by
  intro pins s σ H x y v u Q I rx ry h
  obtain ⟨a, dx, fs, t, rfl, ha, ty, nf, hsp⟩ := h
  obtain rfl : v = Value.ref a := rx
  rw [hop]
  obtain ⟨mA, J, _⟩ := ins_get I.hok ha
  obtain ⟨od, J, _⟩ := J.look
  obtain ⟨m, hF⟩ := I.fr
  obtain ⟨P, kx, hP, _⟩ := kit_of I ry ty
  refine PySem.W.cmp_K (op := op) (tb := t) hr.units0 hF I.ok.mod.kin J (kx.ty _ _ I.kIn hP) nf hs hf ?_
  have r2 : Vals [V.ref a, y] [Value.ref a, u] := .cons (show RelV (V.ref a) (Value.ref a) from rfl) (.cons ry .nil)
  refine wpAny_mono (run_g (W := W0) (dvs := []) (ds := []) G hr hgu hb .nil takes0 I r2 hsp) (fun w s' hw => ?_) fun _ _ e => e
  obtain ⟨z, H', I', rz, q⟩ := hw
  cases w <;> first
    | exact ⟨z, H', I', rz, q⟩
    | (exfalso; cases z <;> first | exact nomatch rz | (obtain ⟨_, e⟩ := rz; exact nomatch e))
def mCmpO (c : Str) (nf : Str → Bool) (f : Fnc) (g : D → D → Option D) (ma mb : M D) : M D := bnd ma fun d1 => bnd mb fun d2 => match d1 with
  | .obj c' fs => if c' = c ∧ okK nf d2 = true then (fun e => match f .non [.obj c' fs, d2] with
    | .ok z _ => .ok z e
    | _ => .bad) else opt (g (.obj c' fs) d2)
  | d1 => opt (g d1 d2)
section
variable {X : Cx} {T : Pn} {W : WX} {pos : Pos} {a b : Expr} {ma mb : M D}
theorem jv_cmpO {op : CmpOp} {k : Nat} {c : Str} {C : Addr} {nf : Str → Bool} {ps : List Str} {f : Fnc} {g : D → D → Option D} {j : Nat} (hop : ∀ a b : Value, compareOp op a b = richCompare op a b) (O : OwnM X k c C (cmpInfo op).2.1 2 ps f) (N : NotF X.K X.mg C nf) (hp : Pl X j) (ho : Op2 X (compareOp op) g) (ha : JV X T W a ma) (hb : JV X T W b mb)
    (hj : k ≤ j := by decide) (hm : behindInMarks op b = false := by first | exact nomark _ | rfl) : JV X T W (.Compare a [op] [b] pos) (mCmpO c nf f g ma mb) := by
  obtain ⟨fa, fd, h1, h2, h3, h4⟩ := O.ex
  refine PEimp (pe_cmpR opAny ha hb hm) fun σ H Q ⟨e, F, er, h⟩ => ⟨e, F, er, h.bind.mono fun d1 e1 H1 F1 er1 mv1 g1 x hx => ⟨e1, F1, er1, g1.bind.mono fun d2 e2 H2 F2 er2 mv2 g2 y hy => ?_⟩⟩
  have hx := Rp.mono mv2.sub _ _ hx
  have plain : ∀ z, RunAt X.K X.mg T W e2 F2 (opt (g d1 d2)) σ H2 (fun d _ H' F' => ∀ v, Rp X.K X.mg F' d v → Q v H') → g d1 d2 = some z → rAny X (compareOp op) x y H2 Q := fun z hh hz => by
    obtain ⟨z', hz', fin⟩ := hh.fin er2
    obtain ⟨r, hr, q⟩ := ho H2 F2 x y d1 d2 z' er2.sub (Rp.rq er2.sub hx) (Rp.rq er2.sub hy) hz'
    exact ⟨r, hr, q Q fun H' F' z al hz => fin H' F' al z hz⟩
  have plain2 : RunAt X.K X.mg T W e2 F2 (opt (g d1 d2)) σ H2 (fun d _ H' F' => ∀ v, Rp X.K X.mg F' d v → Q v H') → rAny X (compareOp op) x y H2 Q := fun hh => by
    obtain ⟨z', hz', _⟩ := hh.fin er2
    exact plain z' hh hz'
  cases d1 with
  | obj c' fs =>
    dsimp only at g2
    by_cases hc : c' = c ∧ okK nf d2 = true
    · rw [if_pos hc] at g2
      obtain ⟨rfl, hk⟩ := hc
      cases q : f .non [.obj c' fs, d2] with
      | ok z o =>
        have hrun : RunAt X.K X.mg T W0 e2 F2 (ap0 f [.obj c' fs, d2]) σ H2 (fun d _ H' F' => ∀ v, Rp X.K X.mg F' d v → Q v H') := by
          refine RunAt.of (x := z) (e1 := e2) (by unfold ap0; rw [q]) fun H' F' er' mv' => ?_
          unfold RunAt at g2
          simp only [q] at g2
          exact g2 H' F' er' mv'
        obtain ⟨t, ty, nft⟩ := okK_ty N er2.sub hy hk
        have hx2 := hx
        rw [rp_obj] at hx2
        obtain ⟨a', C', dx, gs, rfl, m1, m2, _⟩ := hx2
        rw [O.cl.mg] at m1; cases m1
        exact ⟨_, op_cmpO hop h1 h2 h3 h4 (hp.room.mono hj) hp.gu, a', dx, gs, t, rfl, er2.sub _ _ m2, ty, nft, ap0_v hrun er2 (by rw [rl_cons]; exact ⟨_, _, rfl, hx, by rw [rl_cons]; exact ⟨_, _, rfl, hy, by rw [rl_nil]⟩⟩) rfl⟩
      | exc x o => unfold RunAt at g2; simp only [q] at g2
      | bad => unfold RunAt at g2; simp only [q] at g2
    · rw [if_neg hc] at g2
      exact plain2 g2
  | _ => exact plain2 g2
end
section
variable {prog : Program} {w : World} {A : Around} {E : Value → Shared → Prop} {s : Shared} {K : PySem.W.Frag} {x C L f : Addr} {h₀ : Heap} {m : Str → Option Value} {ox : Obj} {od : Option Obj} {b tb : Value}
theorem ne_K {Q : Value → Shared → Prop} (hu : A.units + 1 < cLine) (X : K.In s.heap) (I : PySem.W.InstAt s.heap x ox C od) (hb : PySem.W.Looks (model prog w) s.heap (typeOf b) tb) (hn : PySem.W.notFirst K C tb = true)
    (hne : PySem.W.findIn K (.ref C) "__ne__" = some (some (.builtin "object.__ne__"))) (hs : PySem.W.findIn K (.ref C) "__eq__" = some (some (.ref f))) (hf : PySem.W.isFn K (.ref f) = true) (hob : PySem.W.subIn K (.ref C) (.type "object") = some true)
    (h : wpAny (model prog w) A.in1 (call (.ref f) [.ref x, b]) (fun v s' => ∃ r, v = .bool r ∧ Q (.bool (!r)) s') E s) : wpAny (model prog w) A (richCompare .NotEq (.ref x) b) Q E s := by
  have entry : wpAny (model prog w) A.in1 (Builtin.«object.__ne__» ⟨[.ref x, b], []⟩) (fun r s' => ∃ q, r = .done (.ret (.bool q)) ∧ Q (.bool q) s') E s := by
    unfold Builtin.«object.__ne__»
    refine wpAny_bind (wpAny_of_eq (a := ((Value.ref x : Value), [b])) (by first | rfl | (simp only [slotArgs]; rfl)) ?_)
    refine wpAny_bind (wpAny_cRoomFor (show A.in1.units < cLine from hu) ?_)
    refine wpAny_bind (PySem.W.ifBound_K X I hs hf (wpAny_mono h (fun v s' hv => ?_) fun _ _ e => e))
    obtain ⟨r, rfl, hq⟩ := hv
    refine wpAny_bind (wpAny_of_eq (a := r) (by rfl) ?_)
    exact wpAny_pure ⟨!r, rfl, hq⟩
  have one : wpAny (model prog w) A (tryCompare (.ref x) "__ne__" b) (fun r s' => ∃ v, r = some v ∧ Q v s') E s := by
    unfold tryCompare
    have fin : wpAny (model prog w) A (call (.builtin "object.__ne__") ([.ref x] ++ [b]) >>= fun v => pure (some v)) (fun r s' => ∃ q, r = some (.bool q) ∧ Q (.bool q) s') E s := by
      refine wpAny_bind (wpAny_call (codeAny_call_builtin PySem.F.cmp_object.ne.plain PySem.F.cmpEntry_ne ?_))
      refine PySem.W.check_slot PySem.F.cmpKind_ne PySem.F.cmpSplit_ne (I.type.andThen (PySem.W.looks_subIn X hob)) (PySem.F.cmpArgs_ne _ _) ?_
      refine wpAny_mono entry (fun r s' hr => ?_) fun _ _ e => e
      obtain ⟨q, rfl, hq⟩ := hr
      exact wpAny_pure ⟨q, rfl, hq⟩
    have call : wpAny (model prog w) A (callSpecialIfBound? (.ref x) "__ne__" [b]) (fun r s' => ∃ q, r = some (.bool q) ∧ Q (.bool q) s') E s := by
      simp only [callSpecialIfBound?, bindSpecialIfBound?]
      refine wpAny_holding (wpAny_bind (wpAny_bind (wpAny_bind (I.type.here ((PySem.W.looks_findIn X hne).here ?_)))))
      simp only [PySem.F.cmp_object.ne.bind]
      refine wpAny_bind (wpAny_askSetting (wpAny_ite ?_))
      split
      · exact wpAny_bind (wpAny_pure (wpAny_pure fin))
      · exact wpAny_tryCatch (wpAny_bind (wpAny_pure (wpAny_pure fin)))
    refine wpAny_bind (wpAny_mono call (fun r s' hr => ?_) fun _ _ e => e)
    obtain ⟨q, rfl, hq⟩ := hr
    exact wpAny_pure ⟨_, rfl, hq⟩
  unfold richCompare
  simp only [oneThing_ref]
  refine wpAny_holding (wpAny_bind (wpAny_cRoomFor (by omega) ?_))
  refine wpAny_bind (I.type.here (wpAny_bind (hb.here ?_)))
  split
  · rename_i q
    have e : PySem.W.subIn K tb (.ref C) = some false := by
      rcases Bool.or_eq_true_iff.mp hn with e | e
      · rw [beq_iff_eq.mp e] at q; simp at q
      · exact beq_iff_eq.mp e
    refine wpAny_bind ((PySem.W.looks_subIn X e).here ?_)
    simp only [Bool.false_eq_true, if_false]
    refine wpAny_bind (wpAny_mono one (fun r s' z => ?_) fun _ _ e => e)
    obtain ⟨v, rfl, hq⟩ := z
    exact wpAny_pure hq
  · refine wpAny_bind (wpAny_pure ?_)
    simp only [Bool.false_eq_true, if_false]
    refine wpAny_bind (wpAny_mono one (fun r s' z => ?_) fun _ _ e => e)
    obtain ⟨v, rfl, hq⟩ := z
    exact wpAny_pure hq
end
section
variable {X : Cx} {T : Pn} {W : WX} {pos : Pos} {a b : Expr} {ma mb : M D}
theorem run_gA {A : Around} {k : Nat} {f : Addr} {fd : FuncData} {ps : List Str} {sp : Sp} {pins : List (Addr × Obj)} {σ : St} {H : Hp} {s : Shared} {Q : VK} {us : List Value} {vs : List V} (F : FnG X.prog X.w X.K X.mg X.base k f fd ps sp) (hr : Room k A) (hgu : A.guards = some []) (hfr : A.frames = X.A.frames)
    (hb : Binds X.K fd ps []) (tk : Takes X W) (I : Inv X pins σ H s) (r : Vals vs us) (h : sp vs H Q (WE W σ)) : wpAny (model X.prog X.w) A (call (.ref f) us) (EP X pins σ Q) X.xe s := by
  have hl : us.length = ps.length := by rw [← r.length]; exact F.len _ _ _ _ h
  have e0 : Env0 X.prog X.w X.K X.mg X.base A X.stack s H := by
    have e := I.env0
    exact ⟨by rw [hfr]; exact e.frames, e.mod, e.bs, e.bsz, e.funs, e.frf, e.hok, e.bare⟩
  have hbb := hb s us I.kIn (by rw [List.append_nil]; exact hl)
  rw [List.append_nil] at hbb
  refine wpAny_call (codeAny_mono (F.run A X.stack s H _ _ _ Q _ hr hgu e0 hbb r h) fun r s' hq => ?_)
  cases r with
  | error e => exact tk e s' (XE.of_call I (fun cls d H' h => h) hq)
  | ok fl =>
    cases fl with
    | ret w => exact I.after hq
    | next => exact False.elim hq
    | brk => exact False.elim hq
    | cont => exact False.elim hq
def rNeO (X : Cx) (C : Addr) (sp : Sp) : R2 := fun x y H Q => ∃ a dx fs t, x = .ref a ∧ H a = some (.ins C dx fs) ∧ TyX X.K H y t ∧ PySem.W.notFirst X.K C t = true ∧ sp [x, y] H (fun v H' => ∃ b, v = .bl b ∧ Q (.bl (!b)) H') fun _ _ _ => False
theorem op_neO {k : Nat} {C fa : Addr} {fd : FuncData} {ps : List Str} {sp : Sp} (hne : PySem.W.findIn X.K (.ref C) "__ne__" = some (some (.builtin "object.__ne__"))) (hs : PySem.W.findIn X.K (.ref C) "__eq__" = some (some (.ref fa))) (hf : PySem.W.isFn X.K (.ref fa) = true) (hob : PySem.W.subIn X.K (.ref C) (.type "object") = some true)
    (G : FnG X.prog X.w X.K X.mg X.base k fa fd ps sp) (hb : Binds X.K fd ps []) (hr : Room (k + 1) X.A) (hgu : X.A.guards = some []) : OpR X (compareOp .NotEq) (rNeO X C sp) := by
  intro pins s σ H x y v u Q I rx ry h
  obtain ⟨a, dx, fs, t, rfl, ha, ty, nf, hsp⟩ := h
  obtain rfl : v = Value.ref a := rx
  show wpAny (model X.prog X.w) X.A (richCompare .NotEq (.ref a) u) (EP X pins σ Q) X.xe s
  obtain ⟨mA, J, _⟩ := ins_get I.hok ha
  obtain ⟨od, J, _⟩ := J.look
  obtain ⟨P, kx, hP, _⟩ := kit_of I ry ty
  refine ne_K (tb := t) (by have := hr.un; omega) I.kIn J (kx.ty _ _ I.kIn hP) nf hne hs hf hob ?_
  have r2 : Vals [V.ref a, y] [Value.ref a, u] := .cons (show RelV (V.ref a) (Value.ref a) from rfl) (.cons ry .nil)
  refine wpAny_mono (run_gA (W := W0) G hr.in1 hgu rfl hb takes0 I r2 hsp) (fun w s' hw => ?_) fun _ _ e => e
  obtain ⟨z, H', I', rz, b, rfl, q⟩ := hw
  obtain rfl : w = Value.bool b := rz
  exact ⟨b, rfl, .bl (!b), H', I', rfl, q⟩
structure NeK (X : Cx) (C : Addr) : Prop where
  ne : PySem.W.findIn X.K (.ref C) "__ne__" = some (some (.builtin "object.__ne__"))
  ob : PySem.W.subIn X.K (.ref C) (.type "object") = some true
def mNeO (c : Str) (nf : Str → Bool) (f : Fnc) (g : D → D → Option D) (ma mb : M D) : M D := bnd ma fun d1 => bnd mb fun d2 => match d1 with
  | .obj c' fs => if c' = c ∧ okK nf d2 = true then (fun e => match f .non [.obj c' fs, d2] with
    | .ok (.bl z) _ => .ok (.bl (!z)) e
    | _ => .bad) else opt (g (.obj c' fs) d2)
  | d1 => opt (g d1 d2)
theorem jv_neO {k : Nat} {c : Str} {C : Addr} {nf : Str → Bool} {ps : List Str} {f : Fnc} {g : D → D → Option D} {j : Nat} (O : OwnM X k c C "__eq__" 2 ps f) (NK : NeK X C) (N : NotF X.K X.mg C nf) (hp : Pl X j) (ho : Op2 X (compareOp .NotEq) g) (ha : JV X T W a ma) (hb : JV X T W b mb)
    (hj : k + 1 ≤ j := by decide) (hm : behindInMarks .NotEq b = false := by first | exact nomark _ | rfl) : JV X T W (.Compare a [.NotEq] [b] pos) (mNeO c nf f g ma mb) := by
  obtain ⟨fa, fd, h1, h2, h3, h4⟩ := O.ex
  refine PEimp (pe_cmpR opAny ha hb hm) fun σ H Q ⟨e, F, er, h⟩ => ⟨e, F, er, h.bind.mono fun d1 e1 H1 F1 er1 mv1 g1 x hx => ⟨e1, F1, er1, g1.bind.mono fun d2 e2 H2 F2 er2 mv2 g2 y hy => ?_⟩⟩
  have hx := Rp.mono mv2.sub _ _ hx
  have plain2 : RunAt X.K X.mg T W e2 F2 (opt (g d1 d2)) σ H2 (fun d _ H' F' => ∀ v, Rp X.K X.mg F' d v → Q v H') → rAny X (compareOp .NotEq) x y H2 Q := fun hh => by
    obtain ⟨z', hz', fin⟩ := hh.fin er2
    obtain ⟨r, hr, q⟩ := ho H2 F2 x y d1 d2 z' er2.sub (Rp.rq er2.sub hx) (Rp.rq er2.sub hy) hz'
    exact ⟨r, hr, q Q fun H' F' z al hz => fin H' F' al z hz⟩
  cases d1 with
  | obj c' fs =>
    dsimp only at g2
    by_cases hc : c' = c ∧ okK nf d2 = true
    · rw [if_pos hc] at g2
      obtain ⟨rfl, hk⟩ := hc
      cases q : f .non [.obj c' fs, d2] with
      | ok z o =>
        cases z with
        | bl z =>
          have hrun : RunAt X.K X.mg T W0 e2 F2 (ap0 f [.obj c' fs, d2]) σ H2 (fun d _ H' F' => ∀ v, Rp X.K X.mg F' d v → ∃ b, v = .bl b ∧ Q (.bl (!b)) H') := by
            refine RunAt.of (x := .bl z) (e1 := e2) (by unfold ap0; rw [q]) fun H' F' er' mv' v hv => ?_
            unfold RunAt at g2
            simp only [q] at g2
            rw [rp_bl] at hv
            exact ⟨z, hv, g2 H' F' er' mv' _ (by rw [rp_bl])⟩
          obtain ⟨t, ty, nft⟩ := okK_ty N er2.sub hy hk
          have hx2 := hx
          rw [rp_obj] at hx2
          obtain ⟨a', C', dx, gs, rfl, m1, m2, _⟩ := hx2
          rw [O.cl.mg] at m1; cases m1
          exact ⟨_, op_neO NK.ne h1 h2 NK.ob h3 h4 (hp.room.mono hj) hp.gu, a', dx, gs, t, rfl, er2.sub _ _ m2, ty, nft, ap0_v hrun er2 (by rw [rl_cons]; exact ⟨_, _, rfl, hx, by rw [rl_cons]; exact ⟨_, _, rfl, hy, by rw [rl_nil]⟩⟩) rfl⟩
        | _ => unfold RunAt at g2; simp only [q] at g2
      | exc x o => unfold RunAt at g2; simp only [q] at g2
      | bad => unfold RunAt at g2; simp only [q] at g2
    · rw [if_neg hc] at g2
      exact plain2 g2
  | _ => exact plain2 g2
end
end Sr
namespace Sr
open PySem hiding start
open PySem.Spec L2
open PyProof.Rows hiding St
section
variable {X : Cx} {T : Pn} {W : WX} {pos p : Pos} {a : Expr} {ma : M D}
def rReprO (X : Cx) (C : Addr) (sp : Sp) : List V → Hp → VK → Prop := fun xs H Q => ∃ a dx fs, xs = [.ref a] ∧ H a = some (.ins C dx fs) ∧ sp [.ref a] H (fun v H' => ∃ z, v = .str z ∧ Q (.str z) H') fun _ _ _ => False
theorem call_reprO {k : Nat} {C fa : Addr} {fd : FuncData} {ps : List Str} {sp : Sp} (hs : PySem.W.findIn X.K (.ref C) "__repr__" = some (some (.ref fa))) (hf : PySem.W.isFn X.K (.ref fa) = true)
    (G : FnG X.prog X.w X.K X.mg X.base k fa fd ps sp) (hb : Binds X.K fd ps []) (hr : Room (k + 1) X.A) (hgu : X.A.guards = some []) : CallR X (.builtin "repr") (rReprO X C sp) := by
  intro pins s σ H xs us Q I r h
  obtain ⟨a, dx, fs, rfl, ha, hsp⟩ := h
  obtain ⟨u, rfl, ru⟩ := vals1 r
  obtain rfl : u = Value.ref a := ru
  obtain ⟨mA, J, _⟩ := ins_get I.hok ha
  obtain ⟨od, J, _⟩ := J.look
  obtain ⟨m, hF⟩ := I.fr
  refine PySem.W.repr_K (show X.A.in1.units < cLine from hr.in1.units0) hF I.ok.mod.kin J hs hf ?_
  have r2 : Vals [V.ref a] [Value.ref a] := .cons (show RelV (V.ref a) (Value.ref a) from rfl) .nil
  refine wpAny_mono (run_gA (W := W0) G hr.in1 hgu rfl hb takes0 I r2 hsp) (fun w s' hw => ?_) fun _ _ e => e
  obtain ⟨z, H', I', rz, b, rfl, q⟩ := hw
  obtain ⟨t, rfl⟩ := rz
  exact ⟨.str b, H', I', ⟨t, rfl⟩, q⟩
def mReprO (c : Str) (f : Fnc) (g : D → Option D) (ma : M D) : M D := bnd ma fun d => match d with
  | .obj c' fs => if c' = c then (fun e => match f .non [.obj c' fs] with
    | .ok (.str z) _ => .ok (.str z) e
    | _ => .bad) else opt (g (.obj c' fs))
  | d => opt (g d)
theorem jv_reprO {k : Nat} {c : Str} {C : Addr} {ps : List Str} {f : Fnc} {g : D → Option D} {j : Nat} (O : OwnM X k c C "__repr__" 1 ps f) (hp : Pl X j) (ho : Cal1 X (.builtin "repr") g) (hg : Gl X "repr") (hm : X.mg "repr" = none) (hv : bootBuiltins "repr" = some (.builtin "repr")) (ha : JV X T W a ma)
    (hj : k + 1 ≤ j := by decide) (he : starEach [a] X.env = (false, eval a X.env) :: starEach [] X.env := by rfl) : JV X T W (.Call (.Name "repr" p) [a] [] pos) (mReprO c f g ma) := by
  obtain ⟨fa, fd, h1, h2, h3, h4⟩ := O.ex
  refine PEimp (pe_callB callAny hg hm hv (pa_cons ha pa_nil he) (by decide) (by decide) he rfl) fun σ H Q ⟨e, F, er, h⟩ => ⟨e, F, er, h.bind.mono fun d e1 H1 F1 er1 mv1 g1 x hx => ?_⟩
  have plain2 : RunAt X.K X.mg T W e1 F1 (opt (g d)) σ H1 (fun d _ H' F' => ∀ v, Rp X.K X.mg F' d v → Q v H') → rAnyC X (.builtin "repr") [x] H1 Q := fun hh => by
    obtain ⟨z', hz', fin⟩ := hh.fin er1
    obtain ⟨r, hr, q⟩ := ho H1 F1 x d z' er1.sub (Rp.rq er1.sub hx) hz'
    exact ⟨r, hr, q Q fun H' F' z al hz => fin H' F' al z hz⟩
  cases d with
  | obj c' fs =>
    dsimp only at g1
    by_cases hc : c' = c
    · rw [if_pos hc] at g1
      subst hc
      cases q : f .non [.obj c' fs] with
      | ok z o =>
        cases z with
        | str z =>
          have hrun : RunAt X.K X.mg T W0 e1 F1 (ap0 f [.obj c' fs]) σ H1 (fun d _ H' F' => ∀ v, Rp X.K X.mg F' d v → ∃ b, v = .str b ∧ Q (.str b) H') := by
            refine RunAt.of (x := .str z) (e1 := e1) (by unfold ap0; rw [q]) fun H' F' er' mv' v hv => ?_
            unfold RunAt at g1
            simp only [q] at g1
            rw [rp_str] at hv
            exact ⟨z, hv, g1 H' F' er' mv' _ (by rw [rp_str])⟩
          have hx2 := hx
          rw [rp_obj] at hx2
          obtain ⟨a', C', dx, gs, rfl, m1, m2, _⟩ := hx2
          rw [O.cl.mg] at m1; cases m1
          exact ⟨_, call_reprO h1 h2 h3 h4 (hp.room.mono hj) hp.gu, a', dx, gs, rfl, er1.sub _ _ m2, ap0_v hrun er1 (by rw [rl_cons]; exact ⟨_, _, rfl, hx, by rw [rl_nil]⟩) rfl⟩
        | _ => unfold RunAt at g1; simp only [q] at g1
      | exc x o => unfold RunAt at g1; simp only [q] at g1
      | bad => unfold RunAt at g1; simp only [q] at g1
    · rw [if_neg hc] at g1
      exact plain2 g1
  | _ => exact plain2 g1
end
theorem RpF.none {K : PySem.W.Frag} {mg : Str → Option Value} {F : Hp} {m : Str} : ∀ {fs : List (Str × D)} {gs : List (Str × V)}, RpF K mg F fs gs → fs.lookup m = none → gs.lookup m = none
  | [], gs, h, _ => by unfold RpF at h; subst h; rfl
  | (g, d) :: fs, gs, h, n => by
    unfold RpF at h
    obtain ⟨v, vs, rfl, _, h⟩ := h
    rw [List.lookup_cons] at n ⊢
    cases q : m == g with
    | true => rw [q] at n; cases n
    | false => rw [q] at n; exact RpF.none h n
structure OwnK (X : Cx) (k : Nat) (c : Str) (C : Addr) (m : Str) (n : Nat) (ps : List Str) (f : Fnc) : Prop where
  cl : Cl X c C
  ex : ∃ fa fd, Meth X.K C m fa ∧ FnG X.prog X.w X.K X.mg X.base k fa fd ps (spF0 X.K X.mg false n f) ∧ Binds X.K fd ps []
theorem OwnK.m {X : Cx} {k : Nat} {c : Str} {C : Addr} {m : Str} {n : Nat} {ps : List Str} {f : Fnc} (h : OwnK X k c C m n ps f) : OwnM X k c C m n ps f := by
  obtain ⟨fa, fd, h1, h2, h3⟩ := h.ex
  exact ⟨h.cl, fa, fd, h1.at_, h1.fn, h2, h3⟩
def isO (c m : Str) : D → Option Unit
  | .obj c' fs => if c' = c ∧ (fs.lookup m).isNone = true then some () else none
  | _ => none
def mMe (c m : Str) (f : Fnc) (mo : M D) (ms : M (List D)) : M D := bnd mo fun d => bnd (opt (isO c m d)) fun _ => bnd ms fun ds => ap0 f (d :: ds)
def mMe0 (c m : Str) (f : Fnc) (mo : M D) : M D := bnd mo fun d => bnd (opt (isO c m d)) fun _ => ap0 f [d]
section
variable {X : Cx} {T : Pn} {W : WX} {pos apos : Pos} {o e : Expr} {es : List Expr} {mo : M D} {ms : M (List D)} {k j n : Nat} {c m : Str} {C : Addr} {ps : List Str} {f : Fnc}
theorem isO_ok {K : PySem.W.Frag} {mg : Str → Option Value} {H F : Hp} {d : D} {x : V} {u : Unit} (hc : mg c = some (.ref C)) (s : Same F H) (hx : Rp K mg F d x) (h : isO c m d = some u) : ∃ a dx gs, x = .ref a ∧ H a = some (.ins C dx gs) ∧ gs.lookup m = none := by
  cases d with
  | obj c' fs =>
    simp only [isO] at h
    split at h
    · rename_i hh
      obtain ⟨rfl, hn⟩ := hh
      rw [rp_obj] at hx
      obtain ⟨a, C', dx, gs, rfl, m1, m2, m3⟩ := hx
      rw [hc] at m1; cases m1
      exact ⟨a, dx, gs, rfl, s _ _ m2, RpF.none m3 (Option.isNone_iff_eq_none.mp hn)⟩
    · cases h
  | _ => cases h
def tMethG (C : Addr) (m : Str) (sp : Sp) (W : WX) (ta : TE) (t : TA) : TE := fun σ H Q => ta σ H fun x H1 => ∃ a dx fs, x = .ref a ∧ H1 a = some (.ins C dx fs) ∧ fs.lookup m = none ∧ t σ H1 fun vs H2 => sp (.ref a :: vs) H2 Q (WE W σ)
theorem pe_methG {ta : TE} {t : TA} {sp : Sp} {fa : Addr} {fd : FuncData} {pl : Sem Bool} (he : PE X o ta) (cl : Cls X.K C) (hm : Meth X.K C m fa) (G : FnG X.prog X.w X.K X.mg X.base k fa fd ps sp) (hr : Room k X.A) (hgu : X.A.guards = some []) (hb : Binds X.K fd ps []) (tk : Takes X W) (ha : PA X (e :: es) t)
    (hst : starEach (e :: es) X.env = (false, eval e X.env) :: starEach es X.env := by rfl) (hpl : (backTo pos (starEach es X.env)).any (·.1) = false := by rfl)
    (ht : eval (.Call (.Attribute o m apos) (e :: es) [] pos) X.env = (do
      let ov ← eval o X.env
      standAt apos.atName
      let (f, first) ← holding [ov] (getMethod ov m pl)
      callWith pos f first (backTo pos (starEach (e :: es) X.env)) (backToKw pos (keywordEach [] X.env))) := by rfl) :
    PE X (.Call (.Attribute o m apos) (e :: es) [] pos) (tMethG C m sp W ta t) := by
  refine ⟨fun pins s σ H Q I h => ?_⟩
  refine PySem.W.methodCall_KW (pl := pl) (thn (he.run pins s σ H _ I h) fun u s1 ⟨x, H1, I1, rx, a, dx, fs, ex, ea, l, q⟩ => ?_) ht
  subst ex
  obtain rfl : u = Value.ref a := rx
  refine getmeth_ok I1 ea cl hm l ?_
  refine PySem.W.callWith_K (first := [.ref a]) (h₀ := X.base) I.ok.mod.kin hm.kp (thn (ha.run pos pins s1 σ H1 _ I1 q) fun us s2 ⟨vs, H2, I2, r, q2⟩ => ⟨I2.kIn, ?_⟩) hst hpl
  have r2 : Vals (V.ref a :: vs) (Value.ref a :: us) := .cons (show RelV (V.ref a) (Value.ref a) from rfl) r
  exact run_gA G hr hgu rfl hb tk I2 r2 q2
theorem pe_methG0 {ta : TE} {sp : Sp} {fa : Addr} {fd : FuncData} {pl : Sem Bool} (he : PE X o ta) (cl : Cls X.K C) (hm : Meth X.K C m fa) (G : FnG X.prog X.w X.K X.mg X.base k fa fd ps sp) (hr : Room k X.A) (hgu : X.A.guards = some []) (hb : Binds X.K fd ps []) (tk : Takes X W)
    (ht : eval (.Call (.Attribute o m apos) [] [] pos) X.env = (do
      let ov ← eval o X.env
      standAt apos.atName
      let (f, first) ← holding [ov] (getMethod ov m pl)
      callWith pos f first (backTo pos (starEach [] X.env)) (backToKw pos (keywordEach [] X.env))) := by rfl) :
    PE X (.Call (.Attribute o m apos) [] [] pos) (tMethG C m sp W ta tNil) := by
  refine ⟨fun pins s σ H Q I h => ?_⟩
  refine PySem.W.methodCall_KW (pl := pl) (thn (he.run pins s σ H _ I h) fun u s1 ⟨x, H1, I1, rx, a, dx, fs, ex, ea, l, q⟩ => ?_) ht
  subst ex
  obtain rfl : u = Value.ref a := rx
  refine getmeth_ok I1 ea cl hm l ?_
  have r2 : Vals [V.ref a] [Value.ref a] := .cons (show RelV (V.ref a) (Value.ref a) from rfl) .nil
  exact PySem.W.callWith_K0 (first := [.ref a]) I1.kIn hm.kp (run_gA G hr hgu rfl hb tk I1 r2 q)
theorem jv_me {pl : Sem Bool} (O : OwnK X k c C m n ps f) (hp : Pl X j) (tk : Takes X W) (ho : JV X T W o mo) (ha : JL X T W (e :: es) ms) (hj : k ≤ j := by decide) (hn : (e :: es).length + 1 = n := by rfl)
    (hst : starEach (e :: es) X.env = (false, eval e X.env) :: starEach es X.env := by rfl) (hpl : (backTo pos (starEach es X.env)).any (·.1) = false := by rfl)
    (ht : eval (.Call (.Attribute o m apos) (e :: es) [] pos) X.env = (do
      let ov ← eval o X.env
      standAt apos.atName
      let (f, first) ← holding [ov] (getMethod ov m pl)
      callWith pos f first (backTo pos (starEach (e :: es) X.env)) (backToKw pos (keywordEach [] X.env))) := by rfl) :
    JV X T W (.Call (.Attribute o m apos) (e :: es) [] pos) (mMe c m f mo ms) := by
  obtain ⟨fa, fd, hm, G, hb⟩ := O.ex
  refine PEimp (pe_methG (pl := pl) ho O.cl.cl hm G (hp.room.mono hj) hp.gu hb tk ha.ja hst hpl ht) fun σ H Q ⟨e0, F, er, h⟩ => ⟨e0, F, er, h.bind.mono fun d e1 H1 F1 er1 mv1 h1 v hv => ?_⟩
  obtain ⟨u, hu, fin⟩ := h1.bind.fin er1
  have h2 := fin H1 F1 Al.refl
  obtain ⟨a, dx, gs, rfl, q1, q2⟩ := isO_ok O.cl.mg er1.sub hv hu
  refine ⟨a, dx, gs, rfl, q1, q2, e1, F1, er1, ?_⟩
  have hb2 := h2.bind
  unfold RunAt at hb2 ⊢
  cases q : ms e1 with
  | ok ds e2 =>
    rw [q] at hb2
    intro H2 F2 er2 mv2 vs hvs
    exact ap0_v (hb2 H2 F2 er2 mv2) er2 (by rw [rl_cons]; exact ⟨_, _, rfl, Rp.mono mv2.sub _ _ hv, hvs⟩) (by rw [List.length_cons, ha.ln ds e1 e2 q]; exact hn)
  | exc x e2 => rw [q] at hb2; exact hb2
  | bad => rw [q] at hb2; exact hb2
theorem jv_me0 {pl : Sem Bool} (O : OwnK X k c C m 1 ps f) (hp : Pl X j) (tk : Takes X W) (ho : JV X T W o mo) (hj : k ≤ j := by decide)
    (ht : eval (.Call (.Attribute o m apos) [] [] pos) X.env = (do
      let ov ← eval o X.env
      standAt apos.atName
      let (f, first) ← holding [ov] (getMethod ov m pl)
      callWith pos f first (backTo pos (starEach [] X.env)) (backToKw pos (keywordEach [] X.env))) := by rfl) :
    JV X T W (.Call (.Attribute o m apos) [] [] pos) (mMe0 c m f mo) := by
  obtain ⟨fa, fd, hm, G, hb⟩ := O.ex
  refine PEimp (pe_methG0 (pl := pl) ho O.cl.cl hm G (hp.room.mono hj) hp.gu hb tk ht) fun σ H Q ⟨e0, F, er, h⟩ => ⟨e0, F, er, h.bind.mono fun d e1 H1 F1 er1 mv1 h1 v hv => ?_⟩
  obtain ⟨u, hu, fin⟩ := h1.bind.fin er1
  have h2 := fin H1 F1 Al.refl
  obtain ⟨a, dx, gs, rfl, q1, q2⟩ := isO_ok O.cl.mg er1.sub hv hu
  exact ⟨a, dx, gs, rfl, q1, q2, ap0_v h2 er1 (by rw [rl_cons]; exact ⟨_, _, rfl, hv, by rw [rl_nil]⟩) rfl⟩
end
end Sr
namespace Sr
open PySem hiding start
open PySem.Spec L2
open PyProof.Rows hiding St
section
variable {X : Cx} {T : Pn} {W : WX} {pos : Pos}
theorem jo_dnewK : JO X T W (.Dict [] [] pos) (ret (.dk [])) := by
  refine PEimp pe_dnewK fun σ H Q ⟨e, F, er, h⟩ => fun p hp => ?_
  have np : ¬ Ow e σ p := Ow.ne_of_free er hp
  have fp : F p = none := er.sub.free hp
  exact h (upd H p (.dK [])) F (er.updFree fp np) (Mv.refl.updNew hp) p hp fp np ⟨[], upd_same, by unfold RpK; rfl⟩
theorem jo_dnewT : JO X T W (.Dict [] [] pos) (ret (.dt [])) := by
  refine PEimp pe_dnewT fun σ H Q ⟨e, F, er, h⟩ => fun p hp => ?_
  have np : ¬ Ow e σ p := Ow.ne_of_free er hp
  have fp : F p = none := er.sub.free hp
  exact h (upd H p (.dT [])) F (er.updFree fp np) (Mv.refl.updNew hp) p hp fp np ⟨[], upd_same, by unfold RpT; rfl⟩
def mPs : List (M D × M D) → M (List (D × D))
  | [] => ret []
  | (a, b) :: r => bnd a fun x => bnd b fun y => bnd (mPs r) fun ps => ret ((x, y) :: ps)
def RpP (K : PySem.W.Frag) (mg : Str → Option Value) (F : Hp) : List (D × D) → List (V × V) → Prop
  | [], ps => ps = []
  | (x, y) :: ds, ps => ∃ v w r, ps = (v, w) :: r ∧ Rp K mg F x v ∧ Rp K mg F y w ∧ RpP K mg F ds r
theorem ps_imp {K : PySem.W.Frag} {mg : Str → Option Value} {σ : St} : ∀ (l : List (M D × M D)) (e : En) (H F : Hp) (P : List (D × D) → En → Hp → Hp → Prop) (R : List (V × V) → Hp → Prop), ER K mg T e σ H F → RunAt K mg T W e F (mPs l) σ H P →
    (∀ ds e' H' F', ER K mg T e' σ H' F' → Mv e σ H F e' σ H' F' → P ds e' H' F' → ∀ ps, RpP K mg F' ds ps → R ps H') → tPairs (l.map fun q => (TV K mg T W q.1, TV K mg T W q.2)) σ H R
  | [], e, H, F, P, R, er, h, k => k [] e H F er Mv.refl (h H F er Mv.refl) [] rfl
  | (a, b) :: l, e, H, F, P, R, er, h, k => by
    refine ⟨e, F, er, h.bind.mono fun x e1 H1 F1 er1 mv1 h1 v hv => ⟨e1, F1, er1, h1.bind.mono fun y e2 H2 F2 er2 mv2 h2 w hw => ?_⟩⟩
    refine ps_imp l e2 H2 F2 _ _ er2 h2.bind fun ds e3 H3 F3 er3 mv3 h3 ps hps => ?_
    refine k _ e3 H3 F3 er3 ((mv1.trans mv2).trans mv3) (h3 H3 F3 er3 Mv.refl) _ ⟨v, w, ps, rfl, Rp.mono (mv2.sub.trans mv3.sub) _ _ hv, Rp.mono mv3.sub _ _ hw, hps⟩
def dKey : D → Option Key
  | .int i => some (.inl i)
  | .str z => some (.inr z)
  | _ => none
def dKeys : List (D × D) → Option (List (Key × D))
  | [] => some []
  | (x, y) :: r => match dKey x, dKeys r with
    | some k, some ks => some ((k, y) :: ks)
    | _, _ => none
def putKD (kvs : List (Key × D)) (k : Key) (v : D) : List (Key × D) :=
  if (kvs.any fun kv => decide (kv.1 = k)) = true then kvs.map (fun kv => if kv.1 = k then (kv.1, v) else kv) else kvs ++ [(k, v)]
def mergeKD (kvs more : List (Key × D)) : List (Key × D) := more.foldl (fun acc kv => putKD acc kv.1 kv.2) kvs
theorem RpK.any {K : PySem.W.Frag} {mg : Str → Option Value} {F : Hp} {k : Key} : ∀ {ds : List (Key × D)} {vs : List (Key × V)}, RpK K mg F ds vs → (ds.any fun kv => decide (kv.1 = k)) = (vs.any fun kv => decide (kv.1 = k))
  | [], vs, h => by unfold RpK at h; subst h; rfl
  | (q, d) :: ds, vs, h => by
    unfold RpK at h
    obtain ⟨v, r, rfl, _, h⟩ := h
    rw [List.any_cons, List.any_cons, RpK.any h]
theorem RpK.map {K : PySem.W.Frag} {mg : Str → Option Value} {F : Hp} {k : Key} {d : D} {v : V} (hv : Rp K mg F d v) : ∀ {ds : List (Key × D)} {vs : List (Key × V)}, RpK K mg F ds vs → RpK K mg F (ds.map fun kv => if kv.1 = k then (kv.1, d) else kv) (vs.map fun kv => if kv.1 = k then (kv.1, v) else kv)
  | [], vs, h => by unfold RpK at h; subst h; unfold RpK; rfl
  | (q, x) :: ds, vs, h => by
    unfold RpK at h
    obtain ⟨w, r, rfl, hw, h⟩ := h
    rw [List.map_cons, List.map_cons]
    by_cases hq : q = k
    · simp only [hq, if_true]
      unfold RpK
      exact ⟨v, _, rfl, hv, RpK.map hv h⟩
    · simp only [hq, if_false]
      unfold RpK
      exact ⟨w, _, rfl, hw, RpK.map hv h⟩
theorem RpK.snoc {K : PySem.W.Frag} {mg : Str → Option Value} {F : Hp} {k : Key} {d : D} {v : V} (hv : Rp K mg F d v) : ∀ {ds : List (Key × D)} {vs : List (Key × V)}, RpK K mg F ds vs → RpK K mg F (ds ++ [(k, d)]) (vs ++ [(k, v)])
  | [], vs, h => by unfold RpK at h; subst h; unfold RpK; exact ⟨v, [], rfl, hv, by unfold RpK; rfl⟩
  | (q, x) :: ds, vs, h => by
    unfold RpK at h
    obtain ⟨w, r, rfl, hw, h⟩ := h
    rw [List.cons_append, List.cons_append]
    unfold RpK
    exact ⟨w, _, rfl, hw, RpK.snoc hv h⟩
theorem RpK.put {K : PySem.W.Frag} {mg : Str → Option Value} {F : Hp} {k : Key} {d : D} {v : V} (hv : Rp K mg F d v) {ds : List (Key × D)} {vs : List (Key × V)} (h : RpK K mg F ds vs) : RpK K mg F (putKD ds k d) (putK vs k v) := by
  unfold putKD putK
  rw [RpK.any h]
  split
  · exact RpK.map hv h
  · exact RpK.snoc hv h
theorem keys_ok {K : PySem.W.Frag} {mg : Str → Option Value} {F : Hp} : ∀ {ds : List (D × D)} {ks : List (Key × D)} {ps : List (V × V)}, dKeys ds = some ks → RpP K mg F ds ps → ∃ kvs : List (Key × V), ps = kvs.map (fun kv => (kV kv.1, kv.2)) ∧ RpK K mg F ks kvs
  | [], ks, ps, h, r => by cases h; unfold RpP at r; subst r; exact ⟨[], rfl, by unfold RpK; rfl⟩
  | (x, y) :: ds, ks, ps, h, r => by
    unfold RpP at r
    obtain ⟨v, w, ps', rfl, hx, hy, r⟩ := r
    unfold dKeys at h
    cases q1 : dKey x with
    | none => simp only [q1] at h; cases h
    | some k =>
      cases q2 : dKeys ds with
      | none => simp only [q1, q2] at h; cases h
      | some ks' =>
        simp only [q1, q2] at h
        cases h
        obtain ⟨kvs, rfl, hk⟩ := keys_ok q2 r
        refine ⟨(k, w) :: kvs, ?_, by unfold RpK; exact ⟨w, _, rfl, hy, hk⟩⟩
        rw [List.map_cons]
        congr 2
        cases x with
        | int i => cases q1; rw [rp_int] at hx; exact hx
        | str z => cases q1; rw [rp_str] at hx; exact hx
        | _ => cases q1
theorem RpK.merge {K : PySem.W.Frag} {mg : Str → Option Value} {F : Hp} : ∀ {more : List (Key × D)} {mv : List (Key × V)} {ds : List (Key × D)} {vs : List (Key × V)}, RpK K mg F more mv → RpK K mg F ds vs → RpK K mg F (mergeKD ds more) (mergeK vs mv)
  | [], mv, ds, vs, h, r => by unfold RpK at h; subst h; exact r
  | (k, d) :: more, mv, ds, vs, h, r => by
    unfold RpK at h
    obtain ⟨w, ms, rfl, hw, h⟩ := h
    show RpK K mg F (mergeKD (putKD ds k d) more) (mergeK (putK vs k w) ms)
    exact RpK.merge h (r.put hw)
def gDisp (ds : List (D × D)) : Option D := match dKeys ds with
  | some ks => if ks.length ≤ 15 then some (.dk (mergeKD [] ks)) else none
  | none => none
def mDisp (l : List (M D × M D)) : M D := bnd (mPs l) fun ds => opt (gDisp ds)
def JPs (X : Cx) (T : Pn) (W : WX) (pos : Pos) (keys : List (Option Expr)) (values : List Expr) (l : List (M D × M D)) : Prop := PPs X pos keys values (l.map fun q => (TV X.K X.mg T W q.1, TV X.K X.mg T W q.2))
theorem jps_nil : JPs X T W pos [] [] [] := pps_nil
theorem jps_cons {k v : Expr} {ks : List (Option Expr)} {vs : List Expr} {mk mv : M D} {l : List (M D × M D)} (hk : JV X T W k mk) (hv : JV X T W v mv) (hr : JPs X T W pos ks vs l) : JPs X T W pos (some k :: ks) (v :: vs) ((mk, mv) :: l) := pps_cons hk hv hr
theorem jo_disp {keys : List (Option Expr)} {values : List Expr} {l : List (M D × M D)} (h : JPs X T W pos keys values l) (hall : keys.all (·.isSome) = true := by rfl) (hl : keys.length = values.length := by rfl) (h0 : keys ≠ [] := by intro z; cases z) (h15 : keys.length ≤ 15 := by decide) :
    JO X T W (.Dict keys values pos) (mDisp l) := by
  refine PEimp (pe_disp h hall hl h0 h15) fun σ H Q ⟨e, F, er, h⟩ => fun p hp => ?_
  have np : ¬ Ow e σ p := Ow.ne_of_free er hp
  have fp : F p = none := er.sub.free hp
  have er0 : ER X.K X.mg T e σ (upd H p (.dK [])) F := er.updFree fp np
  have hb : RunAt X.K X.mg T W e F (mPs l) σ (upd H p (.dK [])) fun ds e1 H1 F1 => Mv e σ (upd H p (.dK [])) F e1 σ H1 F1 ∧ ∃ d, gDisp ds = some d ∧ ∀ H' F', ER X.K X.mg T e1 σ H' F' → Mv e σ H F e1 σ H' F' → ∀ q, H q = none → F' q = none → ¬ Ow e1 σ q → OwnAt X.K X.mg H' F' q d → Q (.ref q) H' := by
    unfold RunAt mDisp bnd at h
    unfold RunAt
    cases q : mPs l e with
    | ok ds e1 =>
      rw [q] at h
      intro H1 F1 er1 mv1
      dsimp only at h
      unfold opt at h
      cases qd : gDisp ds with
      | none => simp only [qd] at h
      | some d =>
        simp only [qd] at h
        exact ⟨mv1, d, rfl, fun H' F' er' mv' => h H' F' er' mv'⟩
    | exc x e1 =>
      rw [q] at h
      intro H1 F1 cl dd er1 mv1 xr
      exact h H1 F1 cl dd er1 ((Mv.refl.updNew (o := .dK []) hp).trans mv1) xr
    | bad => rw [q] at h; exact h
  refine ps_imp l e _ F _ _ er0 hb fun ds e1 H1 F1 er1 mv1 ⟨_, d, hd, fin⟩ ps hps => ?_
  obtain ⟨k1, k2⟩ := mv1.keep p _ upd_same np
  have f1 : F1 p = none := by
    cases z : F1 p with
    | none => rfl
    | some u =>
      rcases mv1.new p u z with z | z | z
      · rw [fp] at z; cases z
      · rw [upd_same] at z; cases z
      · exact (np z).elim
  unfold gDisp at hd
  split at hd
  · rename_i ks hk
    split at hd
    · rename_i hz
      cases hd
      obtain ⟨kvs, rfl, rk⟩ := keys_ok hk hps
      refine ⟨k1, kvs, rfl, by rw [← RpK.len rk]; exact hz, ?_⟩
      exact fin _ F1 (er1.updFree f1 k2) (((Mv.refl.updNew (o := .dK []) hp).trans mv1).updNew hp) p hp f1 k2 ⟨_, upd_same, RpK.merge rk (by unfold RpK; rfl)⟩
    · cases hd
  · cases hd
end
end Sr
namespace Sr
open PySem hiding start
open PySem.Spec L2
open PyProof.Rows hiding St
def notFB (K : PySem.W.Frag) (c : Str) (l : List Str) : Bool := (allKd.all fun k => PySem.W.notFirst K (He.ga K c) (.type k.nm)) && l.all fun q => PySem.W.notFirst K (He.ga K c) (.ref (He.ga K q))
theorem notF_of {K : PySem.W.Frag} {mg : Str → Option Value} {c : Str} {l : List Str} (h : notFB K c l = true) (hI : ∀ q ∈ l, ClI K mg q (He.ga K q)) : NotF K mg (He.ga K c) fun q => l.contains q := by
  unfold notFB at h
  rw [Bool.and_eq_true] at h
  refine ⟨fun k => List.all_eq_true.mp h.1 k (by cases k <;> decide), fun q hq => ?_⟩
  have hm : q ∈ l := List.contains_iff_mem.mp hq
  exact ⟨_, hI q hm, List.all_eq_true.mp h.2 q hm⟩
def neB (K : PySem.W.Frag) (c : Str) : Bool := decide (PySem.W.findIn K (.ref (He.ga K c)) "__ne__" = some (some (.builtin "object.__ne__"))) && decide (PySem.W.subIn K (.ref (He.ga K c)) (.type "object") = some true)
theorem neK_of {X : Cx} {c : Str} (h : neB X.K c = true) : NeK X (He.ga X.K c) := by
  unfold neB at h
  simp only [Bool.and_eq_true, decide_eq_true_eq] at h
  exact ⟨h.1, h.2⟩
theorem bt_ValueError : bootBuiltins "ValueError" = some (.type "ValueError") := by decide +kernel
end Sr
namespace Sr
open PySem hiding start
open PySem.Spec L2
open PyProof.Rows hiding St
def flatD : D → Bool
  | .non => true
  | .bl _ => true
  | .int _ => true
  | .str _ => true
  | _ => false
def eqF : D → D → Bool
  | .non, .non => true
  | .bl a, .bl b => a == b
  | .bl a, .int b => (if a then 1 else 0) == b
  | .int a, .bl b => a == (if b then 1 else 0)
  | .int a, .int b => a == b
  | .str a, .str b => a == b
  | _, _ => false
section
variable {K : PySem.W.Frag} {mg : Str → Option Value} {F H : Hp}
theorem flat_ok {d : D} {v : V} (r : Rp K mg F d v) (h : flatD d = true) : flatV v = true := by
  cases d <;> simp only [flatD, Bool.false_eq_true] at h
  · rw [rp_non] at r; subst r; rfl
  · rw [rp_bl] at r; subst r; rfl
  · rw [rp_int] at r; subst r; rfl
  · rw [rp_str] at r; subst r; rfl
theorem eqF_ok {d d' : D} {v v' : V} (r : Rp K mg F d v) (r' : Rp K mg F d' v') (h : flatD d = true) (h' : flatD d' = true) : eqV v v' = eqF d d' := by
  cases d <;> simp only [flatD, Bool.false_eq_true] at h <;> cases d' <;> simp only [flatD, Bool.false_eq_true] at h' <;> simp only [rp_non, rp_bl, rp_int, rp_str] at r r' <;> subst r r' <;> rfl
theorem flats_ok : ∀ {ds : List D} {vs : List V}, RpL K mg F ds vs → ds.all flatD = true → vs.all flatV = true
  | [], vs, l, _ => by rw [rl_nil] at l; subst l; rfl
  | d :: ds, vs, l, h => by
    rw [rl_cons] at l
    obtain ⟨v, vs, rfl, r, l⟩ := l
    rw [List.all_cons, Bool.and_eq_true] at h
    rw [List.all_cons, flat_ok r h.1, flats_ok l h.2]; rfl
theorem inF_ok {d : D} {v : V} (r : Rp K mg F d v) (hf : flatD d = true) : ∀ {ds : List D} {vs : List V}, RpL K mg F ds vs → ds.all flatD = true → inV v vs = ds.any fun y => eqF y d
  | [], vs, l, _ => by rw [rl_nil] at l; subst l; rfl
  | y :: ds, vs, l, h => by
    rw [rl_cons] at l
    obtain ⟨w, vs, rfl, r', l⟩ := l
    rw [List.all_cons, Bool.and_eq_true] at h
    have ih := inF_ok r hf l h.2
    unfold inV at ih ⊢
    rw [List.any_cons, List.any_cons, eqF_ok r' r h.1 hf, ih]
theorem flat_rq {d : D} {v : V} (h : flatD d = true) (r : Rq K mg H F d v) : Rp K mg F d v := by
  cases d <;> first | exact r | (simp [flatD] at h)
end
def gInL (neg : Bool) (x : D) (ds : List D) : Option D := if (flatD x && ds.all flatD) = true then some (.bl (if neg then !(ds.any fun y => eqF y x) else ds.any fun y => eqF y x)) else none
def gInG (neg : Bool) : D → D → Option D
  | .str a, .str z => match a.cps.toList with
    | [c] => some (.bl (if neg then !decide (c ∈ z.cps.toList) else decide (c ∈ z.cps.toList)))
    | _ => none
  | x, .lst ds => gInL neg x ds
  | x, .tup ds => gInL neg x ds
  | x, .ct ds => gInL neg x ds
  | _, _ => none
def gIn : D → D → Option D := gInG false
def gNotIn : D → D → Option D := gInG true
section
variable {X : Cx}
theorem str_one {a : Str} {c : Nat} (h : a.cps.toList = [c]) : a = ⟨#[c]⟩ := by
  cases a with
  | mk cps =>
    cases cps with
    | mk l => simp at h; subst h; rfl
theorem inL_imp {neg : Bool} {H F : Hp} {x : D} {ds : List D} {d : D} {vx : V} {p : Addr} {xs : List V} (s : Same F H) (r1 : Rq X.K X.mg H F x vx) (hq : SqL X.K H p xs ∨ SqT X.K H p xs) (l : RpL X.K X.mg F ds xs) (e : gInL neg x ds = some d) {Q : VK} (q : ∀ H' F' z, Al H F H' F' → Rp X.K X.mg F' d z → Q z H') : rIn X.K neg vx (.ref p) H Q := by
  unfold gInL at e
  split at e
  · rename_i h
    rw [Bool.and_eq_true] at h
    cases e
    have r := flat_rq h.1 r1
    refine ⟨p, xs, rfl, hq, flat_ok r h.1, flats_ok l h.2, ?_⟩
    rw [inF_ok r h.1 l h.2]
    exact q H F _ Al.refl (by rw [rp_bl])
  · cases e
theorem o_inG (neg : Bool) (f : Value → Value → Sem Value) (h1 : OpR X f (rIn X.K neg)) (h2 : OpR X f (fun x y H Q => ∃ (c : Nat) (z : Str), x = .str ⟨#[c]⟩ ∧ y = .str z ∧ Q (.bl (if neg then !decide (c ∈ z.cps.toList) else decide (c ∈ z.cps.toList))) H)) : Op2 X f (gInG neg) := by
  intro H F x y d1 d2 d s r1 r2 e
  have seq : ∀ ds, (∃ p xs, y = .ref p ∧ (SqL X.K H p xs ∨ SqT X.K H p xs) ∧ RpL X.K X.mg F ds xs) → gInL neg d1 ds = some d → ∃ r : R2, OpR X f r ∧ ∀ Q : VK, (∀ H' F' z, Al H F H' F' → Rp X.K X.mg F' d z → Q z H') → r x y H Q := fun ds ⟨p, xs, ey, hq, l⟩ e => by
    subst ey
    exact ⟨_, h1, fun Q q => inL_imp s r1 hq l e q⟩
  cases d2 with
  | str z =>
    cases d1 <;> simp only [gInG, reduceCtorEq] at e
    split at e
    · rename_i c hc
      cases e
      rw [rq_str] at r1 r2
      subst r1 r2
      rw [str_one hc]
      exact ⟨_, h2, fun Q q => ⟨c, z, rfl, rfl, q H F _ Al.refl (by rw [rp_bl])⟩⟩
    · cases e
  | lst ds =>
    obtain ⟨a, xs, rfl, h, l⟩ := r2
    exact seq ds ⟨a, xs, rfl, .inl (SqL.of h), l⟩ (by cases d1 <;> exact e)
  | tup ds =>
    rw [rq_tup] at r2
    obtain ⟨a, xs, rfl, h, l⟩ := r2
    exact seq ds ⟨a, xs, rfl, .inr (seqT_mono s h), l⟩ (by cases d1 <;> exact e)
  | ct ds =>
    rw [rq_ct] at r2
    obtain ⟨a, xs, rfl, h, l⟩ := r2
    exact seq ds ⟨a, xs, rfl, .inr (seqC_mono s h), l⟩ (by cases d1 <;> exact e)
  | _ => cases d1 <;> cases e
theorem o_in {k : Nat} (hp : Pl X k) : Op2 X (compareOp .In) gIn := o_inG false _ op_in_seq (by simpa using op_in_sign (X := X))
theorem o_notin {k : Nat} (hp : Pl X k) : Op2 X (compareOp .NotIn) gNotIn := o_inG true _ op_notIn_seq (by simpa using op_notIn_sign (X := X))
end
def gMulS : D → D → Option D
  | .str x, .int n => if n ≤ 100000 ∧ -100000 ≤ n ∧ x.length ≤ 100 then some (.str (Txt.mul x n)) else none
  | _, _ => none
def gMulL : D → D → Option D
  | .lst ds, .int n => if n ≤ 100000 ∧ -100000 ≤ n ∧ ds.length ≤ 100 then some (.lst (List.replicate n.toNat ds).flatten) else none
  | _, _ => none
def gMulT : D → D → Option D
  | .tup ds, .int n => if 2 ≤ n ∧ n ≤ 1000 ∧ ds.length ≤ 1000 ∧ ds ≠ [] then some (.tup (List.replicate n.toNat ds).flatten) else none
  | _, _ => none
theorem RpL.rep {K : PySem.W.Frag} {mg : Str → Option Value} {F : Hp} {ds : List D} {xs : List V} (l : RpL K mg F ds xs) : ∀ n : Nat, RpL K mg F (List.replicate n ds).flatten (List.replicate n xs).flatten
  | 0 => by simp [rl_nil]
  | n + 1 => by rw [List.replicate_succ, List.replicate_succ, List.flatten_cons, List.flatten_cons]; exact l.append (RpL.rep l n)
section
variable {X : Cx}
theorem op_mulS : OpR X (binaryOp .Mult) (fun x y H Q => ∃ a n, x = .str a ∧ y = .int n ∧ MulOk a n ∧ Q (.str (Txt.mul a n)) H) := by
  intro pins s σ H x y v u Q I rx ry h
  obtain ⟨a, n, rfl, rfl, ok, q⟩ := h
  obtain ⟨t, rfl⟩ := rx
  obtain ⟨t', rfl⟩ := ry
  refine SB.mul ok fun t k => ⟨.str _, H, I.tok _, ⟨_, rfl⟩, q⟩
theorem mulOk_of {a : Str} {n : Int} (h1 : n ≤ 100000) (h2 : -100000 ≤ n) (h3 : a.length ≤ 100) : MulOk a n := by
  refine ⟨?_, fun h _ => ?_, fun h _ => ?_⟩
  · simp; omega
  · have hn : 1 ≤ n := by omega
    have : (100 : Int) ≤ (2 ^ 63 - 1) / n := by
      rw [Int.le_ediv_iff_mul_le (by omega)]
      omega
    omega
  · unfold Builtin.Str.tooLong
    have : a.length * n.toNat ≤ 100 * 100000 := Nat.mul_le_mul h3 (by omega)
    simp
    have e : sizeLine = 16777216 := by decide
    omega
theorem o_mulS : Op2 X (binaryOp .Mult) gMulS := by
  intro H F x y d1 d2 d s r1 r2 e
  unfold gMulS at e
  split at e
  · split at e
    · rename_i h
      cases e
      rw [rq_str] at r1
      rw [rq_int] at r2
      exact ⟨_, op_mulS, fun Q q => ⟨_, _, r1, r2, mulOk_of h.1 h.2.1 h.2.2, q H F _ Al.refl (by rw [rp_str])⟩⟩
    · cases e
  · cases e
theorem o_mulL : Op2 X (binaryOp .Mult) gMulL := by
  intro H F x y d1 d2 d s r1 r2 e
  unfold gMulL at e
  split at e
  · rename_i ds n
    split at e
    · rename_i h
      cases e
      obtain ⟨a, xs, rfl, q1, l1⟩ := r1
      rw [rq_int] at r2
      refine ⟨_, op_rep, fun Q q => ⟨a, n, xs, rfl, r2, q1, by omega, by omega, ?_, fun p hp => q _ _ _ (Al.one hp) ?_⟩⟩
      · rw [← l1.len]
        have e : sizeLine = 16777216 := by decide
        have : ds.length * n.toNat ≤ 100 * 100000 := Nat.mul_le_mul h.2.2 (by omega)
        omega
      · rw [rp_lst]
        exact ⟨p, _, rfl, upd_same, RpL.mono (same_upd (s.free hp)) _ _ (l1.rep _)⟩
    · cases e
  · cases e
theorem o_mulT : Op2 X (binaryOp .Mult) gMulT := by
  intro H F x y d1 d2 d s r1 r2 e
  unfold gMulT at e
  split at e
  · rename_i ds n
    split at e
    · rename_i h
      cases e
      rw [rq_tup] at r1
      obtain ⟨a, xs, rfl, q1, l1⟩ := r1
      rw [rq_int] at r2
      refine ⟨_, op_repT, fun Q q => ⟨a, n, xs, rfl, r2, seqT_mono s q1, fun z => h.2.2.2 ?_, h.1, h.2.1, by rw [← l1.len]; exact h.2.2.1, fun p hp => q _ _ _ (Al.one hp) ?_⟩⟩
      · have := l1.len
        rw [z] at this
        exact List.eq_nil_of_length_eq_zero this
      · rw [rp_tup]
        exact ⟨p, _, rfl, upd_same, RpL.mono (same_upd (s.free hp)) _ _ (l1.rep _)⟩
    · cases e
  · cases e
def gMulA : D → D → Option D := fun a b => (gMulI a b).or ((gMulS a b).or ((gMulL a b).or (gMulT a b)))
theorem o_mulA : Op2 X (binaryOp .Mult) gMulA := o_mulI.or (o_mulS.or (o_mulL.or o_mulT))
end
section
variable {X : Cx}
def gTuple : D → Option D
  | .lst ds => some (.tup ds)
  | .tup ds => some (.tup ds)
  | _ => none
theorem c_tuple : Cal1 X (.type "tuple") gTuple := by
  intro H F x d d' s r e
  cases d <;> simp only [gTuple, reduceCtorEq, Option.some.injEq] at e <;> subst e
  · obtain ⟨a, xs, rfl, h, l⟩ := r
    refine ⟨_, call_tuple_of, fun Q q => ⟨a, xs, rfl, .inl ⟨SqL.of h, fun p hp => q _ _ _ (Al.one hp) ?_⟩⟩⟩
    rw [rp_tup]
    exact ⟨p, xs, rfl, upd_same, RpL.mono (same_upd (s.free hp)) _ _ l⟩
  · rw [rq_tup] at r
    obtain ⟨a, xs, rfl, h, l⟩ := r
    refine ⟨_, call_tuple_of, fun Q q => ⟨a, xs, rfl, .inr ⟨seqT_mono s h, q H F _ Al.refl ?_⟩⟩⟩
    rw [rp_tup]
    exact ⟨a, xs, rfl, h, l⟩
def gList : D → Option D
  | .lst ds => some (.lst ds)
  | .tup ds => some (.lst ds)
  | _ => none
theorem c_list : Cal1 X (.type "list") gList := by
  intro H F x d d' s r e
  have fin : ∀ {ds : List D} {a : Addr} {xs : List V}, RpL X.K X.mg F ds xs → (SqL X.K H a xs ∨ SqT X.K H a xs) → ∃ r, CallR X (.type "list") r ∧ ∀ Q : VK, (∀ H' F' z, Al H F H' F' → Rp X.K X.mg F' (.lst ds) z → Q z H') → r [.ref a] H Q := fun {ds a xs} l h =>
    ⟨_, call_list_of, fun Q q => ⟨a, xs, rfl, h, fun p hp => q _ _ _ (Al.one hp) (by rw [rp_lst]; exact ⟨p, xs, rfl, upd_same, RpL.mono (same_upd (s.free hp)) _ _ l⟩)⟩⟩
  cases d <;> simp only [gList, reduceCtorEq, Option.some.injEq] at e <;> subst e
  · obtain ⟨a, xs, rfl, h, l⟩ := r
    exact fin l (.inl (SqL.of h))
  · rw [rq_tup] at r
    obtain ⟨a, xs, rfl, h, l⟩ := r
    exact fin l (.inr (seqT_mono s h))
def dBools : List D → Option (List Bool)
  | [] => some []
  | .bl b :: ds => (dBools ds).map (b :: ·)
  | _ :: _ => none
theorem dBools_vals {K : PySem.W.Frag} {mg : Str → Option Value} {F : Hp} : ∀ {ds : List D} {bs : List Bool} {xs : List V}, dBools ds = some bs → RpL K mg F ds xs → xs = bs.map V.bl
  | [], ys, xs, h, l => by cases h; rw [rl_nil] at l; exact l
  | d :: ds, ys, xs, h, l => by
    cases d with
    | bl z =>
      simp only [dBools, Option.map_eq_some_iff] at h
      obtain ⟨ys', h1, rfl⟩ := h
      rw [rl_cons] at l
      obtain ⟨v, vs, rfl, l1, l2⟩ := l
      rw [rp_bl] at l1
      rw [l1, dBools_vals h1 l2]; rfl
    | _ => cases h
def gAll : D → Option D
  | .lst ds => (dBools ds).map fun bs => .bl (bs.all id)
  | _ => none
def gAny : D → Option D
  | .lst ds => (dBools ds).map fun bs => .bl (bs.any id)
  | _ => none
theorem c_all (hc : X.calm = true) : Cal1 X (.builtin "all") gAll := by
  intro H F x d d' s r e
  cases d <;> simp only [gAll, reduceCtorEq] at e
  rw [Option.map_eq_some_iff] at e
  obtain ⟨bs, hb, rfl⟩ := e
  obtain ⟨a, xs, rfl, h, l⟩ := r
  rw [dBools_vals hb l] at h
  exact ⟨_, cr_all hc, fun Q q => ⟨a, bs, rfl, SqL.of h, q H F _ Al.refl (by rw [rp_bl])⟩⟩
theorem c_any (hc : X.calm = true) : Cal1 X (.builtin "any") gAny := by
  intro H F x d d' s r e
  cases d <;> simp only [gAny, reduceCtorEq] at e
  rw [Option.map_eq_some_iff] at e
  obtain ⟨bs, hb, rfl⟩ := e
  obtain ⟨a, xs, rfl, h, l⟩ := r
  rw [dBools_vals hb l] at h
  exact ⟨_, cr_any hc, fun Q q => ⟨a, bs, rfl, SqL.of h, q H F _ Al.refl (by rw [rp_bl])⟩⟩
end
end Sr
namespace Sr
open PySem hiding start
open PySem.Spec L2
open PyProof.Rows hiding St
section
variable {κ : Type} [DecidableEq κ]
def valD (kvs : List (κ × D)) (k : κ) : Option D := (kvs.find? fun kv => decide (kv.1 = k)).map (·.2)
def putG (kvs : List (κ × D)) (k : κ) (v : D) : List (κ × D) :=
  if (kvs.any fun kv => decide (kv.1 = k)) = true then kvs.map (fun kv => if kv.1 = k then (kv.1, v) else kv) else kvs ++ [(k, v)]
end
def dKeyL : List D → Option (List Key)
  | [] => some []
  | d :: ds => match dKey d, dKeyL ds with
    | some k, some ks => some (k :: ks)
    | _, _ => none
section
variable {K : PySem.W.Frag} {mg : Str → Option Value} {F H : Hp}
theorem dKey_ok {d : D} {k : Key} {v : V} (h : dKey d = some k) (r : Rp K mg F d v) : v = kV k := by
  cases d with
  | int i => cases h; rw [rp_int] at r; exact r
  | str z => cases h; rw [rp_str] at r; exact r
  | _ => cases h
theorem dKeyL_ok : ∀ {ds : List D} {ks : List Key} {xs : List V}, dKeyL ds = some ks → RpL K mg F ds xs → xs = ks.map kV
  | [], ks, xs, h, l => by cases h; rw [rl_nil] at l; exact l
  | d :: ds, ks, xs, h, l => by
    rw [rl_cons] at l
    obtain ⟨v, vs, rfl, r, l⟩ := l
    unfold dKeyL at h
    cases q1 : dKey d with
    | none => simp only [q1] at h; cases h
    | some k =>
      cases q2 : dKeyL ds with
      | none => simp only [q1, q2] at h; cases h
      | some ks' =>
        simp only [q1, q2] at h
        cases h
        rw [dKey_ok q1 r, dKeyL_ok q2 l]; rfl
def opR (K : PySem.W.Frag) (mg : Str → Option Value) (F : Hp) : Option D → Option V → Prop
  | none, none => True
  | some d, some v => Rp K mg F d v
  | _, _ => False
theorem RpK.val {k : Key} : ∀ {ds : List (Key × D)} {vs : List (Key × V)}, RpK K mg F ds vs → opR K mg F (valD ds k) (valV vs k)
  | [], vs, h => by unfold RpK at h; subst h; exact trivial
  | (q, d) :: ds, vs, h => by
    unfold RpK at h
    obtain ⟨v, r, rfl, hv, h⟩ := h
    have ih := RpK.val (k := k) h
    unfold valD valV at ih ⊢
    rw [List.find?_cons, List.find?_cons]
    by_cases hq : q = k
    · simp only [hq, decide_true]; exact hv
    · simp only [hq, decide_false]; exact ih
theorem RpT.val {k : List Key} : ∀ {ds : List (List Key × D)} {vs : List (List Key × V)}, RpT K mg F ds vs → opR K mg F (valD ds k) (valV vs k)
  | [], vs, h => by unfold RpT at h; subst h; exact trivial
  | (q, d) :: ds, vs, h => by
    unfold RpT at h
    obtain ⟨v, r, rfl, hv, h⟩ := h
    have ih := RpT.val (k := k) h
    unfold valD valV at ih ⊢
    rw [List.find?_cons, List.find?_cons]
    by_cases hq : q = k
    · simp only [hq, decide_true]; exact hv
    · simp only [hq, decide_false]; exact ih
theorem RpT.any {k : List Key} : ∀ {ds : List (List Key × D)} {vs : List (List Key × V)}, RpT K mg F ds vs → (ds.any fun kv => decide (kv.1 = k)) = (vs.any fun kv => decide (kv.1 = k))
  | [], vs, h => by unfold RpT at h; subst h; rfl
  | (q, d) :: ds, vs, h => by
    unfold RpT at h
    obtain ⟨v, r, rfl, _, h⟩ := h
    rw [List.any_cons, List.any_cons, RpT.any h]
theorem RpT.map {k : List Key} {d : D} {v : V} (hv : Rp K mg F d v) : ∀ {ds : List (List Key × D)} {vs : List (List Key × V)}, RpT K mg F ds vs → RpT K mg F (ds.map fun kv => if kv.1 = k then (kv.1, d) else kv) (vs.map fun kv => if kv.1 = k then (kv.1, v) else kv)
  | [], vs, h => by unfold RpT at h; subst h; unfold RpT; rfl
  | (q, x) :: ds, vs, h => by
    unfold RpT at h
    obtain ⟨w, r, rfl, hw, h⟩ := h
    rw [List.map_cons, List.map_cons]
    by_cases hq : q = k
    · simp only [hq, if_true]
      unfold RpT
      exact ⟨v, _, rfl, hv, RpT.map hv h⟩
    · simp only [hq, if_false]
      unfold RpT
      exact ⟨w, _, rfl, hw, RpT.map hv h⟩
theorem RpT.snoc {k : List Key} {d : D} {v : V} (hv : Rp K mg F d v) : ∀ {ds : List (List Key × D)} {vs : List (List Key × V)}, RpT K mg F ds vs → RpT K mg F (ds ++ [(k, d)]) (vs ++ [(k, v)])
  | [], vs, h => by unfold RpT at h; subst h; unfold RpT; exact ⟨v, [], rfl, hv, by unfold RpT; rfl⟩
  | (q, x) :: ds, vs, h => by
    unfold RpT at h
    obtain ⟨w, r, rfl, hw, h⟩ := h
    rw [List.cons_append, List.cons_append]
    unfold RpT
    exact ⟨w, _, rfl, hw, RpT.snoc hv h⟩
theorem RpT.put {k : List Key} {d : D} {v : V} (hv : Rp K mg F d v) {ds : List (List Key × D)} {vs : List (List Key × V)} (h : RpT K mg F ds vs) : RpT K mg F (putG ds k d) (putK vs k v) := by
  unfold putG putK
  rw [RpT.any h]
  split
  · exact RpT.map hv h
  · exact RpT.snoc hv h
theorem RpK.putg {k : Key} {d : D} {v : V} (hv : Rp K mg F d v) {ds : List (Key × D)} {vs : List (Key × V)} (h : RpK K mg F ds vs) : RpK K mg F (putG ds k d) (putK vs k v) := RpK.put hv h
theorem RpT.len : ∀ {ds : List (List Key × D)} {xs : List (List Key × V)}, RpT K mg F ds xs → ds.length = xs.length
  | [], xs, h => by unfold RpT at h; subst h; rfl
  | (k, d) :: ds, xs, h => by unfold RpT at h; obtain ⟨v, vs, rfl, _, q⟩ := h; rw [List.length_cons, List.length_cons, q.len]
end
def gDat : D → D → Option (Option D)
  | .dk kvs, k => (dKey k).map (valD kvs)
  | .dt kvs, .tup ks => (dKeyL ks).map (valD kvs)
  | _, _ => none
theorem dget_ok {K : PySem.W.Frag} {mg : Str → Option Value} {F H : Hp} {d k : D} {x y : V} {o : Option D} (s : Same F H) (r : Rq K mg H F d x) (rk : Rp K mg F k y) (h : gDat d k = some o) : ∃ a ov, x = .ref a ∧ DGet H a y ov ∧ opR K mg F o ov := by
  cases d with
  | dk kvs =>
    have h : (dKey k).map (valD kvs) = some o := by cases k <;> exact h
    rw [Option.map_eq_some_iff] at h
    obtain ⟨ky, hk, rfl⟩ := h
    obtain ⟨a, xs, rfl, q, l⟩ := r
    rw [dKey_ok hk rk]
    exact ⟨a, _, rfl, .inl ⟨xs, ky, .inl q, rfl, rfl⟩, l.val⟩
  | dt kvs =>
    cases k with
    | tup ks =>
      simp only [gDat] at h
      rw [Option.map_eq_some_iff] at h
      obtain ⟨ky, hk, rfl⟩ := h
      obtain ⟨a, xs, rfl, q, l⟩ := r
      rw [rp_tup] at rk
      obtain ⟨b, ys, rfl, hb, lk⟩ := rk
      rw [dKeyL_ok hk lk] at hb
      exact ⟨a, _, rfl, .inr ⟨xs, ky, b, .inl q, rfl, s _ _ hb, rfl⟩, l.val⟩
    | _ => cases h
  | _ => cases k <;> cases h
def gDg (d k : D) : Option D := (gDat d k).bind id
def gDin (k d : D) : Option D := (gDat d k).map fun o => .bl o.isSome
def gDnot (k d : D) : Option D := (gDat d k).map fun o => .bl (!o.isSome)
section
variable {X : Cx} {T : Pn} {W : WX} {pos : Pos} {a b : Expr} {ma mb : M D} {m1 : M Bv} {k : Nat}
theorem opR_some {K : PySem.W.Frag} {mg : Str → Option Value} {F : Hp} {o : Option D} {ov : Option V} (h : opR K mg F o ov) : o.isSome = ov.isSome := by
  cases o <;> cases ov <;> first | rfl | exact h.elim
theorem jv_dgetB (hp : Pl X k) (ha : JB X T W a m1) (hb : JV X T W b mb) (hs : NoSl b := by intro _ _; rfl) : JV X T W (.Subscript a b pos) (m2b gDg m1 mb) := by
  refine PEimp (pe_dget hp.u1 ha hb hs) fun σ H Q ⟨e, F, er, h⟩ => ⟨e, F, er, h.bind.mono fun b1 e1 H1 F1 er1 mv1 h1 v hv => ⟨e1, F1, er1, h1.bind.mono fun d2 e2 H2 F2 er2 mv2 h2 w hw => ?_⟩⟩
  obtain ⟨d1, r1, h3⟩ := der_fin h2.bind er2 (hv.mono mv2.sub)
  obtain ⟨z, hz, fin⟩ := h3.fin er2
  unfold gDg at hz
  rw [Option.bind_eq_some_iff] at hz
  obtain ⟨o, ho, rfl⟩ := hz
  obtain ⟨p, ov, rfl, g, ro⟩ := dget_ok er2.sub r1 hw ho
  cases ov with
  | none => exact ro.elim
  | some u => exact ⟨p, u, rfl, g, fin H2 F2 Al.refl u ro⟩
theorem jv_dget (hp : Pl X k) (ha : JV X T W a ma) (hb : JV X T W b mb) (hs : NoSl b := by intro _ _; rfl) : JV X T W (.Subscript a b pos) (m2 gDg ma mb) := by
  refine PEimp (pe_dget hp.u1 ha hb hs) fun σ H Q ⟨e, F, er, h⟩ => ⟨e, F, er, h.bind.mono fun d1 e1 H1 F1 er1 mv1 h1 v hv => ⟨e1, F1, er1, h1.bind.mono fun d2 e2 H2 F2 er2 mv2 h2 w hw => ?_⟩⟩
  obtain ⟨z, hz, fin⟩ := h2.fin er2
  unfold gDg at hz
  rw [Option.bind_eq_some_iff] at hz
  obtain ⟨o, ho, rfl⟩ := hz
  obtain ⟨p, ov, rfl, g, ro⟩ := dget_ok er2.sub (Rp.rq er2.sub (Rp.mono mv2.sub _ _ hv)) hw ho
  cases ov with
  | none => exact ro.elim
  | some u => exact ⟨p, u, rfl, g, fin H2 F2 Al.refl u ro⟩
theorem op_dIn (hu : X.A.units + 1 < cLine) : OpR X (compareOp .In) (fun y x H Q => ∃ a o, x = .ref a ∧ DGet H a y o ∧ Q (.bl o.isSome) H) := by
  intro pins s σ H y x iv u Q I ry rx h
  obtain ⟨a, o, rfl, g, q⟩ := h
  obtain rfl : u = Value.ref a := rx
  exact d_in hu I g ry fun s3 I3 => ⟨.bl o.isSome, H, I3, rfl, q⟩
theorem op_dNotIn (hu : X.A.units + 1 < cLine) : OpR X (compareOp .NotIn) (fun y x H Q => ∃ a o, x = .ref a ∧ DGet H a y o ∧ Q (.bl (!o.isSome)) H) := by
  intro pins s σ H y x iv u Q I ry rx h
  obtain ⟨a, o, rfl, g, q⟩ := h
  obtain rfl : u = Value.ref a := rx
  exact d_notIn hu I g ry fun s3 I3 => ⟨.bl (!o.isSome), H, I3, rfl, q⟩
def dKy : D → Bool
  | .int _ => true
  | .str _ => true
  | .tup _ => true
  | _ => false
theorem ky_rp {K : PySem.W.Frag} {mg : Str → Option Value} {F H : Hp} {k d : D} {y : V} {o : Option D} (h : gDat d k = some o) (r : Rq K mg H F k y) : Rp K mg F k y := by
  cases k with
  | int i => exact r
  | str i => exact r
  | tup i => exact r
  | _ => cases d <;> simp [gDat, dKey] at h
theorem o_din (hp : Pl X k) : Op2 X (compareOp .In) gDin := by
  intro H F x y d1 d2 d s r1 r2 e
  unfold gDin at e
  rw [Option.map_eq_some_iff] at e
  obtain ⟨o, ho, rfl⟩ := e
  obtain ⟨p, ov, rfl, g, ro⟩ := dget_ok s r2 (ky_rp ho r1) ho
  exact ⟨_, op_dIn hp.u1, fun Q q => ⟨p, ov, rfl, g, q H F _ Al.refl (by rw [rp_bl, opR_some ro])⟩⟩
theorem o_dnot (hp : Pl X k) : Op2 X (compareOp .NotIn) gDnot := by
  intro H F x y d1 d2 d s r1 r2 e
  unfold gDnot at e
  rw [Option.map_eq_some_iff] at e
  obtain ⟨o, ho, rfl⟩ := e
  obtain ⟨p, ov, rfl, g, ro⟩ := dget_ok s r2 (ky_rp ho r1) ho
  exact ⟨_, op_dNotIn hp.u1, fun Q q => ⟨p, ov, rfl, g, q H F _ Al.refl (by rw [rp_bl, opR_some ro])⟩⟩
def isDct : D → Bool
  | .dk _ => true
  | .dt _ => true
  | _ => false
def chkD (i : Nat) : M Unit := fun e => match e[i]? with
  | some (.own d) => if isDct d = true then .ok () e else .bad
  | _ => .bad
def gPutD (d k v : D) : Option D := match d, k with
  | .dk kvs, k => if kvs.length < sizeLine then (dKey k).map fun q => .dk (putG kvs q v) else none
  | .dt kvs, .tup ks => if kvs.length < sizeLine then (dKeyL ks).map fun q => .dt (putG kvs q v) else none
  | _, _ => none
def putDD (i : Nat) (k v : D) : M Fl := fun e => match e[i]? with
  | some (.own d) => match gPutD d k v with
    | some d' => .ok .nx (e.set i (.own d'))
    | none => .bad
  | _ => .bad
def sPutD (i : Nat) (mi m : M D) : M Fl := bnd m fun d => bnd (chkD i) fun _ => bnd mi fun k => putDD i k d
theorem js_dput {i : Nat} {x : Str} {pn ps : Pos} {mi : M D} (hp : Pl X k) (hN : X.N[i]? = some x) (hv : Vis X.env.scope x) (ha : JV X T W a ma) (hi : JV X T W b mi)
    (hd : (x == ("__debug__" : Str)) = false := by decide) (hcd : (x == ("__classdict__" : Str)) = false := by decide)
    (hs : swapsWith a (some (.Subscript (.Name x pn) b ps)) pos.line X.env = pure false := by rfl) :
    JS X T W (.Assign [.Subscript (.Name x pn) b ps] a pos) (sPutD i mi ma) := by
  refine PSimp (ps_dput hp.u1 (pe_var hN hv hd hcd) hi ha hs) fun Dn σ H ⟨e, F, er, h⟩ => ⟨e, F, er, h.bind.mono fun d e1 H1 F1 er1 mv1 h3 v hv => ?_⟩
  cases q : e1[i]? with
  | none => unfold RunS bnd chkD at h3; rw [q] at h3; exact h3.elim
  | some sl =>
    cases sl with
    | no => unfold RunS bnd chkD at h3; rw [q] at h3; exact h3.elim
    | val d => unfold RunS bnd chkD at h3; rw [q] at h3; exact h3.elim
    | own dd =>
      by_cases hdc : isDct dd = true
      · have h4 : RunS X.K X.mg T W e1 F1 (bnd mi fun k => putDD i k d) σ H1 Dn := h3.after (by unfold bnd chkD; rw [q]; simp only [hdc, if_true]) Mv.refl
        obtain ⟨p, g1, _, _⟩ := er1.own i _ q
        refine ⟨_, g1, e1, F1, er1, h4.bind.mono fun ky e2 H2 F2 er2 mv2 h5 w hw => ?_⟩
        unfold RunS putDD at h5
        cases q2 : e2[i]? with
        | none => simp only [q2] at h5
        | some sl2 =>
          cases sl2 with
          | no => simp only [q2] at h5
          | val d => simp only [q2] at h5
          | own d2 =>
            simp only [q2] at h5
            cases q3 : gPutD d2 ky d with
            | none => simp only [q3] at h5
            | some d3 =>
              simp only [q3] at h5
              obtain ⟨p', g2, g3, g4⟩ := er2.own i _ q2
              rw [g1] at g2; cases g2
              have hvv := Rp.mono mv2.sub _ _ hv
              cases d2 with
              | dk kvs =>
                have q3' : (if kvs.length < sizeLine then (dKey ky).map fun q => D.dk (putG kvs q d) else none) = some d3 := by cases ky <;> exact q3
                split at q3'
                · rename_i hz
                  rw [Option.map_eq_some_iff] at q3'
                  obtain ⟨kk, hk, rfl⟩ := q3'
                  obtain ⟨xs, g5, g6⟩ := g4
                  rw [dKey_ok hk hw]
                  obtain ⟨er3, mv3⟩ := er2.put (o := .dK (putK xs kk v)) (d' := .dk (putG kvs kk d)) q2 g1 ⟨_, upd_same, RpK.putg hvv g6⟩
                  exact ⟨p, _, rfl, .inl ⟨xs, kk, g5, rfl, by rw [← RpK.len g6]; exact hz, rfl⟩, h5 σ _ F2 er3 mv3⟩
                · cases q3'
              | dt kvs =>
                cases ky with
                | tup ks =>
                  simp only [gPutD] at q3
                  split at q3
                  · rename_i hz
                    rw [Option.map_eq_some_iff] at q3
                    obtain ⟨kk, hk, rfl⟩ := q3
                    obtain ⟨xs, g5, g6⟩ := g4
                    rw [rp_tup] at hw
                    obtain ⟨c, ys, rfl, hc, lk⟩ := hw
                    rw [dKeyL_ok hk lk] at hc
                    obtain ⟨er3, mv3⟩ := er2.put (o := .dT (putK xs kk v)) (d' := .dt (putG kvs kk d)) q2 g1 ⟨_, upd_same, RpT.put hvv g6⟩
                    exact ⟨p, _, rfl, .inr ⟨xs, kk, c, g5, rfl, er2.sub _ _ hc, by rw [← RpT.len g6]; exact hz, rfl⟩, h5 σ _ F2 er3 mv3⟩
                  · cases q3
                | _ => cases q3
              | _ => cases ky <;> cases q3
      · unfold RunS bnd chkD at h3; rw [q] at h3; simp only [hdc] at h3; exact h3.elim
def gLenT : D → Option D
  | .dt ds => some (.int ds.length)
  | _ => none
theorem c_lenT : Cal1 X (.builtin "len") gLenT := by
  intro H F x d d' s r e
  cases d <;> simp only [gLenT, reduceCtorEq] at e
  cases e
  obtain ⟨a, xs, rfl, q, l⟩ := r
  exact ⟨_, call_len_dT, fun Q qq => ⟨a, xs, rfl, q, qq H F _ Al.refl (by rw [rp_int, l.len])⟩⟩
theorem Cal1.or {f : Value} {g g' : D → Option D} (h : Cal1 X f g) (h' : Cal1 X f g') : Cal1 X f (fun a => (g a).or (g' a)) := by
  intro H F x d z s r e
  cases q : g d with
  | some w => simp only [q, Option.some_or] at e; cases e; exact h H F x d _ s r q
  | none => simp only [q, Option.none_or] at e; exact h' H F x d z s r e
def gLenA : D → Option D := fun d => (gLen d).or (gLenT d)
theorem c_lenA : Cal1 X (.builtin "len") gLenA := c_len.or c_lenT
end
section
variable {X : Cx} {T : Pn} {W : WX} {pos tpos p : Pos} {a b : Expr} {elts : List Expr} {kk : Nat} {ms : M (List D)}
def enumL (ds : List D) : List D := ds.zipIdx.map fun q => .tup [.int (q.2 : Nat), q.1]
def gEnum : List D → Option (List D)
  | [.lst ds] => some (enumL ds)
  | _ => none
def mEnum (ms : M (List D)) : M (List D) := bnd ms fun ds => opt (gEnum ds)
theorem walks_pair {K : PySem.W.Frag} {mg : Str → Option Value} {F : Hp} {J : It} {ds : List D} {G : Hp → Prop} {xs ys : Nat → Option V} {n : Nat} (w : Walk J n G (YPair xs ys)) (hn : ds.length = n) (hG : ∀ H, Same F H → G H)
    (hd : ∀ i x y, i < n → xs i = some x → ys i = some y → ∃ d1 d2, ds[i]? = some (.tup [d1, d2]) ∧ Rp K mg F d1 x ∧ Rp K mg F d2 y) : Walks K mg J ds F := by
  refine ⟨G, _, by rw [hn]; exact w, hG, fun i H1 F1 x H2 hi s1 s2 y => ?_⟩
  obtain ⟨Ta, u, v, rfl, hT, rfl, h1, h2⟩ := y
  obtain ⟨d1, d2, h3, h4, h5⟩ := hd i u v (by rw [← hn]; exact hi) h1 h2
  have s3 : Same F1 (upd F1 Ta (.tup [u, v])) := same_upd (s2.free hT)
  refine ⟨_, _, Al.one hT, h3, ?_⟩
  rw [rp_tup]
  refine ⟨Ta, _, rfl, upd_same, ?_⟩
  rw [rl_cons]
  refine ⟨u, [v], rfl, Rp.mono (s1.trans s3) _ _ h4, ?_⟩
  rw [rl_cons]
  exact ⟨v, [], rfl, Rp.mono (s1.trans s3) _ _ h5, by rw [rl_nil]⟩
theorem RpL.getV {K : PySem.W.Frag} {mg : Str → Option Value} {F : Hp} : ∀ {ds : List D} {xs : List V} {i : Nat} {v : V}, RpL K mg F ds xs → xs[i]? = some v → ∃ d, ds[i]? = some d ∧ Rp K mg F d v
  | [], xs, i, v, l, h => by rw [rl_nil] at l; subst l; simp at h
  | d :: ds, xs, i, v, l, h => by
    rw [rl_cons] at l
    obtain ⟨w, vs, rfl, r, l⟩ := l
    cases i with
    | zero => simp at h; subst h; exact ⟨d, rfl, r⟩
    | succ i => simp at h; obtain ⟨d', h1, h2⟩ := RpL.getV l h; exact ⟨d', by simpa using h1, h2⟩
theorem ji_enum (hg : Gl X "enumerate") (hm : X.mg "enumerate" = none) (ha : JA X T W [a] ms) (hs : starEach [a] X.env = [(false, eval a X.env)] := by rfl) : JI X T W (.Tuple elts kk tpos) (.Call (.Name "enumerate" p) [a] [] pos) (mEnum ms) := by
  refine PIimp (pi_enum hg hm ha hs) fun σ H R ⟨e, F, er, h⟩ => ⟨e, F, er, h.bind.mono fun ds e1 H1 F1 er1 mv1 h1 vs hvs => ?_⟩
  obtain ⟨z, hz, fin⟩ := h1.fin er1
  unfold gEnum at hz
  split at hz
  · rename_i ds'
    cases hz
    obtain ⟨v, rfl, r⟩ := rl_one hvs
    rw [rp_lst] at r
    obtain ⟨l, xs, rfl, hl, rl⟩ := r
    refine ⟨l, xs, rfl, SqL.of (er1.sub _ _ hl), fin H1 F1 Al.refl _ ?_⟩
    refine walks_pair (walk_enum (K := X.K) (a := l) (xs := xs)) (by unfold enumL; rw [List.length_map, List.length_zipIdx]; exact rl.len) (fun H s => SqL.of (s _ _ hl)) fun i x y hi h1 h2 => ?_
    cases h1
    obtain ⟨d, h3, h4⟩ := rl.getV h2
    refine ⟨.int (i : Nat), d, ?_, by rw [rp_int], h4⟩
    unfold enumL
    rw [List.getElem?_map, List.getElem?_zipIdx, h3]; simp
  · cases hz
def zipL : List D → List D → List D
  | x :: xs, y :: ys => .tup [x, y] :: zipL xs ys
  | _, _ => []
theorem zipL_len : ∀ (xs ys : List D), (zipL xs ys).length = min xs.length ys.length
  | [], ys => by simp [zipL]
  | x :: xs, [] => by simp [zipL]
  | x :: xs, y :: ys => by simp [zipL, zipL_len xs ys]
theorem zipL_get : ∀ {xs ys : List D} {i : Nat} {x y : D}, xs[i]? = some x → ys[i]? = some y → (zipL xs ys)[i]? = some (.tup [x, y])
  | [], ys, i, x, y, h, _ => by simp at h
  | _ :: _, [], i, x, y, _, h => by simp at h
  | u :: xs, v :: ys, 0, x, y, h1, h2 => by simp at h1 h2; subst h1 h2; rfl
  | u :: xs, v :: ys, i + 1, x, y, h1, h2 => by simp at h1 h2; simpa [zipL] using zipL_get h1 h2
def gZip : List D → Option (List D)
  | [.lst ds, .lst es] => some (zipL ds es)
  | _ => none
def mZip (ms : M (List D)) : M (List D) := bnd ms fun ds => opt (gZip ds)
theorem ji_zip (hg : Gl X "zip") (hm : X.mg "zip" = none) (ha : JA X T W [a, b] ms) (hs : starEach [a, b] X.env = (false, eval a X.env) :: starEach [b] X.env := by rfl) (hpl : (backTo pos (starEach [b] X.env)).any (·.1) = false := by rfl) : JI X T W (.Tuple elts kk tpos) (.Call (.Name "zip" p) [a, b] [] pos) (mZip ms) := by
  refine PIimp (pi_zip hg hm ha hs hpl) fun σ H R ⟨e, F, er, h⟩ => ⟨e, F, er, h.bind.mono fun ds e1 H1 F1 er1 mv1 h1 vs hvs => ?_⟩
  obtain ⟨z, hz, fin⟩ := h1.fin er1
  unfold gZip at hz
  split at hz
  · rename_i ds' es'
    cases hz
    obtain ⟨v, w, rfl, r, r'⟩ := rl_two hvs
    rw [rp_lst] at r r'
    obtain ⟨l, xs, rfl, hl, rl⟩ := r
    obtain ⟨l', ys, rfl, hl', rl'⟩ := r'
    refine ⟨l, l', xs, ys, rfl, SqL.of (er1.sub _ _ hl), SqL.of (er1.sub _ _ hl'), fin H1 F1 Al.refl _ ?_⟩
    refine walks_pair (walk_zip (K := X.K) (a := l) (b := l') (xs := xs) (ys := ys) rfl) (by rw [zipL_len, rl.len, rl'.len]) (fun H s => ⟨SqL.of (s _ _ hl), SqL.of (s _ _ hl')⟩) fun i x y hi h1 h2 => ?_
    obtain ⟨d, h3, h4⟩ := rl.getV h1
    obtain ⟨d', h5, h6⟩ := rl'.getV h2
    exact ⟨d, d', zipL_get h3 h5, h4, h6⟩
  · cases hz
end
def distinct (ns : List Int) : Nat := (PyProof.Rows.firstMet (fun i => ns.getD i 0) ns.length).length
section
variable {X : Cx} {T : Pn} {W : WX} {a : Expr} {p p2 q pos : Pos} {m1 : M Bv}
def tLenSet (K : PySem.W.Frag) (ta : TE) : TE := fun σ H Q => ta σ H fun x H1 => ∃ (l : Addr) (ns : List Int), x = .ref l ∧ SqL K H1 l (ns.map V.int) ∧ ns.length ≤ 4000 ∧ Q (.int (distinct ns : Nat)) H1
theorem firstMet_le (f : Nat → Int) : ∀ n, (PyProof.Rows.firstMet f n).length ≤ n
  | 0 => by simp [PyProof.Rows.firstMet]
  | n + 1 => by
    rw [PyProof.Rows.firstMet_succ]
    have := firstMet_le f n
    unfold PyProof.Rows.step_dedup
    split
    · omega
    · rw [List.length_append, List.length_singleton]; omega
theorem pe_lenSet {ta : TE} (hg : Gl X "len") (hm : X.mg "len" = none) (hg2 : Gl X "set") (hm2 : X.mg "set" = none) (ha : PE X a ta) (hc : X.calm = true := by rfl)
    (na : starEach [a] X.env = (false, eval a X.env) :: starEach [] X.env := by rfl) : PE X (.Call (.Name "len" p) [.Call (.Name "set" p2) [a] [] q] [] pos) (tLenSet X.K ta) := by
  refine ⟨fun pins s σ H Q I h => ?_⟩
  refine Call_ (ld_blt I hg hm boot_len ?_)
  refine PyProof.Rows.callWith_builtin1 (PyProof.Rows.args_cons ?_ rfl) rfl rfl
  refine Call_ (ld_blt I hg2 hm2 boot_set ?_)
  refine PyProof.Rows.callWith_type1 (PyProof.Rows.args_cons (thn (ha.run pins s σ H _ I h) fun v s1 ⟨x, H1, I1, r1, q1⟩ => PyProof.Rows.args_nil ?_) na) na rfl
  obtain ⟨l, ns, rfl, hq, hl, q1⟩ := q1
  cases r1
  obtain ⟨its, r, pl, hz⟩ := I1.list hq
  have hlen : its.toArray.size = ns.length := by rw [List.size_toArray, ← r.length, List.length_map]
  refine call_set_list (I1.ok.hd hc) pl.isList (by simpa using RZ.intsAre_vals r) (by rw [hlen]; unfold scanBound; omega) fun h' tk hS hk => ?_
  refine PyProof.Rows.args_nil ?_
  rw [hlen] at hS
  have hle := firstMet_le (fun i => ns.getD i 0) ns.length
  obtain ⟨o, es, ep, t, ho, hex, hd, _, _, _, hf, hn⟩ := hS
  have I2 : Inv X pins σ H1 { s1 with heap := h', toks := tk } := I1.kept fun b o e => hk b o (Heap.lt_size e) e
  exact call_len_set ho hex hd hf (by rw [hn] <;> omega) ⟨.int (distinct ns : Nat), H1, I2.tok _, ⟨_, by rw [hn]; rfl⟩, q1⟩
def gLenSet : D → Option D
  | .lst ds => match dInts ds with
    | some ns => if ns.length ≤ 4000 then some (.int (distinct ns : Nat)) else none
    | none => none
  | _ => none
theorem jv_lenSet (hg : Gl X "len") (hm : X.mg "len" = none) (hg2 : Gl X "set") (hm2 : X.mg "set" = none) (ha : JB X T W a m1) (hc : X.calm = true := by rfl)
    (na : starEach [a] X.env = (false, eval a X.env) :: starEach [] X.env := by rfl) : JV X T W (.Call (.Name "len" p) [.Call (.Name "set" p2) [a] [] q] [] pos) (mCal1 gLenSet m1) := by
  refine PEimp (pe_lenSet hg hm hg2 hm2 ha hc na) fun σ H Q ⟨e, F, er, h⟩ => ⟨e, F, er, h.bind.mono fun b e1 H1 F1 er1 mv1 h1 v hv => ?_⟩
  obtain ⟨d, r1, h3⟩ := der_fin h1.bind er1 hv
  obtain ⟨z, hz, fin⟩ := h3.fin er1
  cases d with
  | lst ds =>
    simp only [gLenSet] at hz
    split at hz
    · rename_i ns hns
      split at hz
      · rename_i hl
        cases hz
        obtain ⟨l, xs, rfl, hl', rl⟩ := r1
        rw [dInts_eq hns] at rl
        rw [rl.ints] at hl'
        exact ⟨l, ns, rfl, SqL.of hl', hl, fin H1 F1 Al.refl _ (by rw [rp_int])⟩
      · cases hz
    · cases hz
  | _ => cases hz
end
section
variable {X : Cx} {T : Pn} {W : WX} {a : Expr} {pos pos' : Pos} {ma : M D}
def Ip2 (X : Cx) (op : Operator) (g : D → D → Option D) : Prop :=
  ∀ (H F : Hp) (x y : V) (d1 d2 d : D), Same F H → Rp X.K X.mg F d1 x → Rp X.K X.mg F d2 y → g d1 d2 = some d →
    ∃ r : R2, OpR X (inplaceOp op) r ∧ ∀ Q : VK, (∀ H' F' z, Al H F H' F' → Rp X.K X.mg F' d z → Q z H') → r x y H Q
end
end Sr
namespace Sr
open PySem hiding start
open PySem.Spec L2
open PyProof.Rows hiding St
theorem callWith_O {M : Model} {A : Around} {E : Value → Shared → Prop} {s : Shared} {pos : Pos} {x : Addr} {first : List Value} {Q : Value → Shared → Prop} {args : List (Bool × Sem Value)} {keywords : List (Option Str × Sem Value)} (hplain : (args.any (·.1) || keywords.any (·.1.isNone)) = false)
    (h : wpAny M A (evalArgs (.ref x) true args keywords) (fun a s₁ => (∃ ox C od, PySem.W.InstAt s₁.heap x ox C od ∧ ox.data = .plain) ∧ wpAny M A (call (.ref x) (first ++ a.pos) a.kw) Q E s₁) E s) : wpAny M A (callWith pos (.ref x) first args keywords) Q E s := by
  unfold callWith
  refine wpAny_bind (wpAny_holding (wpAny_mono h (fun a s₁ h₁ => wpAny_bind (wpAny_standAt ?_)) fun _ _ y => y))
  obtain ⟨⟨ox, C, od, J, hd⟩, h₂⟩ := h₁
  have L := PySem.W.kco_keeper (M := M) J hd
  simp only [hplain]
  refine wpAny_bind (L.here ?_)
  have tail : ∀ {t : Sem Value}, wpAny M A t Q E s₁ → wpAny M A (t >>= fun r => holding [r] point >>= fun _ => pure r) Q E s₁ :=
    fun ht => wpAny_bind (wpAny_mono ht (fun r s₂ hr => wpAny_bind (wpAny_holding (wpAny_point (wpAny_pure hr)))) fun _ _ y => y)
  exact tail (wpAny_operateT h₂)
section
variable {X : Cx} {T : Pn} {W : WX} {pos p apos : Pos} {o e : Expr} {es : List Expr} {mo : M D} {ms : M (List D)} {k j n : Nat} {c m : Str} {C : Addr} {ps : List Str} {f : Fnc}
def tCallO (C : Addr) (sp : Sp) (W : WX) (ta : TE) (t : TA) : TE := fun σ H Q => ta σ H fun x H1 => ∃ a dx fs, x = .ref a ∧ H1 a = some (.ins C dx fs) ∧ t σ H1 fun vs H2 => (∃ dx fs, H2 a = some (.ins C dx fs)) ∧ sp (.ref a :: vs) H2 Q (WE W σ)
theorem run_callO {sp : Sp} {fa a dx : Addr} {fd : FuncData} {fs : List (Str × V)} {pins : List (Addr × Obj)} {s : Shared} {σ : St} {H : Hp} {us : List Value} {vs : List V} {Q : VK} (hs : PySem.W.findIn X.K (.ref C) "__call__" = some (some (.ref fa))) (hf : PySem.W.isFn X.K (.ref fa) = true) (hfn : PySem.W.fnIn X.K fa = true) (G : FnG X.prog X.w X.K X.mg X.base k fa fd ps sp) (hr : Room (k + 1) X.A) (hgu : X.A.guards = some []) (hb : Binds X.K fd ps []) (tk : Takes X W)
    (I : Inv X pins σ H s) (r : Vals vs us) (ha : H a = some (.ins C dx fs)) (q : sp (.ref a :: vs) H Q (WE W σ)) : wpAny (model X.prog X.w) X.A (call (.ref a) us) (EP X pins σ Q) X.xe s := by
  obtain ⟨mA, J, _⟩ := ins_get I.hok ha
  obtain ⟨od, J, _⟩ := J.look
  have r2 : Vals (V.ref a :: vs) (Value.ref a :: us) := .cons (show RelV (V.ref a) (Value.ref a) from rfl) r
  have hl : (Value.ref a :: us).length = ps.length := by rw [← r2.length]; exact G.len _ _ _ _ q
  have hbb := hb s (Value.ref a :: us) I.kIn (by rw [List.append_nil]; exact hl)
  rw [List.append_nil] at hbb
  refine wpAny_call (PySem.W.kco_code I.kIn J rfl hs hf hfn (codeAny_mono (G.run X.A X.stack s H _ _ _ Q _ (hr.mono (Nat.le_succ k)) hgu I.env0 hbb r2 q) fun r s' hq => ?_))
  match r, hq with
  | .error e, hq => exact passAt tk σ pins H s e s' I hq
  | .ok (.ret u), hq => exact I.after hq
  | .ok .next, hq => exact hq.elim
  | .ok .brk, hq => exact hq.elim
  | .ok .cont, hq => exact hq.elim
theorem pe_callO {ta : TE} {t : TA} {sp : Sp} {fa : Addr} {fd : FuncData} (he : PE X o ta) (hs : PySem.W.findIn X.K (.ref C) "__call__" = some (some (.ref fa))) (hf : PySem.W.isFn X.K (.ref fa) = true) (hfn : PySem.W.fnIn X.K fa = true) (G : FnG X.prog X.w X.K X.mg X.base k fa fd ps sp) (hr : Room (k + 1) X.A) (hgu : X.A.guards = some []) (hb : Binds X.K fd ps []) (tk : Takes X W) (ha : PA X (e :: es) t)
    (hst : starEach (e :: es) X.env = (false, eval e X.env) :: starEach es X.env := by rfl) (hpl : (backTo pos (starEach es X.env)).any (·.1) = false := by rfl)
    (ht : eval (.Call o (e :: es) [] pos) X.env = (do callWith pos (← eval o X.env) [] (backTo pos (starEach (e :: es) X.env)) (backToKw pos (keywordEach [] X.env))) := by rfl) :
    PE X (.Call o (e :: es) [] pos) (tCallO C sp W ta t) := by
  refine ⟨fun pins s σ H Q I h => ?_⟩
  refine Call_ (thn (he.run pins s σ H _ I h) fun u s1 ⟨x, H1, I1, rx, a, dx, fs, ex, ea, q⟩ => ?_) ht
  subst ex
  obtain rfl : u = Value.ref a := rx
  obtain ⟨mA, J, _⟩ := ins_get I1.hok ea
  obtain ⟨od, J, _⟩ := J.look
  rw [hst]
  refine callWith_O (first := []) (by show ((false || (backTo pos (starEach es X.env)).any (·.1)) || false) = false; rw [hpl]; rfl) (Calls.evalArgs_plain ?_)
  have ha2 := ha.run pos pins s1 σ H1 _ I1 q
  rw [hst] at ha2
  refine thn ha2 fun us s2 ⟨vs, H2, I2, r, ⟨dx2, fs2, ea2⟩, q2⟩ => ⟨?_, run_callO hs hf hfn G hr hgu hb tk I2 r ea2 q2⟩
  obtain ⟨mA2, J2, _⟩ := ins_get I2.hok ea2
  obtain ⟨od2, J2, _⟩ := J2.look
  exact ⟨_, _, _, J2, rfl⟩
structure OwnC (X : Cx) (k : Nat) (c : Str) (C : Addr) (n : Nat) (ps : List Str) (f : Fnc) : Prop where
  cl : Cl X c C
  ex : ∃ fa fd, Meth X.K C "__call__" fa ∧ PySem.W.fnIn X.K fa = true ∧ FnG X.prog X.w X.K X.mg X.base k fa fd ps (spF0 X.K X.mg false n f) ∧ Binds X.K fd ps []
def isI (c : Str) : D → Option Unit
  | .obj c' _ => if c' = c then some () else none
  | _ => none
theorem isI_ok {K : PySem.W.Frag} {mg : Str → Option Value} {H F : Hp} {d : D} {x : V} {u : Unit} (hc : mg c = some (.ref C)) (s : Same F H) (hx : Rp K mg F d x) (h : isI c d = some u) : ∃ a dx gs, x = .ref a ∧ H a = some (.ins C dx gs) := by
  cases d with
  | obj c' fs =>
    simp only [isI] at h
    split at h
    · rename_i hh
      subst hh
      rw [rp_obj] at hx
      obtain ⟨a, C', dx, gs, rfl, m1, m2, m3⟩ := hx
      rw [hc] at m1; cases m1
      exact ⟨a, dx, gs, rfl, s _ _ m2⟩
    · cases h
  | _ => cases h
def mCallO (c : Str) (f : Fnc) (mo : M D) (ms : M (List D)) : M D := bnd mo fun d => bnd (opt (isI c d)) fun _ => bnd ms fun ds => ap0 f (d :: ds)
theorem jv_callO (O : OwnC X k c C n ps f) (hp : Pl X j) (tk : Takes X W) (ho : JV X T W o mo) (ha : JL X T W (e :: es) ms) (hj : k + 1 ≤ j := by decide) (hn : (e :: es).length + 1 = n := by rfl)
    (hst : starEach (e :: es) X.env = (false, eval e X.env) :: starEach es X.env := by rfl) (hpl : (backTo pos (starEach es X.env)).any (·.1) = false := by rfl)
    (ht : eval (.Call o (e :: es) [] pos) X.env = (do callWith pos (← eval o X.env) [] (backTo pos (starEach (e :: es) X.env)) (backToKw pos (keywordEach [] X.env))) := by rfl) :
    JV X T W (.Call o (e :: es) [] pos) (mCallO c f mo ms) := by
  obtain ⟨fa, fd, hm, hfn, G, hb⟩ := O.ex
  refine PEimp (pe_callO ho hm.at_ hm.fn hfn G (hp.room.mono hj) hp.gu hb tk ha.ja hst hpl ht) fun σ H Q ⟨e0, F, er, h⟩ => ⟨e0, F, er, h.bind.mono fun d e1 H1 F1 er1 mv1 h1 v hv => ?_⟩
  obtain ⟨u, hu, fin⟩ := h1.bind.fin er1
  have h2 := fin H1 F1 Al.refl
  obtain ⟨a, dx, gs, rfl, q1⟩ := isI_ok O.cl.mg er1.sub hv hu
  refine ⟨a, dx, gs, rfl, q1, e1, F1, er1, ?_⟩
  have hb2 := h2.bind
  unfold RunAt at hb2 ⊢
  cases q : ms e1 with
  | ok ds e2 =>
    rw [q] at hb2
    intro H2 F2 er2 mv2 vs hvs
    have hv2 := Rp.mono mv2.sub _ _ hv
    obtain ⟨a', dx', gs', ea', q2⟩ := isI_ok O.cl.mg er2.sub hv2 hu
    cases ea'
    exact ⟨⟨dx', gs', q2⟩, ap0_v (hb2 H2 F2 er2 mv2) er2 (by rw [rl_cons]; exact ⟨_, _, rfl, hv2, hvs⟩) (by rw [List.length_cons, ha.ln ds e1 e2 q]; exact hn)⟩
  | exc x e2 => rw [q] at hb2; exact hb2
  | bad => rw [q] at hb2; exact hb2
end
structure SMet (K : PySem.W.Frag) (C : Addr) (mc : Value) (m : Str) (p g : Addr) : Prop where
  rd : ClX.CRead K C mc
  at_ : PySem.W.findCls K (.ref C) mc m = some (.get (.builtin "staticmethod.__get__") (.ref p) .none (.ref C))
  rc : ∃ rest, PySem.W.recIn K p "staticmethod" = some (.ref g :: rest)
  kp : PySem.W.keepIn K (.ref g) = true
section
variable {X : Cx} {T : Pn} {W : WX} {pos p apos : Pos} {e : Expr} {es : List Expr} {kws : List Keyword} {ms mk : M (List D)} {k j n np : Nat} {c m : Str} {C : Addr} {ps ks : List Str} {f : Fnc} {gV : List V → List V → List V} {gD : List D → List D → List D} {ro : Bool}
structure StM (X : Cx) (k : Nat) (c : Str) (C : Addr) (m : Str) (sp : Sp) (ps : List Str) (n : Nat) (ks : List Str) (gV : List V → List V → List V) : Prop where
  mg : X.mg c = some (.ref C)
  ex : ∃ mc p fa fd g, SMet X.K C mc m p fa ∧ FnG X.prog X.w X.K X.mg X.base k fa fd ps sp ∧ KBn X.K fd ps n ks g gV
def mSt (f : Fnc) (gD : List D → List D → List D) (ms mk : M (List D)) : M D := bnd ms fun ds => bnd mk fun es => ap0 f (gD ds es)
theorem run_kb {pins : List (Addr × Obj)} {σ : St} {H : Hp} {s : Shared} {Q : VK} {us ws : List Value} {vs zs : List V} {fa : Addr} {fd : FuncData} {sp : Sp} {g : List Value → List Value → List Value} (G : FnG X.prog X.w X.K X.mg X.base k fa fd ps sp) (hr : Room k X.A) (hgu : X.A.guards = some []) (hb : KBn X.K fd ps n ks g gV) (tk : Takes X W)
    (I : Inv X pins σ H s) (r : Vals vs us) (rz : Vals zs ws) (l1 : vs.length = n) (l2 : zs.length = ks.length) (h : sp (gV vs zs) H Q (WE W σ)) : wpAny (model X.prog X.w) X.A (call (.ref fa) us (ks.zip ws)) (EP X pins σ Q) X.xe s := by
  refine wpAny_call (codeAny_mono (G.run X.A X.stack s H ⟨us, ks.zip ws⟩ (g us ws) _ Q _ hr hgu I.env0 (hb.to _ _ ws I.kIn (r.length.symm.trans l1) (rz.length.symm.trans l2)) (hb.rel r rz) h) fun r s' hq => ?_)
  match r, hq with
  | .error e, hq => exact passAt tk σ pins H s e s' I hq
  | .ok (.ret u), hq => exact I.after hq
  | .ok .next, hq => exact hq.elim
  | .ok .brk, hq => exact hq.elim
  | .ok .cont, hq => exact hq.elim
theorem jv_st {pl : Sem Bool} (G : StM X k c C m (spF0 X.K X.mg false np f) ps n ks gV) (hp : Pl X j) (tk : Takes X W) (hg : Gl X c) (ha : JL X T W (e :: es) ms) (hkw : JK X T W kws mk)
    (hrel : ∀ (ds es : List D) (vs zs : List V) (F : Hp), RpL X.K X.mg F ds vs → RpL X.K X.mg F es zs → ds.length = n → es.length = ks.length → RpL X.K X.mg F (gD ds es) (gV vs zs) ∧ (gD ds es).length = np)
    (hj : k ≤ j := by decide) (hn : (e :: es).length = n := by rfl) (hkl : kws.length = ks.length := by rfl)
    (hall : (backToKw pos (keywordEach kws X.env)).all (·.1.isSome) = true := by rfl) (hks : (backToKw pos (keywordEach kws X.env)).filterMap (·.1) = ks := by rfl) (hdb : (c == ("__debug__" : Str)) = false := by decide)
    (he : starEach (e :: es) X.env = (false, eval e X.env) :: starEach es X.env := by rfl) (hpl : ((backTo pos (starEach (e :: es) X.env)).any (·.1) || (backToKw pos (keywordEach kws X.env)).any (·.1.isNone)) = false := by rfl)
    (ht : eval (.Call (.Attribute (.Name c p) m apos) (e :: es) kws pos) X.env = (do
      let ov ← eval (.Name c p) X.env
      standAt apos.atName
      let (f, first) ← holding [ov] (getMethod ov m pl)
      callWith pos f first (backTo pos (starEach (e :: es) X.env)) (backToKw pos (keywordEach kws X.env))) := by rfl) :
    JV X T W (.Call (.Attribute (.Name c p) m apos) (e :: es) kws pos) (mSt f gD ms mk) := by
  obtain ⟨mc, rp, fa, fd, g, S, F0, hb⟩ := G.ex
  refine ⟨fun pins s σ H Q I h => ?_⟩
  obtain ⟨e0, F, er, h⟩ := h
  refine PySem.W.methodCall_KW (pl := pl) (ld_glob I hg G.mg ?_ hdb) ht
  obtain ⟨rest, hrc⟩ := S.rc
  refine PySem.W.method_cls I.kIn S.rd.ga (PySem.W.cls_bind I.kIn S.rd.rd S.at_ (wpAny_call (PySem.W.sm_get (s := { s with toks := s.toks + 1 }) I.kIn hrc (PySem.W.handed_on rfl ?_))))
  have I0 : Inv X pins σ H { s with toks := s.toks + 1 } := I.tok _
  refine PySem.W.callWith_KW (h₀ := X.base) (first := []) I.ok.mod.kin S.kp hall (thn (ha.ja.run pos pins _ σ H (fun vs H1 => TAs X.K X.mg T W mk σ H1 fun zs H2 => vs.length = n ∧ zs.length = ks.length ∧ spF0 X.K X.mg false np f (gV vs zs) H2 Q (WE W σ)) I0 ?_) fun us s1 ⟨vs, H1, I1, r, q⟩ => ?_) hpl he
  · refine ⟨e0, F, er, h.bind.eq.mono fun ds e1 H1 F1 er1 mv1 h1 vs hvs => ⟨e1, F1, er1, h1.2.bind.eq.mono fun es e2 H2 F2 er2 mv2 h2 zs hzs => ?_⟩⟩
    have hl1 : ds.length = n := (ha.ln ds e0 e1 h1.1).trans hn
    have hl2 : es.length = ks.length := (hkw.ln es e1 e2 h2.1).trans hkl
    obtain ⟨q1, q2⟩ := hrel ds es vs zs F2 (RpL.mono mv2.sub _ _ hvs) hzs hl1 hl2
    exact ⟨by rw [← hvs.len]; exact hl1, by rw [← hzs.len]; exact hl2, ap0_v h2.2 er2 q1 q2⟩
  · refine thn (hkw.pk.run pos pins s1 σ H1 _ I1 q) fun ws s2 ⟨zs, H2, I2, rz, l1, l2, q2⟩ => ⟨I2.kIn, ?_⟩
    rw [hks]
    exact run_kb F0 (hp.room.mono hj) hp.gu hb tk I2 r rz l1 l2 q2
end
end Sr
namespace Sr
open PySem hiding start
open PySem.Spec L2
open PyProof.Rows hiding St
theorem FunD.fnIn {K : PySem.W.Frag} {x qual : Str} {params : Arguments} {body : List Stmt} {scope : Scope} {dvs : List V} {kws : List (Str × V)} {f : Addr} {fd : FuncData} (G : FunD K x qual params body scope dvs kws f fd) : PySem.W.fnIn K f = true := by
  obtain ⟨oc, od, dV, kV, doc, pm, an, cdv, ct, osl, rfl, lk, _⟩ := G.ex
  unfold PySem.W.fnIn
  rw [lk]
def smG (K : PySem.W.Frag) (c m : Str) : Addr × Addr := match PySem.W.findIn K (.ref (He.ga K c)) m with
  | some (some (.ref p)) => (p, match PySem.W.recIn K p "staticmethod" with
    | some (.ref g :: _) => g
    | _ => 0)
  | _ => (0, 0)
def smB (K : PySem.W.Frag) (c m : Str) : Bool :=
  PySem.W.readsIn K (He.ga K c) (.type "type") && (decide (PySem.W.specialIn K (.ref (He.ga K c)) "__getattribute__" = some (some (.builtin "type.__getattribute__"))) &&
    ((match PySem.W.findCls K (.ref (He.ga K c)) (.type "type") m with
      | some (.get (.builtin s) (.ref p) .none (.ref C)) => decide (s = "staticmethod.__get__") && (decide (p = (smG K c m).1) && decide (C = He.ga K c))
      | _ => false) &&
    ((match PySem.W.recIn K (smG K c m).1 "staticmethod" with
      | some (.ref g :: _) => decide (g = (smG K c m).2)
      | _ => false) && PySem.W.keepIn K (.ref (smG K c m).2))))
theorem smB_ok {K : PySem.W.Frag} {c m : Str} (h : smB K c m = true) : SMet K (He.ga K c) (.type "type") m (smG K c m).1 (smG K c m).2 := by
  unfold smB at h
  simp only [Bool.and_eq_true, decide_eq_true_eq] at h
  obtain ⟨h1, h2, h3, h4, h5⟩ := h
  refine ⟨⟨h1, h2⟩, ?_, ?_, h5⟩
  · split at h3
    · rename_i s p C e
      simp only [Bool.and_eq_true, decide_eq_true_eq] at h3
      obtain ⟨rfl, rfl, rfl⟩ := h3
      exact e
    · cases h3
  · split at h4
    · rename_i g r e
      rw [decide_eq_true_eq] at h4
      rw [← h4]; exact ⟨r, e⟩
    · cases h4
theorem jv_gC {X : Cx} {T : Pn} {W : WX} {pos : Pos} {x : Str} {v : V} {u : Value} {d : D} (hg : Gl X x) (hm : X.mg x = some u) (r : RelV v u) (hd : ∀ F, Rp X.K X.mg F d v) (hx : (x == ("__debug__" : Str)) = false := by decide) : JV X T W (.Name x pos) (ret d) := jv_glob hg hm r hd hx
end Sr
namespace Sr
open PySem hiding start
open PySem.Spec L2
open PyProof.Rows hiding St
theorem meets_enum1 {v : Value} {o : Obj} {H : Heap → Prop} (B : Begins v o H) :
    Meets (Builtin.«enumerate.__new__» ⟨[.type "enumerate", v], []⟩) (fun _ R s => H s.heap ∧
      R (.ok (.ret (.ref (s.heap.push o).objs.size))) { s with heap := (s.heap.push o).push { cls := .type "enumerate", data := .fields #[.none, .bool false, .ref s.heap.objs.size, rawInt 0, .none, .none] } }) :=
  .of_wp fun prog w A R s h => by
    obtain ⟨hp, g, d, tk, os⟩ := s; obtain ⟨h1, h⟩ := h
    have hsub := sub_enumerate
    have q1 : ∀ {A' : Around} {E : Value → Shared → Prop} {Q : Value → Shared → Prop}, Q (.ref hp.objs.size) ⟨hp.push o, g, d, tk, os⟩ → wpAny (model prog w) A' (pyIter v) Q E ⟨hp, g, d, tk, os⟩ :=
      fun q => B.iter prog w _ _ ⟨hp, g, d, tk, os⟩ _ h1 q
    wp_walk using q1
    refine wpAny_stack_any fun st => wpAny_pure ?_
    split
    · rename_i c _ _ _ _ _
      cases (c == Value.type "enumerate")
      · wp_walk using q1
        exact ⟨_, rfl, h⟩
      · wp_walk using q1
        exact ⟨_, rfl, h⟩
    · wp_walk using q1
      exact ⟨_, rfl, h⟩
theorem call_enum1 {prog : Program} {w : World} {A : Around} {E : Value → Shared → Prop} {s : Shared} {v : Value} {o : Obj} {H : Heap → Prop} {Q : Value → Shared → Prop} (B : Begins v o H) (h1 : H s.heap)
    (h : ∀ h', IsEnum h' (s.heap.objs.size + 1) s.heap.objs.size 0 .none → h'.get? s.heap.objs.size = some o → h'.objs.size = s.heap.objs.size + 2 →
      (∀ b o, s.heap.get? b = some o → h'.get? b = some o) → Q (.ref (s.heap.objs.size + 1)) { s with heap := h' }) :
    wpAny (model prog w) A (call (.type "enumerate") [v]) Q E s := by
  refine callType_new F.called_enumerate (by decide) (F.typeCall_enumerate_1 _) (F.newCall_enumerate_1 _) (fun obj => F.args_object_init_2 obj _) F.entry_enumerate_new (meets_enum1 B) ⟨h1, ?_⟩
  have hz : (s.heap.push o).objs.size = s.heap.objs.size + 1 := Heap.size_push ..
  show _ ∧ _
  rw [hz]
  have he : IsEnum ((s.heap.push o).push { cls := .type "enumerate", data := .fields #[.none, .bool false, .ref s.heap.objs.size, rawInt 0, .none, .none] }) (s.heap.objs.size + 1) s.heap.objs.size 0 .none := by
    have := Heap.get?_push_size (s.heap.push o) (o := { cls := .type "enumerate", data := .fields #[.none, .bool false, .ref s.heap.objs.size, rawInt 0, .none, .none] }) rfl
    rw [hz] at this; exact this
  refine ⟨⟨_, he, rfl⟩, h _ he (Heap.get?_push_of_some _ (Heap.get?_push_size _ B.free)) (by rw [Heap.size_push, hz]) fun b o x => Heap.get?_push_of_some _ (Heap.get?_push_of_some _ x)⟩
def IteT (K : PySem.W.Frag) (a : Addr) : It :=
  ⟨fun i H => ∃ (xs : List V) (x : V), SqT K H a xs ∧ xs[i]? = some x, fun i H v H' => ∃ T x, v = .ref T ∧ H T = none ∧ H' = upd H T (.tup [.int (i : Nat), x]) ∧ ∀ xs, SqT K H a xs → xs[i]? = some x, fun i H => ∃ xs : List V, SqT K H a xs ∧ xs.length = i⟩
theorem turn_enumT {P : Program} {w : World} {K : PySem.W.Frag} {elts : List Expr} {kk : Nat} {tpos : Pos} (a e it : Addr) :
    Turn P w K (.Tuple elts kk tpos) (IteT K a) [e, it] e (fun i h => (∃ old, IsEnum h e it ((i : Nat) : Int) old) ∧ h.IsTupleIter it a i ∧ e ≠ it ∧ a ≠ it ∧ a ≠ e) where
  mem := by simp
  obj := fun i h st b hb => by
    obtain ⟨⟨old, he⟩, ⟨o, ho, hc, hd⟩, _⟩ := st
    have e' : b = e ∨ b = it := by simpa using hb
    rcases e' with z | z
    · rw [z]; exact ⟨_, he, fun v q => nomatch q⟩
    · rw [z]; exact ⟨o, ho, fun v q => by rw [hd] at q; cases q⟩
  keep := fun i h h' st k => let ⟨⟨old, he⟩, hi, hne⟩ := st; ⟨⟨old, k e (by simp) _ he⟩, hi.at fun o q => k it (by simp) o q, hne⟩
  item := by
    intro X hP hw hK hc i pins s σ H E I hf st hg
    subst hP hw hK
    obtain ⟨⟨old, he⟩, hit, hne, hai, hae⟩ := st
    obtain ⟨xs, x, hq, hx⟩ := hg
    obtain ⟨its, rv, p, hz⟩ := I.tuple hq
    obtain ⟨u, hu, ru⟩ := rv.get hx
    have hel : e < s.heap.objs.size := Heap.lt_size he
    have hil : it < s.heap.objs.size := by obtain ⟨_, q, _⟩ := hit; exact Heap.lt_size q
    have hlt : i < its.toArray.size := by
      have := (List.getElem?_eq_some_iff.mp hu).1
      simpa using this
    refine wpAny_pyNext_enum_itemC (Draws.tuple (A := X.A.in1) (I.ok.hd hc) it a hai its.toArray) he ⟨hit, p⟩ hlt hne (by simp [hne]; exact fun z => hae z.symm) fun u' h' tk hPx ho hit' hT hsz hk => ?_
    have hu' : u' = u := by
      have : its[i]? = some u' := by simpa using hPx
      rw [hu] at this; exact (Option.some.inj this).symm
    subst hu'
    refine ⟨_, rfl, wpAny_letOwnedTupleGo_enum (s := { s with heap := h', toks := tk + 1 }) ho fun h'' he' sb => ?_⟩
    have hT2 : h''.get? s.heap.objs.size = some { cls := .type "tuple", data := .seq #[.int i tk, u'] } := (sb.2 _ (Nat.ne_of_gt hel)).trans hT
    have new : ObjOk X.prog X.w (upd H s.heap.objs.size (.tup [.int (i : Nat), x])) h'' s.heap.objs.size (.tup [.int (i : Nat), x]) :=
      ⟨by show 2 ≤ sizeLine; decide, [.int i tk, u'], .cons ⟨_, rfl⟩ (.cons ru .nil), ⟨_, hT2, rfl, _, rfl⟩⟩
    have I1 : Inv X pins σ (upd H s.heap.objs.size (.tup [.int (i : Nat), x])) { s with heap := h'', toks := tk + 1 } :=
      I.turnedNew (ch := [e, it]) (fun b ob hb q => (sb.2 b (fun z => hb (by simp [z]))).trans (hk b ob (fun z => hb (by simp [z])) (fun z => hb (by simp [z])) q)) hf (Nat.le_refl _) new
    refine ⟨.ref s.heap.objs.size, _, I1, rfl, ⟨_, x, rfl, I.hok.fresh (Nat.le_refl _), rfl, fun ys hy => by rw [I.tuple_inj hy hq]; exact hx⟩, ⟨⟨u', ?_⟩, hit'.1.at fun o q => (sb.2 it (Ne.symm hne)).trans q, hne, hai, hae⟩, fun b hb => ?_⟩
    · have e1 : ((i + 1 : Nat) : Int) = (i : Int) + 1 := by omega
      rw [e1]; exact he'
    · have hb' : b < s.heap.objs.size := by
        have e' : b = e ∨ b = it := by simpa using hb
        rcases e' with z | z
        · rw [z]; exact hel
        · rw [z]; exact hil
      rw [upd_ne (Nat.ne_of_lt hb')]
      exact (hf b hb).1
  done := by
    intro X hP hw hK hc i pins s σ H E I hf st hg
    subst hP hw hK
    obtain ⟨⟨old, he⟩, hit, hne, hai, hae⟩ := st
    obtain ⟨xs, hq, hx⟩ := hg
    obtain ⟨its, rv, p, hz⟩ := I.tuple hq
    obtain ⟨f0, f1, f2, f3, f4, f5⟩ := hf it (by simp)
    have hl := rv.length
    have hsz : its.toArray.size = i := by rw [List.size_toArray, ← hl, hx]
    exact wpAny_pyNext_enum_endD (Draws.tuple (A := X.A.in1) (I.ok.hd hc) it a hai its.toArray) he ⟨by rw [hsz]; exact hit, p⟩ fun h' eb => ⟨rfl, I.turned (t' := s.toks) (fun b o hb q => eb b o hb q) f0 f1 f3 f4 f5⟩
  self := fun A i s Q E st h => let ⟨⟨_, he⟩, _⟩ := st; wpAny_pyIter_enum he h
theorem pi_enumT {X : Cx} {e : Expr} {ta : TA} {p pos tpos : Pos} {elts : List Expr} {kk : Nat} (hg : Gl X "enumerate") (hm : X.mg "enumerate" = none) (ha : PA X [e] ta) (hs : starEach [e] X.env = [(false, eval e X.env)] := by rfl) :
    PI X (.Tuple elts kk tpos) (.Call (.Name "enumerate" p) [e] [] pos) (fun σ H R => ta σ H fun vs H1 => ∃ a xs, vs = [.ref a] ∧ SqT X.K H1 a xs ∧ R (IteT X.K a) H1) := by
  refine ⟨fun pins s σ H R I h => ?_⟩
  refine Call_ (ld_blt I hg hm boot_enumerate (PyProof.Rows.callWith_type1 (thn (ha.run pos pins s σ H _ I h) fun us s1 ⟨vs, H1, I1, r1, q1⟩ => ?_) hs rfl))
  obtain ⟨a, xs, ex, hq, q⟩ := q1
  subst ex
  cases r1 with
  | cons r rr =>
    cases rr
    cases r
    obtain ⟨its, rv, p', hz⟩ := I1.tuple hq
    have hal : a < s1.heap.objs.size := by obtain ⟨o, ho, _⟩ := p'; exact Heap.lt_size ho
    refine call_enum1 (begins_tuple a its.toArray) p' fun h' he hit hsz hk => wpAny_pyIter_enum he ?_
    have I2 : Inv X pins σ H1 { s1 with heap := h' } := I1.kept (t' := s1.toks) hk
    refine ⟨s1.heap.objs.size + 1, [s1.heap.objs.size + 1, s1.heap.objs.size], _, _, H1, rfl, I2, turn_enumT a (s1.heap.objs.size + 1) s1.heap.objs.size, ⟨⟨.none, he⟩, ⟨_, hit, rfl, rfl⟩, Nat.succ_ne_self _, Nat.ne_of_lt hal, Nat.ne_of_lt (Nat.lt_succ_of_lt hal)⟩, fun b hb => ?_, q⟩
    have e' : b = s1.heap.objs.size + 1 ∨ b = s1.heap.objs.size := by simpa using hb
    have hle : s1.heap.objs.size ≤ b := by
      rcases e' with z | z
      · rw [z]; exact Nat.le_add_right _ _
      · rw [z]; exact Nat.le_refl _
    exact I1.fpOk hle (I1.hok.fresh hle)
section
variable {K : PySem.W.Frag} {a : Addr} {xs : List V}
theorem walk_enumT : Walk (IteT K a) xs.length (fun H => SqT K H a xs) (YPair (fun i => some (.int (i : Nat))) (fun i => xs[i]?)) := by
  refine ⟨fun i _ hi q => ⟨xs, xs[i], q, by simp [hi]⟩, fun _ q => ⟨xs, q, rfl⟩, fun i H v H' _ q y => ?_⟩
  obtain ⟨T, x, h1, h2, h3, h4⟩ := y
  exact ⟨T, .int (i : Nat), x, h1, h2, h3, rfl, h4 xs q⟩
end
section
variable {X : Cx} {T : Pn} {W : WX} {pos tpos p : Pos} {a b : Expr} {elts : List Expr} {kk : Nat} {ms : M (List D)}
def gEnumT : List D → Option (List D)
  | [.tup ds] => some (enumL ds)
  | _ => none
def mEnumT (ms : M (List D)) : M (List D) := bnd ms fun ds => opt (gEnumT ds)
theorem ji_enumT (hg : Gl X "enumerate") (hm : X.mg "enumerate" = none) (ha : JA X T W [a] ms) (hs : starEach [a] X.env = [(false, eval a X.env)] := by rfl) : JI X T W (.Tuple elts kk tpos) (.Call (.Name "enumerate" p) [a] [] pos) (mEnumT ms) := by
  refine PIimp (pi_enumT hg hm ha hs) fun σ H R ⟨e, F, er, h⟩ => ⟨e, F, er, h.bind.mono fun ds e1 H1 F1 er1 mv1 h1 vs hvs => ?_⟩
  obtain ⟨z, hz, fin⟩ := h1.fin er1
  unfold gEnumT at hz
  split at hz
  · rename_i ds'
    cases hz
    obtain ⟨v, rfl, r⟩ := rl_one hvs
    rw [rp_tup] at r
    obtain ⟨l, xs, rfl, hl, rl⟩ := r
    refine ⟨l, xs, rfl, seqT_mono er1.sub hl, fin H1 F1 Al.refl _ ?_⟩
    refine walks_pair (walk_enumT (K := X.K) (a := l) (xs := xs)) (by unfold enumL; rw [List.length_map, List.length_zipIdx]; exact rl.len) (fun H s => seqT_mono s hl) fun i x y hi h1 h2 => ?_
    cases h1
    obtain ⟨d, h3, h4⟩ := rl.getV h2
    refine ⟨.int (i : Nat), d, ?_, by rw [rp_int], h4⟩
    unfold enumL
    rw [List.getElem?_map, List.getElem?_zipIdx, h3]; simp
  · cases hz
end
def NoOwn (p : Addr) : List (Bool × D) → List V → Prop
  | (true, _) :: l, v :: r => v ≠ .ref p ∧ NoOwn p l r
  | (false, _) :: l, _ :: r => NoOwn p l r
  | _, _ => True
def RpM (K : PySem.W.Frag) (mg : Str → Option Value) (H0 : Hp) (e : En) (σ : St) (H F : Hp) : List (Bool × D) → List V → Prop
  | [], vs => vs = []
  | (false, d) :: l, vs => ∃ v r, vs = v :: r ∧ Rp K mg F d v ∧ RpM K mg H0 e σ H F l r
  | (true, d) :: l, vs => ∃ p r, vs = .ref p :: r ∧ H0 p = none ∧ F p = none ∧ ¬ Ow e σ p ∧ OwnAt K mg H F p d ∧ NoOwn p l r ∧ RpM K mg H0 e σ H F l r
def TAm (K : PySem.W.Frag) (mg : Str → Option Value) (T : Pn) (W : WX) (m : M (List (Bool × D))) : TA := fun σ H Q => ∃ e F, ER K mg T e σ H F ∧ RunAt K mg T W e F m σ H fun l e' H' F' => ∀ vs, RpM K mg H e' σ H' F' l vs → Q vs H'
abbrev JM (X : Cx) (T : Pn) (W : WX) (es : List Expr) (m : M (List (Bool × D))) : Prop := PA X es (TAm X.K X.mg T W m)
def xNil : M (List (Bool × D)) := ret []
def xCons (m : M D) (ms : M (List (Bool × D))) : M (List (Bool × D)) := bnd m fun d => bnd ms fun l => ret ((false, d) :: l)
def xConsO (m : M D) (ms : M (List (Bool × D))) : M (List (Bool × D)) := bnd m fun d => bnd ms fun l => ret ((true, d) :: l)
section
variable {K : PySem.W.Frag} {mg : Str → Option Value} {H0 H0' : Hp} {e : En} {σ : St} {H F : Hp} {p : Addr}
theorem RpM.low (h : ∀ p, H0 p = none → H0' p = none) : ∀ {l : List (Bool × D)} {vs : List V}, RpM K mg H0 e σ H F l vs → RpM K mg H0' e σ H F l vs
  | [], vs, r => r
  | (false, d) :: l, vs, ⟨v, r, e1, h1, h2⟩ => ⟨v, r, e1, h1, RpM.low h h2⟩
  | (true, d) :: l, vs, ⟨p, r, e1, h1, h2, h3, h4, h5, h6⟩ => ⟨p, r, e1, h _ h1, h2, h3, h4, h5, RpM.low h h6⟩
theorem RpM.noOwn {o : HO} (h : H0 p = some o) : ∀ {l : List (Bool × D)} {vs : List V}, RpM K mg H0 e σ H F l vs → NoOwn p l vs
  | [], vs, r => trivial
  | (false, d) :: l, vs, ⟨v, r, e1, h1, h2⟩ => by subst e1; show NoOwn p l r; exact RpM.noOwn h h2
  | (true, d) :: l, vs, ⟨q, r, e1, h1, h2, h3, h4, h5, h6⟩ => by
    subst e1
    refine ⟨fun z => ?_, RpM.noOwn h h6⟩
    cases z
    rw [h1] at h; cases h
end
section
variable {X : Cx} {T : Pn} {W : WX} {pos : Pos} {a b c : Expr} {es : List Expr} {ma : M D} {ms : M (List (Bool × D))}
theorem jm_nil : JM X T W [] xNil := PAimp pa_nil fun σ H Q ⟨e, F, er, h⟩ => h H F er Mv.refl _ rfl
theorem jm_cons (ha : JV X T W a ma) (hr : JM X T W es ms) (hs : starEach (a :: es) X.env = (false, eval a X.env) :: starEach es X.env := by rfl) : JM X T W (a :: es) (xCons ma ms) := by
  refine PAimp (pa_cons ha hr hs) fun σ H Q ⟨e, F, er, h⟩ => ⟨e, F, er, h.bind.mono fun d e1 H1 F1 er1 mv1 h1 v hv => ⟨e1, F1, er1, h1.bind.mono fun l e2 H2 F2 er2 mv2 h2 vs hvs => ?_⟩⟩
  exact h2 H2 F2 er2 Mv.refl _ ⟨v, vs, rfl, Rp.mono mv2.sub _ _ hv, hvs.low mv1.there⟩
theorem jm_consO (ha : JO X T W a ma) (hr : JM X T W es ms) (hs : starEach (a :: es) X.env = (false, eval a X.env) :: starEach es X.env := by rfl) : JM X T W (a :: es) (xConsO ma ms) := by
  refine PAimp (pa_cons ha hr hs) fun σ H Q ⟨e, F, er, h⟩ => ⟨e, F, er, ?_⟩
  have hb := h.bind
  unfold RunAt at hb ⊢
  cases q : ma e with
  | ok d e1 =>
    rw [q] at hb
    intro H1 F1 er1 mv1 p hp fp np ow
    have h1 : RunAt X.K X.mg T W e1 F1 (bnd ms fun l => ret ((true, d) :: l)) σ H1 fun l e' H' F' => ∀ vs, RpM X.K X.mg H e' σ H' F' l vs → Q vs H' := hb H1 F1 er1 mv1
    obtain ⟨o, ho⟩ := ow.there
    refine ⟨e1, F1, er1, h1.bind.mono fun l e2 H2 F2 er2 mv2 h2 vs hvs => ?_⟩
    obtain ⟨k1, k2⟩ := mv2.keep p o ho np
    have f2 : F2 p = none := by
      cases z : F2 p with
      | none => rfl
      | some u =>
        rcases mv2.new p u z with z | z | z
        · rw [fp] at z; cases z
        · rw [ho] at z; cases z
        · exact (np z).elim
    exact h2 H2 F2 er2 Mv.refl _ ⟨p, vs, rfl, hp, f2, k2, ow.keep mv2.sub fun u hu => (mv2.keep p u hu np).1, hvs.noOwn ho, hvs.low mv1.there⟩
  | exc x e1 => rw [q] at hb; exact hb
  | bad => rw [q] at hb; exact hb
def putM : List (Nat × Bool × D) → En → En
  | [], e => e
  | (i, false, d) :: l, e => putM l (e.set i (.val d))
  | (i, true, d) :: l, e => putM l (e.set i (.own d))
theorem setM {K : PySem.W.Frag} {mg : Str → Option Value} {H0 F0 : Hp} {e0 : En} {σ0 : St} : ∀ (is : List Nat) (l : List (Bool × D)) (vs : List V) (e : En) (σ : St) (H F : Hp), (∀ i ∈ is, NoP T i) → is.length = l.length → ER K mg T e σ H F → Mv e0 σ0 H0 F0 e σ H F → RpM K mg H0 e σ H F l vs →
    ER K mg T (putM (is.zip l) e) ((is.zip vs).foldl (fun σ q => σ.set q.1 (some q.2)) σ) H F ∧ Mv e0 σ0 H0 F0 (putM (is.zip l) e) ((is.zip vs).foldl (fun σ q => σ.set q.1 (some q.2)) σ) H F
  | [], [], vs, e, σ, H, F, _, _, er, mv, r => by rw [show vs = [] from r]; exact ⟨er, mv⟩
  | i :: is, (false, d) :: l, vs, e, σ, H, F, hT, hl, er, mv, ⟨v, r, e1, h1, h2⟩ => by
    subst e1
    obtain ⟨er2, mv2⟩ := er.setV (hT i (by simp)) h1
    refine setM is l r (e.set i (.val d)) (σ.set i (some v)) H F (fun j hj => hT j (by simp [hj])) (by simpa using hl) er2 (mv.trans mv2) ?_
    have tr : ∀ {l : List (Bool × D)} {vs : List V}, RpM K mg H0 e σ H F l vs → RpM K mg H0 (e.set i (.val d)) (σ.set i (some v)) H F l vs := by
      intro l
      induction l with
      | nil => intro vs h; exact h
      | cons x l ih =>
        intro vs h
        obtain ⟨bb, dd⟩ := x
        cases bb with
        | false => obtain ⟨w, r, e1, h1, h2⟩ := h; exact ⟨w, r, e1, h1, ih h2⟩
        | true =>
          obtain ⟨q, r, e1, h1, h2, h3, h4, h5, h6⟩ := h
          obtain ⟨o, ho⟩ := h4.there
          exact ⟨q, r, e1, h1, h2, (mv2.keep q o ho h3).2, h4, h5, ih h6⟩
    exact tr h2
  | i :: is, (true, d) :: l, vs, e, σ, H, F, hT, hl, er, mv, ⟨p, r, e1, h1, h2, h3, h4, h5, h6⟩ => by
    subst e1
    obtain ⟨er2, mv2⟩ := er.setO (H0 := H0) (hT i (by simp)) h2 h3 h4
    have mv3 := mv2 h1 mv
    refine setM is l r (e.set i (.own d)) (σ.set i (some (.ref p))) H F (fun j hj => hT j (by simp [hj])) (by simpa using hl) er2 mv3 ?_
    have tr : ∀ {l : List (Bool × D)} {vs : List V}, NoOwn p l vs → RpM K mg H0 e σ H F l vs → RpM K mg H0 (e.set i (.own d)) (σ.set i (some (.ref p))) H F l vs := by
      intro l
      induction l with
      | nil => intro vs _ h; exact h
      | cons x l ih =>
        intro vs no h
        obtain ⟨bb, dd⟩ := x
        cases bb with
        | false => obtain ⟨w, r, e1, h1, h2⟩ := h; subst e1; exact ⟨w, r, rfl, h1, ih no h2⟩
        | true =>
          obtain ⟨q, r, e1, h1, h2, h3, h4, h5, h6⟩ := h
          subst e1
          obtain ⟨no1, no2⟩ := no
          refine ⟨q, r, rfl, h1, h2, ?_, h4, h5, ih no2 h6⟩
          rintro ⟨j, x, q1, q2⟩
          by_cases hj : j = i
          · subst hj
            by_cases hlt : j < σ.length
            · rw [List.getElem?_set_self hlt] at q2; cases q2; exact no1 rfl
            · rw [List.getElem?_eq_none (by rw [List.length_set]; omega)] at q2; cases q2
          · rw [List.getElem?_set_ne (Ne.symm hj)] at q1 q2
            exact h3 ⟨j, x, q1, q2⟩
    exact tr h5 h6
def sParM (is : List Nat) (ms : M (List (Bool × D))) : M Fl := bnd ms fun l e => if l.length = is.length then .ok .nx (putM (is.zip l) e) else .bad
theorem js_parM2 {i j : Nat} {x y : Str} {px py pt : Pos} {kt k2 pt2} (hT : NoP T i) (hT' : NoP T j) (hc : X.calm = true) (hN : X.N.Nodup) (hi : X.N[i]? = some x) (hj : X.N[j]? = some y) (hij : i ≠ j)
    (hx : X.env.scope.names.lookup x = some .local) (hy : X.env.scope.names.lookup y = some .local) (ha : JM X T W [a, b] ms)
    (hw : swappedStores [.Tuple [.Name x px, .Name y py] kt pt] (.Tuple [a, b] k2 pt2) X.env = pure (some [x, y]) := by rfl)
    (hs : swapsWithSole [.Tuple [.Name x px, .Name y py] kt pt] (.Tuple [a, b] k2 pt2) pos.line X.env = pure false := by rfl) :
    JS X T W (.Assign [.Tuple [.Name x px, .Name y py] kt pt] (.Tuple [a, b] k2 pt2) pos) (sParM [i, j] ms) := by
  refine PSimp (ps_par hc hN hi hj hij hx hy ha hw hs) fun D σ H ⟨e, F, er, h⟩ => ⟨e, F, er, ?_⟩
  have hb := h.bind
  unfold RunAt at hb ⊢
  cases q : ms e with
  | ok l e1 =>
    rw [q] at hb
    intro H1 F1 er1 mv1 vs hvs
    unfold sParM at h
    unfold RunS bnd at h
    rw [q] at h
    dsimp only at h
    by_cases hl : l.length = [i, j].length
    · rw [if_pos hl] at h
      obtain ⟨er2, mv2⟩ := setM (T := T) [i, j] l vs e1 σ H1 F1 (fun z hz => by simp at hz; rcases hz with rfl | rfl; exact hT; exact hT') hl.symm er1 mv1 hvs
      have hv : ∃ v w, vs = [v, w] := by
        match l, hl, hvs with
        | [(b1, d1), (b2, d2)], _, hvs =>
          cases b1 <;> cases b2 <;> first
            | (obtain ⟨v, r, rfl, _, w, r2, rfl, _, h0⟩ := hvs; exact ⟨v, w, by rw [show r2 = [] from h0]⟩)
            | (obtain ⟨v, r, rfl, _, w, r2, rfl, _, _, _, _, _, h0⟩ := hvs; exact ⟨_, _, by rw [show r2 = [] from h0]⟩)
            | (obtain ⟨v, r, rfl, _, _, _, _, _, w, r2, rfl, _, h0⟩ := hvs; exact ⟨_, _, by rw [show r2 = [] from h0]⟩)
            | (obtain ⟨v, r, rfl, _, _, _, _, _, w, r2, rfl, _, _, _, _, _, h0⟩ := hvs; exact ⟨_, _, by rw [show r2 = [] from h0]⟩)
      obtain ⟨v, w, rfl⟩ := hv
      exact ⟨v, w, rfl, h _ H1 F1 er2 mv2⟩
    · rw [if_neg hl] at h; exact h.elim
  | exc x e1 => rw [q] at hb; exact hb
  | bad => rw [q] at hb; exact hb
theorem js_parM3 {i j k : Nat} {x y z : Str} {px py pz pt : Pos} {kt k2 pt2} (hT : NoP T i) (hT' : NoP T j) (hT2 : NoP T k) (hc : X.calm = true) (hN : X.N.Nodup) (hi : X.N[i]? = some x) (hj : X.N[j]? = some y) (hk : X.N[k]? = some z) (hij : i ≠ j) (hik : i ≠ k) (hjk : j ≠ k)
    (hx : X.env.scope.names.lookup x = some .local) (hy : X.env.scope.names.lookup y = some .local) (hz : X.env.scope.names.lookup z = some .local) (ha : JM X T W [a, b, c] ms)
    (hw : swappedStores [.Tuple [.Name x px, .Name y py, .Name z pz] kt pt] (.Tuple [a, b, c] k2 pt2) X.env = pure (some [x, y, z]) := by rfl)
    (hs : swapsWithSole [.Tuple [.Name x px, .Name y py, .Name z pz] kt pt] (.Tuple [a, b, c] k2 pt2) pos.line X.env = pure false := by rfl) :
    JS X T W (.Assign [.Tuple [.Name x px, .Name y py, .Name z pz] kt pt] (.Tuple [a, b, c] k2 pt2) pos) (sParM [i, j, k] ms) := by
  refine PSimp (ps_par3 hc hN hi hj hk hij hik hjk hx hy hz ha hw hs) fun Dn σ H ⟨e, F, er, h⟩ => ⟨e, F, er, ?_⟩
  have hb := h.bind
  unfold RunAt at hb ⊢
  cases q : ms e with
  | ok l e1 =>
    rw [q] at hb
    intro H1 F1 er1 mv1 vs hvs
    unfold sParM at h
    unfold RunS bnd at h
    rw [q] at h
    dsimp only at h
    by_cases hl : l.length = [i, j, k].length
    · rw [if_pos hl] at h
      obtain ⟨er2, mv2⟩ := setM (T := T) [i, j, k] l vs e1 σ H1 F1 (fun z hz => by simp at hz; rcases hz with rfl | rfl | rfl; exact hT; exact hT'; exact hT2) hl.symm er1 mv1 hvs
      have hone : ∀ {b : Bool} {d : Sr.D} {l : List (Bool × Sr.D)} {vs : List V} {e : En} {H F H0 : Hp}, RpM X.K X.mg H0 e σ H F ((b, d) :: l) vs → ∃ v r, vs = v :: r ∧ RpM X.K X.mg H0 e σ H F l r := by
        intro b d l vs e H F H0 h
        cases b with
        | false => obtain ⟨v, r, e1, _, h2⟩ := h; exact ⟨v, r, e1, h2⟩
        | true => obtain ⟨p, r, e1, _, _, _, _, _, h2⟩ := h; exact ⟨_, r, e1, h2⟩
      match l, hl, hvs, h, er2, mv2 with
      | [(b1, d1), (b2, d2), (b3, d3)], _, hvs, h, er2, mv2 =>
        obtain ⟨v1, r1, rfl, g1⟩ := hone hvs
        obtain ⟨v2, r2, rfl, g2⟩ := hone g1
        obtain ⟨v3, r3, rfl, g3⟩ := hone g2
        rw [show r3 = [] from g3] at *
        exact ⟨v1, v2, v3, rfl, h _ H1 F1 er2 mv2⟩
    · rw [if_neg hl] at h; exact h.elim
  | exc x e1 => rw [q] at hb; exact hb
  | bad => rw [q] at hb; exact hb
end
end Sr
namespace Sr
open PySem hiding start
open PySem.Spec L2
open PyProof.Rows hiding St
theorem vals_of : ∀ {xs : List V} {us : List Value}, xs.length = us.length → (∀ (j : Nat) x u, xs[j]? = some x → us[j]? = some u → RelV x u) → Vals xs us
  | [], [], _, _ => .nil
  | x :: xs, u :: us, hl, h => .cons (h 0 x u rfl rfl) (vals_of (by simpa using hl) fun j y w h1 h2 => h (j + 1) y w (by simpa using h1) (by simpa using h2))
section
variable {X : Cx}
def signsV (z : Str) : List V := z.cps.toList.map fun c => .str ⟨#[c]⟩
theorem call_listS (hc : X.calm = true) : CallR X (.type "list") (fun xs H Q => ∃ z, xs = [.str z] ∧ z.length ≤ sizeLine ∧ ∀ l, H l = none → Q (.ref l) (upd H l (.lst (signsV z)))) := by
  intro pins s σ H xs us Q I r h
  obtain ⟨z, rfl, hz, q⟩ := h
  obtain ⟨u, rfl, rx⟩ := vals1 r
  obtain ⟨t, rfl⟩ := rx
  refine call_list_str (I.ok.hd hc) z t (hn := hz) fun h' tk acc' c' hk hS' hacc => ?_
  have hv : Vals (signsV z) acc'.toList := by
    refine vals_of (by unfold signsV; rw [List.length_map, Array.length_toList, Array.length_toList]; exact hacc.1.symm) fun j x u h1 h2 => ?_
    obtain ⟨c, w, hcx, rfl⟩ := hacc.2 j u (by simpa using h2)
    unfold signsV at h1
    rw [List.getElem?_map, Array.getElem?_toList, hcx] at h1
    cases h1
    exact ⟨w, rfl⟩
  exact ⟨.ref s.heap.objs.size, _, I.laid (t' := tk) hk (Nat.le_refl _) (show ObjOk X.prog X.w _ h' _ (.lst (signsV z)) from ⟨by unfold signsV; rw [List.length_map, Array.length_toList]; exact hz, acc'.toList, c', hv, by simpa using hS'⟩), rfl, q _ (I.hok.fresh (Nat.le_refl _))⟩
def gListS : D → Option D
  | .str z => if z.length ≤ sizeLine then some (.lst (z.cps.toList.map fun c => .str ⟨#[c]⟩)) else none
  | _ => none
theorem signs_rp {K : PySem.W.Frag} {mg : Str → Option Value} {F : Hp} : ∀ l : List Nat, RpL K mg F (l.map fun c => .str ⟨#[c]⟩) (l.map fun c => V.str ⟨#[c]⟩)
  | [] => by simp [rl_nil]
  | c :: l => by rw [List.map_cons, List.map_cons, rl_cons]; exact ⟨_, _, rfl, by rw [rp_str], signs_rp l⟩
theorem c_listS (hc : X.calm = true) : Cal1 X (.type "list") gListS := by
  intro H F x d d' s r e
  cases d <;> simp only [gListS, reduceCtorEq] at e
  split at e
  · rename_i hz
    cases e
    rw [rq_str] at r
    subst r
    refine ⟨_, call_listS hc, fun Q q => ⟨_, rfl, hz, fun p hp => q _ _ _ (Al.one hp) ?_⟩⟩
    rw [rp_lst]
    exact ⟨p, _, rfl, upd_same, signs_rp _⟩
  · cases e
def gListA : D → Option D := fun d => (gList d).or (gListS d)
theorem c_listA (hc : X.calm = true) : Cal1 X (.type "list") gListA := c_list.or (c_listS hc)
end
end Sr
namespace Sr
open PySem hiding start
open PySem.Spec L2
open PyProof.Rows hiding St
section
variable {K : PySem.W.Frag} {mg : Str → Option Value} {H0 : Hp} {e : En} {σ : St} {H F : Hp} {p : Addr} {o : HO}
theorem RpM.upd (hp : H p = none) : ∀ {l : List (Bool × D)} {vs : List V}, RpM K mg H0 e σ H F l vs → RpM K mg H0 e σ (L2.upd H p o) F l vs
  | [], vs, r => r
  | (false, d) :: l, vs, ⟨v, r, e1, h1, h2⟩ => ⟨v, r, e1, h1, RpM.upd hp h2⟩
  | (true, d) :: l, vs, ⟨q, r, e1, h1, h2, h3, h4, h5, h6⟩ => ⟨q, r, e1, h1, h2, h3, h4.keep (Same.refl _) (fun u hu => by
      rw [upd_ne]
      · exact hu
      · rintro rfl; rw [hp] at hu; cases hu), h5, RpM.upd hp h6⟩
theorem RpM.one {b : Bool} {d : Sr.D} {l : List (Bool × Sr.D)} {vs : List V} (h : RpM K mg H0 e σ H F ((b, d) :: l) vs) : ∃ v r, vs = v :: r ∧ RpM K mg H0 e σ H F l r := by
  cases b with
  | false => obtain ⟨v, r, e1, _, h2⟩ := h; exact ⟨v, r, e1, h2⟩
  | true => obtain ⟨p, r, e1, _, _, _, _, _, h2⟩ := h; exact ⟨_, r, e1, h2⟩
end
section
variable {X : Cx} {T : Pn} {W : WX} {pos : Pos} {a b c : Expr} {es : List Expr} {ms : M (List (Bool × D))}
theorem js_asgM3 {i j k : Nat} {x y z : Str} {px py pz pt : Pos} {kt k2 pt2} (hT : NoP T i) (hT' : NoP T j) (hT2 : NoP T k) (hc : X.calm = true) (hN : X.N.Nodup) (hi : X.N[i]? = some x) (hj : X.N[j]? = some y) (hk : X.N[k]? = some z)
    (hx : Loc X.env.scope x) (hy : Loc X.env.scope y) (hz : Loc X.env.scope z) (fx : X.fn x = true ∨ X.env.scope.names.lookup x = some .local) (fy : X.fn y = true ∨ X.env.scope.names.lookup y = some .local) (fz : X.fn z = true ∨ X.env.scope.names.lookup z = some .local) (ha : JM X T W [a, b, c] ms)
    (hw : swappedStores [.Tuple [.Name x px, .Name y py, .Name z pz] kt pt] (.Tuple [a, b, c] k2 pt2) X.env = pure none := by rfl)
    (hs : swapsWithSole [.Tuple [.Name x px, .Name y py, .Name z pz] kt pt] (.Tuple [a, b, c] k2 pt2) pos.line X.env = pure false := by rfl) :
    JS X T W (.Assign [.Tuple [.Name x px, .Name y py, .Name z pz] kt pt] (.Tuple [a, b, c] k2 pt2) pos) (sParM [i, j, k] ms) := by
  refine PSimp (ps_asg (pe_tup ha) (pg_tup hc (pgs_cons (pg_name hN hi hx fx) (pgs_cons (pg_name hN hj hy fy) (pgs_cons (pg_name hN hk hz fz) pgs_nil)))) hs hw) fun Dn σ H ⟨e, F, er, h⟩ => ⟨e, F, er, ?_⟩
  have hb := h.bind
  unfold RunAt at hb ⊢
  cases q : ms e with
  | ok l e1 =>
    rw [q] at hb
    intro H1 F1 er1 mv1 vs hvs
    unfold sParM at h
    unfold RunS bnd at h
    rw [q] at h
    dsimp only at h
    by_cases hl : l.length = [i, j, k].length
    · rw [if_pos hl] at h
      have hlen : vs.length = 3 := by
        match l, hl, hvs with
        | [(b1, d1), (b2, d2), (b3, d3)], _, hvs =>
          obtain ⟨v1, r1, rfl, g1⟩ := hvs.one
          obtain ⟨v2, r2, rfl, g2⟩ := g1.one
          obtain ⟨v3, r3, rfl, g3⟩ := g2.one
          rw [show r3 = [] from g3]; rfl
      refine ⟨by rw [hlen]; decide, fun p hp => ?_⟩
      have np : ¬ Ow e1 σ p := Ow.ne_of_free er1 hp
      have fp : F1 p = none := er1.sub.free hp
      have hp0 : H p = none := mv1.there p hp
      obtain ⟨er2, mv2⟩ := setM (T := T) [i, j, k] l vs e1 σ (upd H1 p (.tup vs)) F1 (fun z hz => by simp at hz; rcases hz with rfl | rfl | rfl; exact hT; exact hT'; exact hT2) hl.symm (er1.updFree fp np) (mv1.updNew hp0) (hvs.upd hp)
      match vs, hlen, hvs, er2, mv2 with
      | [v1, v2, v3], _, hvs, er2, mv2 =>
        exact ⟨p, _, rfl, Or.inl (Or.inl upd_same), rfl, v1, _, rfl, v2, _, rfl, v3, _, rfl, rfl, h _ _ F1 er2 mv2⟩
    · rw [if_neg hl] at h; exact h.elim
  | exc x e1 => rw [q] at hb; exact hb
  | bad => rw [q] at hb; exact hb
end
section
variable {X : Cx}
def gReprP : D → Option D
  | .str z => if (reprText z).length ≤ sizeLine then some (.str (reprText z)) else none
  | .bl b => some (.str (if b then "True" else "False"))
  | .non => some (.str "None")
  | _ => none
theorem call_reprP : CallR X (.builtin "repr") (fun xs H Q => (∃ z, xs = [.str z] ∧ (reprText z).length ≤ sizeLine ∧ Q (.str (reprText z)) H) ∨ (∃ b, xs = [.bl b] ∧ Q (.str (if b then "True" else "False")) H) ∨ (xs = [.non] ∧ Q (.str "None") H)) := by
  intro pins s σ H xs us Q I r h
  rcases h with ⟨z, rfl, hz, q⟩ | ⟨b, rfl, q⟩ | ⟨rfl, q⟩
  · obtain ⟨u, rfl, rx⟩ := vals1 r
    obtain ⟨t, rfl⟩ := rx
    exact PySem.P.repr_of_str (hsz := hz) ⟨.str _, H, I.kept (t' := s.toks + 1) fun b o e => e, ⟨_, rfl⟩, q⟩
  · obtain ⟨u, rfl, rx⟩ := vals1 r
    cases rx
    exact PySem.P.repr_of_bool ⟨.str _, H, I.kept (t' := s.toks + 1) fun b o e => e, ⟨_, rfl⟩, q⟩
  · obtain ⟨u, rfl, rx⟩ := vals1 r
    cases rx
    exact PySem.P.repr_of_none ⟨.str _, H, I.kept (t' := s.toks + 1) fun b o e => e, ⟨_, rfl⟩, q⟩
theorem c_reprP : Cal1 X (.builtin "repr") gReprP := by
  intro H F x d d' s r e
  cases d <;> simp only [gReprP, reduceCtorEq] at e
  · cases e
    exact ⟨_, call_reprP, fun Q q => .inr (.inr ⟨by rw [show x = .non from r], q H F _ Al.refl (by rw [rp_str])⟩)⟩
  · cases e
    exact ⟨_, call_reprP, fun Q q => .inr (.inl ⟨_, by rw [show x = .bl _ from r], q H F _ Al.refl (by rw [rp_str])⟩)⟩
  · split at e
    · rename_i hz
      cases e
      rw [rq_str] at r
      subst r
      exact ⟨_, call_reprP, fun Q q => .inl ⟨_, rfl, hz, q H F _ Al.refl (by rw [rp_str])⟩⟩
    · cases e
def gReprA : D → Option D := fun d => (gRepr d).or (gReprP d)
theorem c_reprA (hgu : X.A.guards = some []) (hu : X.A.units + 100 < cLine) : Cal1 X (.builtin "repr") gReprA := (c_repr hgu hu).or c_reprP
end
end Sr
namespace Sr
open PySem hiding start
open PySem.Spec L2
open PyProof.Rows hiding St
section
variable {X : Cx} {T : Pn} {W : WX} {pos p : Pos} {a : Expr} {ma : M D}
def rNegO (X : Cx) (C : Addr) (sp : Sp) : V → Hp → VK → Prop := fun x H Q => ∃ a dx fs, x = .ref a ∧ H a = some (.ins C dx fs) ∧ sp [x] H Q fun _ _ _ => False
theorem un_negO {k : Nat} {C fa : Addr} {fd : FuncData} {ps : List Str} {sp : Sp} (hs : PySem.W.findIn X.K (.ref C) "__neg__" = some (some (.ref fa))) (hf : PySem.W.isFn X.K (.ref fa) = true)
    (G : FnG X.prog X.w X.K X.mg X.base k fa fd ps sp) (hb : Binds X.K fd ps []) (hr : Room k X.A) (hgu : X.A.guards = some []) : UnR X (unaryOp .USub) (rNegO X C sp) := by
  intro pins s σ H x v Q I rx h
  obtain ⟨a, dx, fs, rfl, ha, hsp⟩ := h
  obtain rfl : v = Value.ref a := rx
  obtain ⟨mA, J, _⟩ := ins_get I.hok ha
  obtain ⟨od, J, _⟩ := J.look
  obtain ⟨m, hF⟩ := I.fr
  refine PySem.W.ksp_neg hF I.ok.mod.kin J hs hf ?_
  have r2 : Vals [V.ref a] [Value.ref a] := .cons (show RelV (V.ref a) (Value.ref a) from rfl) .nil
  exact run_g (W := W0) (dvs := []) (ds := []) G hr hgu hb .nil takes0 I r2 hsp
def mNegO (c : Str) (f : Fnc) (ma : M D) : M D := bnd ma fun d => match d with
  | .obj c' fs => if c' = c then (fun e => match f .non [.obj c' fs] with
    | .ok z _ => .ok z e
    | _ => .bad) else fun _ => .bad
  | _ => fun _ => .bad
theorem jv_negO {k : Nat} {c : Str} {C : Addr} {ps : List Str} {f : Fnc} {j : Nat} (O : OwnM X k c C "__neg__" 1 ps f) (hp : Pl X j) (ha : JV X T W a ma) (hj : k ≤ j := by decide) : JV X T W (.UnaryOp .USub a pos) (mNegO c f ma) := by
  obtain ⟨fa, fd, h1, h2, h3, h4⟩ := O.ex
  refine PEimp (pe_un (un_negO h1 h2 h3 h4 (hp.room.mono hj) hp.gu) ha) fun σ H Q ⟨e, F, er, h⟩ => ⟨e, F, er, h.bind.mono fun d e1 H1 F1 er1 mv1 g1 x hx => ?_⟩
  cases d with
  | obj c' fs =>
    dsimp only at g1
    by_cases hc : c' = c
    · rw [if_pos hc] at g1
      subst hc
      cases q : f .non [.obj c' fs] with
      | ok z o =>
        have hrun : RunAt X.K X.mg T W0 e1 F1 (ap0 f [.obj c' fs]) σ H1 (fun d _ H' F' => ∀ v, Rp X.K X.mg F' d v → Q v H') := by
          refine RunAt.of (x := z) (e1 := e1) (by unfold ap0; rw [q]) fun H' F' er' mv' => ?_
          unfold RunAt at g1
          simp only [q] at g1
          exact g1 H' F' er' mv'
        have hx2 := hx
        rw [rp_obj] at hx2
        obtain ⟨a', C', dx, gs, rfl, m1, m2, _⟩ := hx2
        rw [O.cl.mg] at m1; cases m1
        exact ⟨a', dx, gs, rfl, er1.sub _ _ m2, ap0_v hrun er1 (by rw [rl_cons]; exact ⟨_, _, rfl, hx, by rw [rl_nil]⟩) rfl⟩
      | exc x o => unfold RunAt at g1; simp only [q] at g1
      | bad => unfold RunAt at g1; simp only [q] at g1
    · rw [if_neg hc] at g1; exact g1.elim
  | _ => exact g1.elim
end
section
variable {X : Cx} {T : Pn} {W : WX} {pos p : Pos} {a : Expr} {ma : M D}
def rLenO (X : Cx) (C : Addr) (sp : Sp) : List V → Hp → VK → Prop := fun xs H Q => ∃ a dx fs, xs = [.ref a] ∧ H a = some (.ins C dx fs) ∧ sp [.ref a] H (fun v H' => ∃ z : Int, v = .int z ∧ (0 ≤ z ∧ z < 2 ^ 63) ∧ Q (.int z) H') fun _ _ _ => False
theorem call_lenO {k : Nat} {C fa : Addr} {fd : FuncData} {ps : List Str} {sp : Sp} (hs : PySem.W.findIn X.K (.ref C) "__len__" = some (some (.ref fa))) (hf : PySem.W.isFn X.K (.ref fa) = true)
    (G : FnG X.prog X.w X.K X.mg X.base k fa fd ps sp) (hb : Binds X.K fd ps []) (hr : Room (k + 1) X.A) (hgu : X.A.guards = some []) : CallR X (.builtin "len") (rLenO X C sp) := by
  intro pins s σ H xs us Q I r h
  obtain ⟨a, dx, fs, rfl, ha, hsp⟩ := h
  obtain ⟨u, rfl, ru⟩ := vals1 r
  obtain rfl : u = Value.ref a := ru
  obtain ⟨mA, J, _⟩ := ins_get I.hok ha
  obtain ⟨od, J, _⟩ := J.look
  obtain ⟨m, hF⟩ := I.fr
  refine PySem.W.len_K hF I.ok.mod.kin J hs hf ?_
  have r2 : Vals [V.ref a] [Value.ref a] := .cons (show RelV (V.ref a) (Value.ref a) from rfl) .nil
  refine wpAny_mono (run_gA (W := W0) G hr.in1 hgu rfl hb takes0 I r2 hsp) (fun w s' hw => ?_) fun _ _ e => e
  obtain ⟨z, H', I', rz, b, rfl, hb, q⟩ := hw
  obtain ⟨t, rfl⟩ := rz
  exact ⟨hb, .int b, H', I'.kept (t' := s'.toks + 1) fun b o e => e, ⟨_, rfl⟩, q⟩
def mLenO (c : Str) (f : Fnc) (ma : M D) : M D := bnd ma fun d => match d with
  | .obj c' fs => if c' = c then (fun e => match f .non [.obj c' fs] with
    | .ok (.int z) _ => if 0 ≤ z ∧ z < 2 ^ 63 then .ok (.int z) e else .bad
    | _ => .bad) else fun _ => .bad
  | _ => fun _ => .bad
theorem jv_lenO {k : Nat} {c : Str} {C : Addr} {ps : List Str} {f : Fnc} {j : Nat} (O : OwnM X k c C "__len__" 1 ps f) (hp : Pl X j) (hg : Gl X "len") (hm : X.mg "len" = none) (hv : bootBuiltins "len" = some (.builtin "len")) (ha : JV X T W a ma)
    (hj : k + 1 ≤ j := by decide) (he : starEach [a] X.env = (false, eval a X.env) :: starEach [] X.env := by rfl) : JV X T W (.Call (.Name "len" p) [a] [] pos) (mLenO c f ma) := by
  obtain ⟨fa, fd, h1, h2, h3, h4⟩ := O.ex
  refine PEimp (pe_callB callAny hg hm hv (pa_cons ha pa_nil he) (by decide) (by decide) he rfl) fun σ H Q ⟨e, F, er, h⟩ => ⟨e, F, er, h.bind.mono fun d e1 H1 F1 er1 mv1 g1 x hx => ?_⟩
  cases d with
  | obj c' fs =>
    dsimp only at g1
    by_cases hc : c' = c
    · rw [if_pos hc] at g1
      subst hc
      cases q : f .non [.obj c' fs] with
      | ok z o =>
        cases z with
        | int z =>
          by_cases hz : 0 ≤ z ∧ z < 2 ^ 63
          · have hrun : RunAt X.K X.mg T W0 e1 F1 (ap0 f [.obj c' fs]) σ H1 (fun d _ H' F' => ∀ v, Rp X.K X.mg F' d v → ∃ b : Int, v = .int b ∧ (0 ≤ b ∧ b < 2 ^ 63) ∧ Q (.int b) H') := by
              refine RunAt.of (x := .int z) (e1 := e1) (by unfold ap0; rw [q]) fun H' F' er' mv' v hv => ?_
              unfold RunAt at g1
              simp only [q, if_pos hz] at g1
              rw [rp_int] at hv
              exact ⟨z, hv, hz, g1 H' F' er' mv' _ (by rw [rp_int])⟩
            have hx2 := hx
            rw [rp_obj] at hx2
            obtain ⟨a', C', dx, gs, rfl, m1, m2, _⟩ := hx2
            rw [O.cl.mg] at m1; cases m1
            exact ⟨_, call_lenO h1 h2 h3 h4 (hp.room.mono hj) hp.gu, a', dx, gs, rfl, er1.sub _ _ m2, ap0_v hrun er1 (by rw [rl_cons]; exact ⟨_, _, rfl, hx, by rw [rl_nil]⟩) rfl⟩
          · unfold RunAt at g1; simp only [q, if_neg hz] at g1
        | _ => unfold RunAt at g1; simp only [q] at g1
      | exc x o => unfold RunAt at g1; simp only [q] at g1
      | bad => unfold RunAt at g1; simp only [q] at g1
    · rw [if_neg hc] at g1; exact g1.elim
  | _ => exact g1.elim
end
end Sr
namespace Sr
open PySem hiding start
open PySem.Spec L2
open PyProof.Rows hiding St
def lcB (j n : Nat) (w : D → M Unit) (t : M Bool) (el : M D) (vs : List Nat) : Nat → List D → M (List D)
  | 0, acc => fun e => match e[j]? with
    | some (.own (.lst ds)) => if ds.length = n then .ok acc e else .bad
    | _ => .bad
  | r + 1, acc => fun e => match e[j]? with
    | some (.own (.lst ds)) => if ds.length = n then (match ds[n - (r + 1)]? with
      | some d => (bnd (w d) fun _ => bnd t fun b => if b = true then bnd el fun y => (if acc.length < sizeLine then fun e => lcB j n w t el vs r (acc ++ [y]) (wipE vs e) else fun _ => .bad) else fun e => lcB j n w t el vs r acc (wipE vs e)) e
      | none => .bad) else .bad
    | _ => .bad
def mLcB (vs : List Nat) (j : Nat) (w : D → M Unit) (t : M Bool) (el : M D) : M D := fun e => match e[j]? with
  | some (.own (.lst ds)) => (match lcB j ds.length w t el vs ds.length [] (wipE vs e) with
    | .ok acc e2 => .ok (.lst acc) (rst vs e e2)
    | _ => .bad)
  | _ => .bad
theorem lcB_has {j n : Nat} {w : D → M Unit} {t : M Bool} {el : M D} {vs : List Nat} : ∀ {r : Nat} {ac : List D} {e : En} {acc : List D} {eF : En}, lcB j n w t el vs r ac e = .ok acc eF → ∃ ds, e[j]? = some (.own (.lst ds)) ∧ ds.length = n
  | 0, ac, e, acc, eF, h => by
    unfold lcB at h
    split at h
    · rename_i ds q
      split at h
      · rename_i hn; exact ⟨ds, q, hn⟩
      · cases h
    · cases h
  | r + 1, ac, e, acc, eF, h => by
    unfold lcB at h
    split at h
    · rename_i ds q
      split at h
      · rename_i hn; exact ⟨ds, q, hn⟩
      · cases h
    · cases h
section
variable {X : Cx} {T : Pn} {W : WX} {pos : Pos}
theorem walkB {K : PySem.W.Frag} {p : Addr} {n : Nat} : Walk (Itl K p) n (fun H => ∃ xs, H p = some (.lst xs) ∧ xs.length = n) (fun i H x H' => H' = H ∧ ∀ xs, SqL K H p xs → xs[i]? = some x) where
  goes := fun i H hi ⟨xs, h1, h2⟩ => ⟨xs, xs[i], SqL.of h1, List.getElem?_eq_getElem (by omega)⟩
  stops := fun H ⟨xs, h1, h2⟩ => ⟨xs, SqL.of h1, by omega⟩
  yields := fun i H x H' _ _ y => y
theorem lc_impB {vs : List Nat} {j : Nat} {w : D → M Unit} {t : M Bool} {el : M D} {σ : St} {H : Hp} {Q : VK} (hT : ∀ v ∈ vs, NoP T v) (h : TO X.K X.mg T W (mLcB vs j w t el) σ H Q) : tLc (iList X.K (TBw X.K X.mg T W (mNB j))) (TH X.K X.mg T vs w) (TT' X.K X.mg T W0 t) (TV X.K X.mg T W0 el) vs σ H Q := by
  obtain ⟨e, F, er, h⟩ := h
  unfold RunAt mLcB at h
  cases q0 : e[j]? with
  | none => simp only [q0] at h
  | some sl =>
  cases sl with
  | no => simp only [q0] at h
  | val d => simp only [q0] at h
  | own d =>
  cases d with
  | lst ds =>
    simp only [q0] at h
    cases q : lcB j ds.length w t el vs ds.length [] (wipE vs e) with
    | exc x e2 => simp only [q] at h
    | bad => simp only [q] at h
    | ok acc eF =>
    simp only [q] at h
    refine ⟨e, F, er, RunAt.of (x := .slot j) (e1 := e) (by unfold mNB; rw [q0]) fun H1 F1 er1 mv1 v hv => ?_⟩
    obtain ⟨p, s1, s2, xs0, s3, s4⟩ := er1.own j _ q0
    have hv : σ[j]? = some (some v) := hv
    rw [s1] at hv
    cases hv
    refine ⟨p, rfl, ⟨xs0, SqL.of s3⟩, fun D hD => ?_⟩
    obtain ⟨erw, mvw⟩ := er1.wip (vs := vs) hT
    have fD : F1 D = none := er1.sub.free hD
    have nD : ¬ Ow (wipE vs e) (wipe σ vs) D := Ow.ne_of_free erw hD
    have here : ∀ {e2 : En} {H2 F2 : Hp} {ds2 : List Sr.D}, ER X.K X.mg T e2 (wipe σ vs) H2 F2 → e2[j]? = some (.own (.lst ds2)) → ∃ xs, H2 p = some (.lst xs) ∧ RpL X.K X.mg F2 ds2 xs := fun {e2 H2 F2 ds2} er2 z => by
      obtain ⟨p', z1, z2, xs, z3, z4⟩ := er2.own j _ z
      rw [wipe_get] at z1
      split at z1
      · cases z1
      · rw [s1] at z1
        cases z1
        exact ⟨xs, z3, z4⟩
    refine lc_it (walkB (n := ds.length)) (fun i H' => ∃ e2 F2 ac xs, ER X.K X.mg T e2 (wipe σ vs) H' F2 ∧ Mv e σ H1 F1 e2 (wipe σ vs) H' F2 ∧ F2 D = none ∧ ¬ Ow e2 (wipe σ vs) D ∧ H' D = some (.lst xs) ∧ RpL X.K X.mg F2 ac xs ∧ lcB j ds.length w t el vs (ds.length - i) ac e2 = .ok acc eF)
      ⟨wipE vs e, F1, [], [], erw.updFree fD nD, mvw.updNew hD, fD, nD, upd_same, by rw [rl_nil], q⟩ (fun i H' _ ⟨e2, F2, ac, xs, er2, mv2, _, _, _, _, q2⟩ => ?_) ?_ ?_
    · obtain ⟨ds2, z1, z2⟩ := lcB_has q2
      obtain ⟨xs, z3, z4⟩ := here er2 z1
      exact ⟨xs, z3, by rw [← z4.len]; exact z2⟩
    · rintro i x H2 H3 hi ⟨e2, F2, ac, xs, er2, mv2, fD2, nD2, hD2, rl2, q2⟩ ⟨rfl, y⟩
      have keepD : ∀ {e4 : En} {σ4 : St} {H4 F4 : Hp}, Mv e2 (wipe σ vs) H3 F2 e4 σ4 H4 F4 → H4 D = some (.lst xs) ∧ ¬ Ow e4 σ4 D ∧ F4 D = none := fun {e4 σ4 H4 F4} mv => by
        obtain ⟨k1, k2⟩ := mv.keep D _ hD2 nD2
        refine ⟨k1, k2, ?_⟩
        cases z : F4 D with
        | none => rfl
        | some u =>
          rcases mv.new D u z with z | z | z
          · rw [fD2] at z; cases z
          · rw [hD2] at z; cases z
          · exact (nD2 z).elim
      obtain ⟨ds2, z1, z2⟩ := lcB_has q2
      obtain ⟨xs', z3, z4⟩ := here er2 z1
      obtain ⟨r, hr⟩ : ∃ r, ds.length - i = r + 1 := ⟨ds.length - i - 1, by omega⟩
      have hr2 : ds.length - (i + 1) = r := by omega
      have hri : ds.length - (r + 1) = i := by omega
      rw [hr] at q2
      unfold lcB at q2
      simp only [z1, z2, if_true, hri] at q2
      have hi2 : i < ds2.length := by omega
      rw [List.getElem?_eq_getElem hi2] at q2
      dsimp only at q2
      have rd : Rp X.K X.mg F2 ds2[i] x := by
        have hx := y xs' (SqL.of z3)
        obtain ⟨v', h1, h2⟩ := z4.get (List.getElem?_eq_getElem hi2)
        rw [h1] at hx; cases hx
        exact h2
      obtain ⟨_, e4, w4, q2⟩ := bnd_inv q2
      obtain ⟨b, e5, t5, q2⟩ := bnd_inv q2
      refine ⟨e2, F2, ds2[i], er2, rd, ?_⟩
      rw [w4]
      intro σ4 H4 F4 er4 mv4 ws
      refine ⟨ws.trans (by refine List.ext_getElem? fun j => ?_; rw [wipe_get, wipe_get, wipe_length]; by_cases hj : j ∈ vs ∧ j < σ.length <;> simp only [hj, if_true, if_false, and_self]), e4, F4, er4, RunAt.of t5 fun H5 F5 er5 mv5 => ?_⟩
      cases b with
      | false =>
        rw [if_neg (by decide)] at q2 ⊢
        have mm := mv4.trans mv5
        obtain ⟨k1, k2, k3⟩ := keepD mm
        obtain ⟨er6, mv6⟩ := er5.wip (vs := vs) hT
        have wz : wipe σ4 vs = wipe σ vs := ws.trans (by refine List.ext_getElem? fun j => ?_; rw [wipe_get, wipe_get, wipe_length]; by_cases hj : j ∈ vs ∧ j < σ.length <;> simp only [hj, if_true, if_false, and_self])
        rw [wz] at er6 mv6
        have mm2 := mm.trans mv6
        obtain ⟨_, k2', _⟩ := keepD mm2
        rw [hr2]
        exact ⟨_, F5, ac, xs, er6, mv2.trans mm2, k3, k2', k1, RpL.mono mm.sub _ _ rl2, q2⟩
      | true =>
        rw [if_pos rfl] at q2 ⊢
        obtain ⟨y', e6, el6, q2⟩ := bnd_inv q2
        refine ⟨e5, F5, er5, RunAt.of el6 fun H6 F6 er6 mv6 v hv => ?_⟩
        have mm := (mv4.trans mv5).trans mv6
        obtain ⟨k1, k2, k3⟩ := keepD mm
        split at q2
        · rename_i hz
          obtain ⟨er7, mv7⟩ := er6.wip (vs := vs) hT
          have wz : wipe σ4 vs = wipe σ vs := ws.trans (by refine List.ext_getElem? fun j => ?_; rw [wipe_get, wipe_get, wipe_length]; by_cases hj : j ∈ vs ∧ j < σ.length <;> simp only [hj, if_true, if_false, and_self])
          rw [wz] at er7 mv7
          have mm2 := mm.trans mv7
          obtain ⟨_, k2', _⟩ := keepD mm2
          have rl6 := RpL.mono mm.sub _ _ rl2
          rw [hr2]
          refine ⟨xs, k1, by rw [← rl2.len]; exact hz, _, F6, ac ++ [y'], xs ++ [v], er7.updFree k3 k2', (mv2.trans mm2).updNew hD, k3, k2', upd_same, rl6.append (by rw [rl_cons]; exact ⟨v, [], rfl, hv, by rw [rl_nil]⟩), q2⟩
        · cases q2
    · rintro H2 ⟨e2, F2, ac, xs, er2, mv2, fD2, nD2, hD2, rl2, q2⟩
      rw [Nat.sub_self] at q2
      have hl : e2.length = e.length := by rw [er2.len, wipe_length, er1.len]
      have q3 : ac = acc ∧ e2 = eF := by
        obtain ⟨ds2, z1, z2⟩ := lcB_has q2
        unfold lcB at q2
        simp only [z1, z2, if_true] at q2
        cases q2
        exact ⟨rfl, rfl⟩
      obtain ⟨rfl, rfl⟩ := q3
      obtain ⟨er3, mv3⟩ := er2.rst er1 mv2 hl
      refine h H2 F2 er3 (mv1.trans mv3) D (mv1.there D hD) fD2 (fun z => nD2 (by
        obtain ⟨j, d, q1, q2⟩ := z
        rcases rst_get q1 (fun z => nomatch z) with ⟨g1, g2⟩ | ⟨⟨d', g1⟩, _⟩
        · exact ⟨j, d, g2, by rw [wipe_out g1]; exact q2⟩
        · cases g1)) ⟨xs, hD2, rl2⟩
  | _ => simp only [q0] at h
section
variable {elt tg : Expr} {ifs : List Expr} {scope : Scope} {w : D → M Unit} {t : M Bool} {el : M D} {k : Nat}
theorem jo_lcB {x : Str} {p : Pos} (j : Nat) (own : List (Str × Nat)) (hp : Pl X k) (hc : X.calm = true) (hN : X.N.Nodup) (hT : ∀ v ∈ own.map (·.2), NoP T v) (ok : BlkOk X.N X.env.scope scope own) (hi : JB X T W (.Name x p) (mNB j))
    (hg : ∀ (s : Shared) (H : Hp) (C : Addr) (cl : List (Str × Addr)) (fp : List Addr), Pl (X.blk s H scope (compEnvC scope cl C X.env) fp) k → JH (X.blk s H scope (compEnvC scope cl C X.env) fp) T (own.map (·.2)) tg w)
    (ht : ∀ (s : Shared) (H : Hp) (C : Addr) (cl : List (Str × Addr)) (fp : List Addr), Pl (X.blk s H scope (compEnvC scope cl C X.env) fp) k → JTs (X.blk s H scope (compEnvC scope cl C X.env) fp) T W0 ifs t)
    (he : ∀ (s : Shared) (H : Hp) (C : Addr) (cl : List (Str × Addr)) (fp : List Addr), Pl (X.blk s H scope (compEnvC scope cl C X.env) fp) k → JV (X.blk s H scope (compEnvC scope cl C X.env) fp) T W0 elt el) (hs : ∀ y, foldedSetIterable (.Name x p) X.env y = pure y := by intro _; rfl) :
    JO X T W (.ListComp elt [⟨tg, .Name x p, ifs, 0⟩] scope pos) (mLcB (own.map (·.2)) j w t el) :=
  PEimp (pe_lc (g := TH X.K X.mg T (List.map (fun q : Str × Nat => q.2) own) w) (tt := TT' X.K X.mg T W0 t) (te := TV X.K X.mg T W0 el) hc hN (pi_list hi) ok (fun s H C cl fp => hg s H C cl fp hp.blk) (fun s H C cl fp => ht s H C cl fp hp.blk) (fun s H C cl fp => he s H C cl fp hp.blk) hs) fun σ H Q h => lc_impB hT h
end
theorem js_asgM4 {a b c d : Expr} {ms : M (List (Bool × D))} {i j k l : Nat} {x y z u : Str} {px py pz pu pt : Pos} {kt k2 pt2} (hT : NoP T i) (hT' : NoP T j) (hT2 : NoP T k) (hT3 : NoP T l) (hc : X.calm = true) (hN : X.N.Nodup) (hi : X.N[i]? = some x) (hj : X.N[j]? = some y) (hk : X.N[k]? = some z) (hl4 : X.N[l]? = some u)
    (hx : Loc X.env.scope x) (hy : Loc X.env.scope y) (hz : Loc X.env.scope z) (hu : Loc X.env.scope u) (fx : X.fn x = true ∨ X.env.scope.names.lookup x = some .local) (fy : X.fn y = true ∨ X.env.scope.names.lookup y = some .local) (fz : X.fn z = true ∨ X.env.scope.names.lookup z = some .local) (fu : X.fn u = true ∨ X.env.scope.names.lookup u = some .local) (ha : JM X T W [a, b, c, d] ms)
    (hw : swappedStores [.Tuple [.Name x px, .Name y py, .Name z pz, .Name u pu] kt pt] (.Tuple [a, b, c, d] k2 pt2) X.env = pure none := by rfl)
    (hs : swapsWithSole [.Tuple [.Name x px, .Name y py, .Name z pz, .Name u pu] kt pt] (.Tuple [a, b, c, d] k2 pt2) pos.line X.env = pure false := by rfl) :
    JS X T W (.Assign [.Tuple [.Name x px, .Name y py, .Name z pz, .Name u pu] kt pt] (.Tuple [a, b, c, d] k2 pt2) pos) (sParM [i, j, k, l] ms) := by
  refine PSimp (ps_asg (pe_tup ha) (pg_tup hc (pgs_cons (pg_name hN hi hx fx) (pgs_cons (pg_name hN hj hy fy) (pgs_cons (pg_name hN hk hz fz) (pgs_cons (pg_name hN hl4 hu fu) pgs_nil))))) hs hw) fun Dn σ H ⟨e, F, er, h⟩ => ⟨e, F, er, ?_⟩
  have hb := h.bind
  unfold RunAt at hb ⊢
  cases q : ms e with
  | ok L e1 =>
    rw [q] at hb
    intro H1 F1 er1 mv1 vs hvs
    unfold sParM at h
    unfold RunS bnd at h
    rw [q] at h
    dsimp only at h
    by_cases hl : L.length = [i, j, k, l].length
    · rw [if_pos hl] at h
      have hlen : vs.length = 4 := by
        match L, hl, hvs with
        | [(b1, d1), (b2, d2), (b3, d3), (b4, d4)], _, hvs =>
          obtain ⟨v1, r1, rfl, g1⟩ := hvs.one
          obtain ⟨v2, r2, rfl, g2⟩ := g1.one
          obtain ⟨v3, r3, rfl, g3⟩ := g2.one
          obtain ⟨v4, r4, rfl, g4⟩ := g3.one
          rw [show r4 = [] from g4]; rfl
      refine ⟨by rw [hlen]; decide, fun p hp => ?_⟩
      have np : ¬ Ow e1 σ p := Ow.ne_of_free er1 hp
      have fp : F1 p = none := er1.sub.free hp
      have hp0 : H p = none := mv1.there p hp
      obtain ⟨er2, mv2⟩ := setM (T := T) [i, j, k, l] L vs e1 σ (upd H1 p (.tup vs)) F1 (fun z hz => by simp at hz; rcases hz with rfl | rfl | rfl | rfl; exact hT; exact hT'; exact hT2; exact hT3) hl.symm (er1.updFree fp np) (mv1.updNew hp0) (hvs.upd hp)
      match vs, hlen, hvs, er2, mv2 with
      | [v1, v2, v3, v4], _, hvs, er2, mv2 =>
        exact ⟨p, _, rfl, Or.inl (Or.inl upd_same), rfl, v1, _, rfl, v2, _, rfl, v3, _, rfl, v4, _, rfl, rfl, h _ _ F1 er2 mv2⟩
    · rw [if_neg hl] at h; exact h.elim
  | exc x e1 => rw [q] at hb; exact hb
  | bad => rw [q] at hb; exact hb
end
end Sr
namespace Sr
open PySem hiding start
open PySem.Spec L2
open PyProof.Rows hiding St
theorem int_add_obj (a : Int) (t : Tok) (x C dx : Addr) : Meets (Builtin.«int.__add__» ⟨[.int a t, .ref x], []⟩) (fun _ R s => s.heap.get? x = some (PySem.W.instObj C dx) ∧ R (.ok (.ret Value.notImplemented)) s) :=
  .of_wp fun prog w A R s h => by obtain ⟨hp, g, d, tk, os⟩ := s; obtain ⟨hl, h⟩ := h; unfold PySem.W.instObj at hl; wp_walk; exact ⟨_, rfl, h⟩
section
open PySem.W
variable {prog : Program} {w : World} {A : Around} {E : Value → Shared → Prop} {s : Shared} {K : Frag} {x C L f fr dx : Addr} {h₀ : Heap} {m : Str → Option Value} {od : Option Obj}
theorem radd_K {n : Int} {t : Tok} {Q : Value → Shared → Prop} (Fx : PyProof.Rows.Fr h₀ L s.heap m) (X₀ : K.In h₀) (I : PySem.W.InstAt s.heap x (instObj C dx) C od) (hc : selfFirst K C = true)
    (hs : findIn K (.ref C) "__add__" = some (some (.ref f))) (hr : findIn K (.ref C) "__radd__" = some (some (.ref fr))) (hf : isFn K (.ref fr) = true) (hsub : subIn K (.ref C) (.type "int") = some false)
    (h : wpAny (model prog w) A (call (.ref fr) [.ref x, .int n t]) (PySem.W.CmpBack Q) E s) : wpAny (model prog w) A (binaryOp .Add (.int n t) (.ref x)) Q E s := by
  have X := X₀.keeps Fx.keep
  obtain ⟨cd, rest, hcd, hm⟩ := ksp_first hc
  have er : (dunderR "add") = ("__radd__" : Str) := by decide
  have ea : (PySem.dunder "add") = ("__add__" : Str) := by decide
  rw [← er] at hr
  rw [← ea] at hs
  have one := ksp_try X I hr hf h
  have L1 : Looks (model prog w) s.heap (typeOf (.ref x)) (.ref C) := I.type
  have L3 : Looks (model prog w) s.heap (fillsNumberSlot (.ref C) "add") true := fills_K X hcd hm hs
  have L5 : Looks (model prog w) s.heap (isSubtype (.ref C) (.type "int")) false := looks_subIn X hsub
  have hne : (Value.type "int" == Value.ref C) = false := Bool.eq_false_iff.mpr fun q => by cases beq_iff_eq.mp q
  have hget := I.at_
  have decl : ∀ (Q' : Option Value → Shared → Prop), Q' none s → wpAny (model prog w) A (tryMethod (.int n t) (PySem.dunder "add") (.ref x)) Q' E s := fun Q' hq =>
    wpAny_tryMethod_declines (typeIs_int s n t) F.slot_int_add (call_meets F.slot_int_add (typeIs_int s n t) F.entry_int_add (F.args_int_add_2 _ _) (int_add_obj n t x C dx) ⟨hget, rfl, hq⟩)
  simp only [binaryOp, Operator.info]
  refine wpAny_holding (wpAny_bind ?_)
  unfold binaryOp1
  refine wpAny_bind (wpAny_typeOf (typeIs_int s n t) (wpAny_bind (L1.here (wpAny_bind (wpAny_of_eq F.fills_int_add ?_)))))
  simp only [hne, Bool.false_eq_true, if_false]
  refine wpAny_bind (L3.here ?_)
  simp only [Bool.and_self, if_true]
  refine wpAny_bind (L5.here ?_)
  simp only [Bool.false_eq_true, if_false, Bool.not_false, Bool.and_self, if_true, Bool.true_and]
  have hns : numberSlotInPython (.type "int") "add" = pure false := rfl
  rw [hns, pure_bind]
  simp only [Bool.false_eq_true, if_false]
  refine wpAny_bind (decl _ ?_)
  dsimp only
  refine wpAny_bind (wpAny_mono one (fun r s' hr' => ?_) fun _ _ e => e)
  obtain ⟨v, rfl, hq⟩ := hr'
  refine wpAny_bind (wpAny_rule (wpAny_pure ?_))
  exact wpAny_pure hq
end
end Sr
namespace Sr
open PySem hiding start
open PySem.Spec L2
open PyProof.Rows hiding St
section
variable {X : Cx} {T : Pn} {W : WX} {pos p : Pos} {a b : Expr} {ma mb : M D} {c : Str} {C : Addr} {k j : Nat} {ps : List Str} {f : Fnc}
theorem pe_opW {op : Operator} {r : L2.St → R2} {ta tb : TE} (ho : ∀ (pins : List (Addr × Obj)) (s : Shared) (σ : L2.St) (H : Hp) (x y : V) (v u : Value) (Q : VK), Inv X pins σ H s → RelV x v → RelV y u → r σ x y H Q → wpAny (model X.prog X.w) X.A (binaryOp op v u) (EP X pins σ Q) X.xe s)
    (ha : PE X a ta) (hb : PE X b tb) : PE X (.BinOp a op b pos) (fun σ => tOp (r σ) ta tb σ) :=
  ⟨fun pins s σ H Q I h => wpAny_BinOp (binT (R := fun x y H2 => r σ x y H2 Q) ha hb I h fun v u s2 x y H2 I2 rx ry q => ho pins s2 σ H2 x y v u Q I2 rx ry q)⟩
theorem back_of {pins : List (Addr × Obj)} {σ : L2.St} {Q : VK} {A : Around} {m : Sem Value} {s : Shared} (h : wpAny (model X.prog X.w) A m (EP X pins σ Q) X.xe s) : wpAny (model X.prog X.w) A m (PySem.W.CmpBack (EP X pins σ Q)) X.xe s := by
  refine wpAny_mono h (fun w s' hw => ?_) fun _ _ e => e
  obtain ⟨z, H', I', rz, q⟩ := hw
  cases w <;> first
    | exact ⟨z, H', I', rz, q⟩
    | (exfalso; cases z <;> first | exact nomatch rz | (obtain ⟨_, e⟩ := rz; exact nomatch e))
def is2 (c : Str) (d1 d2 : D) : Option Unit := (isI c d1).bind fun _ => isI c d2
def isN (d : D) : Option Unit := match d with
  | .int _ => some ()
  | _ => none
def mBinO (c : Str) (f : Fnc) (ma mb : M D) : M D := bnd ma fun d1 => bnd mb fun d2 => bnd (opt (is2 c d1 d2)) fun _ => ap0 f [d1, d2]
def mBinI (c : Str) (f : Fnc) (ma mb : M D) : M D := bnd ma fun d1 => bnd mb fun d2 => bnd (opt ((isI c d1).bind fun _ => isN d2)) fun _ => ap0 f [d1, d2]
def mRbin (c : Str) (f : Fnc) (ma mb : M D) : M D := bnd ma fun d1 => bnd mb fun d2 => bnd (opt ((isN d1).bind fun _ => isI c d2)) fun _ => ap0 f [d2, d1]
theorem jv_binO {op : Operator} {mn : Str} (O : OwnM X k c C mn 2 ps f) (hsf : PySem.W.selfFirst X.K C = true) (hp : Pl X j) (tk : Takes X W) (ha : JV X T W a ma) (hb : JV X T W b mb) (hj : k ≤ j := by decide) (hop : PySem.dunder op.info.2 = mn := by decide) : JV X T W (.BinOp a op b pos) (mBinO c f ma mb) := by
  obtain ⟨fa, fd, h1, h2, h3, h4⟩ := O.ex
  rw [← hop] at h1
  refine PEimp (pe_opW (r := fun σ x y H Q => ∃ a dx fs b dx' gs, x = .ref a ∧ H a = some (.ins C dx fs) ∧ y = .ref b ∧ H b = some (.ins C dx' gs) ∧ spF0 X.K X.mg false 2 f [x, y] H Q (WE W σ)) ?_ ha hb) fun σ H Q ⟨e, F, er, h⟩ => ⟨e, F, er, h.bind.mono fun d1 e1 H1 F1 er1 mv1 g1 x hx => ⟨e1, F1, er1, g1.bind.mono fun d2 e2 H2 F2 er2 mv2 g2 y hy => ?_⟩⟩
  · intro pins s σ H x y v u Q I rx ry ⟨a, dx, fs, b, dx', gs, ex, ea, ey, eb, q⟩
    subst ex ey
    obtain rfl : v = Value.ref a := rx
    obtain rfl : u = Value.ref b := ry
    obtain ⟨mA, J, _⟩ := ins_get I.hok ea
    obtain ⟨od, J, _⟩ := J.look
    obtain ⟨mB, Jb, _⟩ := ins_get I.hok eb
    obtain ⟨odb, Jb, _⟩ := Jb.look
    obtain ⟨m, hF⟩ := I.fr
    have r2 : Vals [V.ref a, V.ref b] [Value.ref a, Value.ref b] := .cons (show RelV (V.ref a) (Value.ref a) from rfl) (.cons (show RelV (V.ref b) (Value.ref b) from rfl) .nil)
    exact PySem.W.binop_K hF I.ok.mod.kin J Jb.type hsf h1 h2 (back_of (run_g (W := W) (dvs := []) (ds := []) h3 (hp.room.mono hj) hp.gu h4 .nil tk I r2 q))
  · have hx := Rp.mono mv2.sub _ _ hx
    obtain ⟨u, hu, fin⟩ := g2.bind.fin er2
    have g3 := fin H2 F2 Al.refl
    unfold is2 at hu
    rw [Option.bind_eq_some_iff] at hu
    obtain ⟨u1, hu1, hu2⟩ := hu
    obtain ⟨a, dx, fs, rfl, ea⟩ := isI_ok O.cl.mg er2.sub hx hu1
    obtain ⟨b, dx', gs, rfl, eb⟩ := isI_ok O.cl.mg er2.sub hy hu2
    exact ⟨a, dx, fs, b, dx', gs, rfl, ea, rfl, eb, ap0_v g3 er2 (by rw [rl_cons]; exact ⟨_, _, rfl, hx, by rw [rl_cons]; exact ⟨_, _, rfl, hy, by rw [rl_nil]⟩⟩) rfl⟩
theorem isN_ok {K : PySem.W.Frag} {mg : Str → Option Value} {F : Hp} {d : D} {x : V} {u : Unit} (hx : Rp K mg F d x) (h : isN d = some u) : ∃ i, x = .int i := by
  cases d with
  | int i => exact ⟨i, by simpa [Rp] using hx⟩
  | _ => cases h
structure NumK (K : PySem.W.Frag) (C : Addr) : Prop where
  sf : PySem.W.selfFirst K C = true
  rc : ∃ rc, PySem.W.findIn K (.ref C) "__radd__" = some rc ∧ (rc = none ∨ ∃ g : Addr, rc = some (.ref g))
  i1 : ∃ fo, PySem.W.findIn K (.type "int") "__add__" = some fo
  i2 : ∃ ro, PySem.W.findIn K (.type "int") "__radd__" = some ro
  s1 : PySem.W.subIn K (.type "int") (.ref C) = some false
  s2 : PySem.W.subIn K (.ref C) (.type "int") = some false
  ad : ∃ g, PySem.W.findIn K (.ref C) "__add__" = some (some (.ref g))
theorem jv_addI (O : OwnM X k c C "__add__" 2 ps f) (N : NumK X.K C) (hp : Pl X j) (tk : Takes X W) (ha : JV X T W a ma) (hb : JV X T W b mb) (hj : k ≤ j := by decide) : JV X T W (.BinOp a .Add b pos) (mBinI c f ma mb) := by
  obtain ⟨fa, fd, h1, h2, h3, h4⟩ := O.ex
  refine PEimp (pe_opW (r := fun σ x y H Q => ∃ a dx fs i, x = .ref a ∧ H a = some (.ins C dx fs) ∧ y = .int i ∧ spF0 X.K X.mg false 2 f [x, y] H Q (WE W σ)) ?_ ha hb) fun σ H Q ⟨e, F, er, h⟩ => ⟨e, F, er, h.bind.mono fun d1 e1 H1 F1 er1 mv1 g1 x hx => ⟨e1, F1, er1, g1.bind.mono fun d2 e2 H2 F2 er2 mv2 g2 y hy => ?_⟩⟩
  · intro pins s σ H x y v u Q I rx ry ⟨a, dx, fs, i, ex, ea, ey, q⟩
    subst ex ey
    obtain rfl : v = Value.ref a := rx
    have r2 : Vals [V.ref a, V.int i] [Value.ref a, u] := .cons (show RelV (V.ref a) (Value.ref a) from rfl) (.cons ry .nil)
    obtain ⟨t, rfl⟩ := ry
    obtain ⟨mA, J, _⟩ := ins_get I.hok ea
    obtain ⟨od, J, _⟩ := J.look
    obtain ⟨m, hF⟩ := I.fr
    obtain ⟨rc, hr, hpp⟩ := N.rc
    obtain ⟨fo, hi1⟩ := N.i1
    obtain ⟨ro, hi2⟩ := N.i2
    exact PySem.W.ksp_binT (T := "int") hF I.ok.mod.kin J rfl N.sf h1 h2 hr hpp hi1 hi2 N.s1 (back_of (run_g (W := W) (dvs := []) (ds := []) h3 (hp.room.mono hj) hp.gu h4 .nil tk I r2 q))
  · have hx := Rp.mono mv2.sub _ _ hx
    obtain ⟨u, hu, fin⟩ := g2.bind.fin er2
    have g3 := fin H2 F2 Al.refl
    rw [Option.bind_eq_some_iff] at hu
    obtain ⟨u1, hu1, hu2⟩ := hu
    obtain ⟨a, dx, fs, rfl, ea⟩ := isI_ok O.cl.mg er2.sub hx hu1
    obtain ⟨i, rfl⟩ := isN_ok hy hu2
    exact ⟨a, dx, fs, i, rfl, ea, rfl, ap0_v g3 er2 (by rw [rl_cons]; exact ⟨_, _, rfl, hx, by rw [rl_cons]; exact ⟨_, _, rfl, hy, by rw [rl_nil]⟩⟩) rfl⟩
theorem jv_raddI (O : OwnM X k c C "__radd__" 2 ps f) (N : NumK X.K C) (hp : Pl X j) (tk : Takes X W) (ha : JV X T W a ma) (hb : JV X T W b mb) (hj : k ≤ j := by decide) : JV X T W (.BinOp a .Add b pos) (mRbin c f ma mb) := by
  obtain ⟨fa, fd, h1, h2, h3, h4⟩ := O.ex
  obtain ⟨g, hg⟩ := N.ad
  refine PEimp (pe_opW (r := fun σ x y H Q => ∃ a dx fs i, y = .ref a ∧ H a = some (.ins C dx fs) ∧ x = .int i ∧ spF0 X.K X.mg false 2 f [y, x] H Q (WE W σ)) ?_ ha hb) fun σ H Q ⟨e, F, er, h⟩ => ⟨e, F, er, h.bind.mono fun d1 e1 H1 F1 er1 mv1 g1 x hx => ⟨e1, F1, er1, g1.bind.mono fun d2 e2 H2 F2 er2 mv2 g2 y hy => ?_⟩⟩
  · intro pins s σ H x y v u Q I rx ry ⟨a, dx, fs, i, ey, ea, ex, q⟩
    subst ex ey
    obtain rfl : u = Value.ref a := ry
    have r2 : Vals [V.ref a, V.int i] [Value.ref a, v] := .cons (show RelV (V.ref a) (Value.ref a) from rfl) (.cons rx .nil)
    obtain ⟨t, rfl⟩ := rx
    obtain ⟨mA, J, _⟩ := ins_get I.hok ea
    obtain ⟨od, J, _⟩ := J.look
    obtain ⟨m, hF⟩ := I.fr
    exact radd_K hF I.ok.mod.kin J N.sf hg h1 h2 N.s2 (back_of (run_g (W := W) (dvs := []) (ds := []) h3 (hp.room.mono hj) hp.gu h4 .nil tk I r2 q))
  · have hx := Rp.mono mv2.sub _ _ hx
    obtain ⟨u, hu, fin⟩ := g2.bind.fin er2
    have g3 := fin H2 F2 Al.refl
    rw [Option.bind_eq_some_iff] at hu
    obtain ⟨u1, hu1, hu2⟩ := hu
    obtain ⟨i, rfl⟩ := isN_ok hx hu1
    obtain ⟨a, dx, fs, rfl, ea⟩ := isI_ok O.cl.mg er2.sub hy hu2
    exact ⟨a, dx, fs, i, rfl, ea, rfl, ap0_v g3 er2 (by rw [rl_cons]; exact ⟨_, _, rfl, hy, by rw [rl_cons]; exact ⟨_, _, rfl, hx, by rw [rl_nil]⟩⟩) rfl⟩
end
def isR : Option (Option Value) → Bool
  | some none => true
  | some (some (.ref _)) => true
  | _ => false
def isRs : Option (Option Value) → Bool
  | some (some (.ref _)) => true
  | _ => false
def numB (K : PySem.W.Frag) (c : Str) : Bool :=
  PySem.W.selfFirst K (He.ga K c) && (isR (PySem.W.findIn K (.ref (He.ga K c)) "__radd__") && ((PySem.W.findIn K (.type "int") "__add__").isSome && ((PySem.W.findIn K (.type "int") "__radd__").isSome && (decide (PySem.W.subIn K (.type "int") (.ref (He.ga K c)) = some false) &&
    (decide (PySem.W.subIn K (.ref (He.ga K c)) (.type "int") = some false) && isRs (PySem.W.findIn K (.ref (He.ga K c)) "__add__"))))))
theorem numB_ok {K : PySem.W.Frag} {c : Str} (h : numB K c = true) : NumK K (He.ga K c) := by
  unfold numB at h
  simp only [Bool.and_eq_true, decide_eq_true_eq] at h
  obtain ⟨h1, h2, h3, h4, h5, h6, h7⟩ := h
  refine ⟨h1, ?_, ?_, ?_, h5, h6, ?_⟩
  · revert h2
    cases PySem.W.findIn K (.ref (He.ga K c)) "__radd__" with
    | none => intro h; cases h
    | some o =>
      intro h
      refine ⟨o, rfl, ?_⟩
      cases o with
      | none => exact .inl rfl
      | some v => cases v <;> first | exact .inr ⟨_, rfl⟩ | cases h
  · exact ⟨_, (Option.eq_some_of_isSome h3)⟩
  · exact ⟨_, (Option.eq_some_of_isSome h4)⟩
  · revert h7
    cases PySem.W.findIn K (.ref (He.ga K c)) "__add__" with
    | none => intro h; cases h
    | some o =>
      intro h
      cases o with
      | none => cases h
      | some v => cases v <;> first | exact ⟨_, rfl⟩ | cases h
end Sr
namespace Sr
open PySem hiding start
open PySem.Spec L2
open PyProof.Rows hiding St
section
variable (K : PySem.W.Frag)
mutual
def ckV : D → Value → Bool
  | .int i, u => match u with
    | .int j _ => decide (i = j)
    | _ => false
  | .str z, u => match u with
    | .str y _ => decide (z = y)
    | _ => false
  | .ct ds, u => match u with
    | .ref a => match K.lookup a with
      | some o => decide (o.cls = .type "tuple") && (match o.data with
        | .seq its _ => decide (its.size ≤ sizeLine) && ckL ds its.toList
        | _ => false)
      | none => false
    | _ => false
  | _, _ => false
def ckL : List D → List Value → Bool
  | [], us => us.isEmpty
  | d :: ds, us => match us with
    | u :: us => ckV d u && ckL ds us
    | [] => false
end
end
section
variable {K : PySem.W.Frag} {mg : Str → Option Value}
mutual
theorem ckV_ok : ∀ (d : D) (u : Value), ckV K d u = true → ∃ v, RelV v u ∧ ∀ F, Rp K mg F d v
  | .int i, u, h => by
    unfold ckV at h
    split at h
    · rw [decide_eq_true_eq] at h
      subst h
      exact ⟨.int i, ⟨_, rfl⟩, fun F => by rw [rp_int]⟩
    · cases h
  | .str z, u, h => by
    unfold ckV at h
    split at h
    · rw [decide_eq_true_eq] at h
      subst h
      exact ⟨.str z, ⟨_, rfl⟩, fun F => by rw [rp_str]⟩
    · cases h
  | .ct ds, u, h => by
    unfold ckV at h
    split at h
    · rename_i a
      split at h
      · rename_i o ho
        rw [Bool.and_eq_true, decide_eq_true_eq] at h
        obtain ⟨h1, h2⟩ := h
        split at h2
        · rename_i its n hd
          rw [Bool.and_eq_true, decide_eq_true_eq] at h2
          obtain ⟨vs, r, q⟩ := ckL_ok ds its.toList h2.2
          refine ⟨.ref a, rfl, fun F => ?_⟩
          unfold Rp
          exact ⟨a, vs, rfl, .inr ⟨o, its, n, ho, h1, hd, h2.1, r⟩, q F⟩
        · cases h2
      · cases h
    · cases h
  | .non, u, h => by unfold ckV at h; cases h
  | .bl _, u, h => by unfold ckV at h; cases h
  | .byt _, u, h => by unfold ckV at h; cases h
  | .lst _, u, h => by unfold ckV at h; cases h
  | .tup _, u, h => by unfold ckV at h; cases h
  | .dk _, u, h => by unfold ckV at h; cases h
  | .dt _, u, h => by unfold ckV at h; cases h
  | .obj _ _, u, h => by unfold ckV at h; cases h
  | .scr _, u, h => by unfold ckV at h; cases h
theorem ckL_ok : ∀ (ds : List D) (us : List Value), ckL K ds us = true → ∃ vs, Vals vs us ∧ ∀ F, RpL K mg F ds vs
  | [], us, h => by
    unfold ckL at h
    cases us with
    | nil => exact ⟨[], .nil, fun F => by unfold RpL; rfl⟩
    | cons u us => cases h
  | d :: ds, us, h => by
    unfold ckL at h
    cases us with
    | nil => cases h
    | cons u us =>
      rw [Bool.and_eq_true] at h
      obtain ⟨v, r, q⟩ := ckV_ok d u h.1
      obtain ⟨vs, r2, q2⟩ := ckL_ok ds us h.2
      exact ⟨v :: vs, .cons r r2, fun F => by unfold RpL; exact ⟨v, vs, rfl, q F, q2 F⟩⟩
end
end
theorem jv_gT {X : Cx} {T : Pn} {W : WX} {pos : Pos} {x : Str} {u : Value} {d : D} (hg : Gl X x) (hm : X.mg x = some u) (h : ckV X.K d u = true) (hx : (x == ("__debug__" : Str)) = false := by decide) : JV X T W (.Name x pos) (ret d) := by
  obtain ⟨v, r, q⟩ := ckV_ok (mg := X.mg) d u h
  exact jv_glob hg hm r q hx
end Sr
namespace Sr
open PySem hiding start
open PySem.Spec L2
open PyProof.Rows hiding St
section
variable {X : Cx} {T : Pn} {W : WX} {pos : Pos} {k v : Expr} {tk tv : TE} {mk mv : M D} {j : Nat}
def tDisp1 (tk tv : TE) : TE := fun σ H Q => ∀ p, H p = none → tk σ (upd H p (.dT [])) fun x H1 => tv σ H1 fun y H2 => H2 p = some (.dT []) ∧ ∃ b ks, x = .ref b ∧ H2 b = some (.tup (List.map kV ks)) ∧ Q (.ref p) (upd H2 p (.dT [(ks, y)]))
theorem pe_disp1 (hu : X.A.units + 1 < cLine) (hk : PE X k tk) (hv : PE X v tv) : PE X (.Dict [some k] [v] pos) (tDisp1 tk tv) := by
  refine ⟨fun pins s σ H Q I q => ?_⟩
  have hn := I.hok.fresh (Nat.le_refl s.heap.objs.size)
  have I1 := I.laid (a := s.heap.objs.size) (o := .dT []) (h' := s.heap.push { cls := .type "dict", data := .dict #[] }) (t' := s.toks) (fun _ _ z => Heap.get?_push_of_some _ z) (Nat.le_refl _) (dt_empty s.heap I.big)
  rw [arm_eval_Dict, zip_pairTrees [some k] [v] X.env pos rfl rfl, dictDisplay_pairs (pairTrees [some k] [v] X.env pos) (by intro z; cases z) (by show 1 < 17; omega)]
  refine wpAny_bind (wpAny_standAt (wpAny_bind ?_))
  unfold subDict
  refine wpAny_bind (wpAny_alloc (wpAny_bind (wpAny_holding ?_)))
  rw [if_pos (show (pairTrees [some k] [v] X.env pos).length ≤ 15 from by show 1 ≤ 15; omega)]
  refine wpAny_bind (pairTrees_cons_walk (thn (hk.run pins _ σ _ _ I1 (q _ hn)) fun u s1 ⟨x, H1, I1', rx, q1⟩ => thn (hv.run pins s1 σ H1 _ I1' q1) fun r s2 ⟨y, H2, I2, ry, e, b, ks, ex, eb, q2⟩ => pairTrees_nil_walk ?_))
  subst ex
  obtain rfl : u = Value.ref b := rx
  refine wpAny_holding (wpAny_bind ?_)
  rw [List.forIn_cons]
  obtain ⟨z, hd, xs, rel, dd⟩ := dt_of I2.hok e
  have hz : xs.length ≤ sizeLine := by rw [← Paired.length rel]; exact z
  refine wpAny_bind (wpAny_bind (wpAny_dictSet_heap (hsz := hz) (show (tupleKind (mixKind X.prog X.w)).room X.A from Nat.lt_of_succ_lt hu) (key_of I2.hok eb) dd fun h' dd' hs => wpAny_pure ?_))
  dsimp only
  rw [List.forIn_nil]
  refine wpAny_pure (wpAny_pure (wpAny_pure (wpAny_pure ⟨.ref s.heap.objs.size, _, ?_, rfl, q2⟩)))
  obtain ⟨o, es, ep, hq, h2, h3, h4, _, h5⟩ := dd'
  have hl : (putK ([] : List (List Key × V)) ks y).length ≤ sizeLine := by
    have e : sizeLine = 16777216 := by decide
    show 1 ≤ sizeLine
    omega
  refine d_write I2 (by rw [e]; exact True.intro) hs ⟨o, hq⟩ ⟨hl, hd, _, (rel.put ks eb ry).keeps fun c ys ec => ?_, o, es, ep, hq, h2, h3, h4, h5⟩
  rw [upd_ne (ne_of ec e (fun z => nomatch z))]
  exact ec
def gDispT : List (D × D) → Option D
  | [(.tup ds, y)] => (dKeyL ds).map fun ks => .dt [(ks, y)]
  | _ => none
def mDispT (l : List (M D × M D)) : M D := bnd (mPs l) fun ds => opt (gDispT ds)
theorem jo_dispT (hp : Pl X j) (hk : JV X T W k mk) (hv : JV X T W v mv) : JO X T W (.Dict [some k] [v] pos) (mDispT [(mk, mv)]) := by
  refine PEimp (pe_disp1 hp.u1 hk hv) fun σ H Q ⟨e, F, er, h⟩ => fun p hp => ?_
  have np : ¬ Ow e σ p := Ow.ne_of_free er hp
  have fp : F p = none := er.sub.free hp
  have er0 : ER X.K X.mg T e σ (upd H p (.dT [])) F := er.updFree fp np
  have hb : RunAt X.K X.mg T W e F (mPs [(mk, mv)]) σ (upd H p (.dT [])) fun ds e1 H1 F1 => Mv e σ (upd H p (.dT [])) F e1 σ H1 F1 ∧ ∃ d, gDispT ds = some d ∧ ∀ H' F', ER X.K X.mg T e1 σ H' F' → Mv e σ H F e1 σ H' F' → ∀ q, H q = none → F' q = none → ¬ Ow e1 σ q → OwnAt X.K X.mg H' F' q d → Q (.ref q) H' := by
    unfold RunAt mDispT bnd at h
    unfold RunAt
    cases q : mPs [(mk, mv)] e with
    | ok ds e1 =>
      rw [q] at h
      intro H1 F1 er1 mv1
      dsimp only at h
      unfold opt at h
      cases qd : gDispT ds with
      | none => simp only [qd] at h
      | some d =>
        simp only [qd] at h
        exact ⟨mv1, d, rfl, fun H' F' er' mv' => h H' F' er' mv'⟩
    | exc x e1 =>
      rw [q] at h
      intro H1 F1 cl dd er1 mv1 xr
      exact h H1 F1 cl dd er1 ((Mv.refl.updNew (o := .dT []) hp).trans mv1) xr
    | bad => rw [q] at h; exact h
  refine ps_imp [(mk, mv)] e _ F _ (fun ps H2 => match ps with
    | [(x, y)] => H2 p = some (.dT []) ∧ ∃ b ks, x = .ref b ∧ H2 b = some (.tup (List.map kV ks)) ∧ Q (.ref p) (upd H2 p (.dT [(ks, y)]))
    | _ => True) er0 hb fun ds e1 H1 F1 er1 mv1 hh ps hps => ?_
  obtain ⟨_, d, hd, fin⟩ := hh
  · split
    · rename_i x y
      obtain ⟨k1, k2⟩ := mv1.keep p _ upd_same np
      have f1 : F1 p = none := by
        cases z : F1 p with
        | none => rfl
        | some u =>
          rcases mv1.new p u z with z | z | z
          · rw [fp] at z; cases z
          · rw [upd_same] at z; cases z
          · exact (np z).elim
      unfold gDispT at hd
      split at hd
      · rename_i dsk yd
        cases hq : dKeyL dsk with
        | none => rw [hq] at hd; cases hd
        | some ks =>
          rw [hq] at hd
          cases hd
          unfold RpP at hps
          obtain ⟨v', w', r', e2, hx, hy, hr⟩ := hps
          cases e2
          unfold Rp at hx
          obtain ⟨b, xs, rfl, hb2, hl⟩ := hx
          have hks := dKeyL_ok hq hl
          subst hks
          refine ⟨k1, b, ks, rfl, er1.sub _ _ hb2, ?_⟩
          exact fin _ F1 (er1.updFree f1 k2) (((Mv.refl.updNew (o := .dT []) hp).trans mv1).updNew hp) p hp f1 k2 ⟨_, upd_same, by unfold RpT; exact ⟨_, _, rfl, hy, by unfold RpT; rfl⟩⟩
      · cases hd
    · trivial
end
section
variable {X : Cx} {T : Pn} {W : WX} {pos : Pos} {a b : Expr} {ma mb : M D}
theorem jv_cmpN {op : CmpOp} {k : Nat} {c mn : Str} {C : Addr} {nf : Str → Bool} {ps : List Str} {f : Fnc} {g : D → D → Option D} {j : Nat} (O : OwnM X k c C mn 2 ps f) (N : NotF X.K X.mg C nf) (hp : Pl X j) (ho : Op2 X (compareOp op) g) (ha : JV X T W a ma) (hb : JV X T W b mb)
    (hj : k ≤ j := by decide) (hm : behindInMarks op b = false := by first | exact nomark _ | rfl) (hmn : (cmpInfo op).2.1 = mn := by decide) (hop : ∀ a b : Value, compareOp op a b = richCompare op a b := by intro _ _; rfl) : JV X T W (.Compare a [op] [b] pos) (mCmpO c nf f g ma mb) := by
  subst hmn
  exact jv_cmpO hop O N hp ho ha hb hj hm
end
end Sr
namespace Sr
open PySem hiding start
open PySem.Spec L2
open PyProof.Rows hiding St
section
variable {X : Cx} {T : Pn} {W : WX} {o e : Expr} {mo ma : M D} {apos cpos : Pos}
def rCntS (K : PySem.W.Frag) : V → List V → Hp → VK → Prop := fun x xs H Q => ∃ (a : Addr) (zs : List Str) (z : Str), x = .ref a ∧ xs = [.str z] ∧ SqL K H a (zs.map V.str) ∧ Q (.int ((zs.countP fun y => y == z : Nat) : Int)) H
theorem cnt_of {z : Str} : ∀ {zs : List Str} {us : List Value}, Vals (zs.map V.str) us → us.countP (eqU (.str z)) = zs.countP fun y => y == z
  | [], us, r => by cases r; rfl
  | y :: zs, us, r => by
    rw [List.map_cons] at r
    cases r with
    | @cons a b as bs h t =>
      rw [List.countP_cons, List.countP_cons, cnt_of t, eqU_of h rfl]
      rfl
theorem mt_cntS : MtR X "list.count" (rCntS X.K) := by
  intro pins s σ H x xs v us Q I rx rxs h
  obtain ⟨p, zs, z, rfl, rfl, hs, q⟩ := h
  cases rx
  obtain ⟨u, rfl, ru⟩ := rxs.one
  obtain ⟨its, rv, ⟨⟨cls, dd, data, sl⟩, n, ho, hc, hdn, hd⟩, hlen⟩ := I.list hs
  simp only at hc hd
  subst hc hd
  have hfl : (zs.map V.str).all flatV = true := by rw [List.all_map, List.all_eq_true]; intro _ _; rfl
  refine call_meets PySem.F.slot_list_count ⟨_, ho, rfl⟩ PySem.F.entry_list_count (PySem.F.args_list_count_2 _ _)
    (SeqAt.list_countAt p its.toArray n dd sl u (eqU (.str z))) ⟨ho, fun y hy => mem_eqAt ru rfl rv hfl y (by simpa using hy), ?_⟩
  have ec := cnt_of (z := z) rv
  refine ⟨.int ((zs.countP fun y => y == z : Nat) : Int), H, I.tok _, ⟨s.toks, ?_⟩, q⟩
  show Value.int ((its.toArray.toList.countP (eqU (.str z)) : Nat) : Int) s.toks = _
  rw [List.toList_toArray, ec]
def gCntS : D → D → Option D
  | .lst ds, .str z => (dStrs ds).map fun zs => .int ((zs.countP fun y => y == z : Nat) : Int)
  | _, _ => none
def isL : D → Option Unit
  | .lst _ => some ()
  | _ => none
def mCntS (mo ma : M D) : M D := bnd mo fun d => bnd (opt (isL d)) fun _ => bnd ma fun z => opt (gCntS d z)
theorem strs_ok {K : PySem.W.Frag} {mg : Str → Option Value} {F : Hp} : ∀ {ds : List D} {zs : List Str} {xs : List V}, dStrs ds = some zs → RpL K mg F ds xs → xs = zs.map V.str
  | [], zs, xs, h, l => by cases h; rw [rl_nil] at l; exact l
  | d :: ds, zs, xs, h, l => by
    rw [rl_cons] at l
    obtain ⟨v, vs, rfl, r, l⟩ := l
    cases d with
    | str y =>
      unfold dStrs at h
      cases q : dStrs ds with
      | none => rw [q] at h; cases h
      | some ys =>
        rw [q] at h
        cases h
        rw [rp_str] at r
        rw [r, strs_ok q l]; rfl
    | _ => cases h
theorem jv_cntS (ho : JV X T W o mo) (ha : JV X T W e ma)
    (hbase : attributeBase o "count" X.env (eval o X.env) = eval o X.env := by rfl)
    (hfew : ((backTo cpos (starEach [e] X.env)).all (fun x => !x.1) && (backToKw cpos (keywordEach [] X.env)).all (fun x => x.1.isSome)
      && decide ([e].length + ([] : List Keyword).length + (if ([] : List Keyword).isEmpty then 0 else 1) < 30)) = true := by rfl)
    (hline : (apos.endLine == cpos.line) = true := by rfl) (hs : starEach [e] X.env = (false, eval e X.env) :: starEach [] X.env := by rfl) (hplain : (backTo cpos (starEach [] X.env)).any (·.1) = false := by rfl) :
    JV X T W (.Call (.Attribute o "count" apos) [e] [] cpos) (mCntS mo ma) := by
  refine PEimp (pe_bm PySem.F.plainAttrs_list PySem.F.slot_list_count PySem.F.type_list_count mt_cntS ho (pa_cons ha pa_nil hs) hbase hfew hline hs hplain) fun σ H Q ⟨e, F, er, h⟩ => ⟨e, F, er, h.bind.mono fun d e1 H1 F1 er1 mv1 h1 v hv => ?_⟩
  obtain ⟨u, hu, fin⟩ := h1.bind.fin er1
  have h2 := fin H1 F1 Al.refl
  cases d with
  | lst ds =>
    have hv' := hv
    unfold Rp at hv'
    obtain ⟨a, xs, rfl, ea, l⟩ := hv'
    refine ⟨.inl ⟨rfl, xs, SqL.of (er1.sub _ _ ea)⟩, e1, F1, er1, h2.bind.mono fun y e2 H2 F2 er2 mv2 h3 w hw => ?_⟩
    obtain ⟨z, hz, fin2⟩ := h3.fin er2
    have ea2 := mv2.sub _ _ ea
    have l2 := RpL.mono mv2.sub _ _ l
    cases y with
    | str y =>
      simp only [gCntS] at hz
      rw [Option.map_eq_some_iff] at hz
      obtain ⟨zs, hzs, rfl⟩ := hz
      rw [rp_str] at hw
      subst hw
      have hx := strs_ok hzs l2
      subst hx
      exact ⟨a, zs, y, rfl, rfl, SqL.of (er2.sub _ _ ea2), fin2 H2 F2 Al.refl _ (by rw [rp_int])⟩
    | _ => cases hz
  | _ => cases hu
end
end Sr
namespace Sr
open PySem hiding start
open PySem.Spec L2
open PyProof.Rows hiding St
def flD : D → Option V
  | .non => some .non
  | .bl b => some (.bl b)
  | .int i => some (.int i)
  | .str x => some (.str x)
  | _ => none
def flDs : List D → Option (List V)
  | [] => some []
  | d :: ds => (flD d).bind fun v => (flDs ds).map fun vs => v :: vs
section
variable {K : PySem.W.Frag} {mg : Str → Option Value} {F : Hp}
theorem flD_ok {d : D} {v w : V} (h : flD d = some v) (r : Rp K mg F d w) : w = v ∧ flatV v = true := by
  cases d <;> simp only [flD, reduceCtorEq, Option.some.injEq] at h
  · rw [rp_non] at r; subst h; exact ⟨r, rfl⟩
  · rw [rp_bl] at r; subst h; exact ⟨r, rfl⟩
  · rw [rp_int] at r; subst h; exact ⟨r, rfl⟩
  · rw [rp_str] at r; subst h; exact ⟨r, rfl⟩
theorem flDs_ok : ∀ {ds : List D} {vs xs : List V}, flDs ds = some vs → RpL K mg F ds xs → xs = vs ∧ vs.all flatV = true
  | [], vs, xs, h, l => by cases h; rw [rl_nil] at l; exact ⟨l, rfl⟩
  | d :: ds, vs, xs, h, l => by
    rw [rl_cons] at l
    obtain ⟨v, ws, rfl, r, l⟩ := l
    simp only [flDs, Option.bind_eq_some_iff, Option.map_eq_some_iff] at h
    obtain ⟨v', h1, vs', h2, rfl⟩ := h
    obtain ⟨rfl, f1⟩ := flD_ok h1 r
    obtain ⟨rfl, f2⟩ := flDs_ok h2 l
    exact ⟨rfl, by rw [List.all_cons, f1, f2]; rfl⟩
end
section
variable {X : Cx} {T : Pn} {W : WX} {o e : Expr} {mo : M Bv} {ma : M D} {apos cpos : Pos}
def rCnt (K : PySem.W.Frag) : V → List V → Hp → VK → Prop := fun x xs H Q => ∃ (a : Addr) (ys : List V) (y : V), x = .ref a ∧ xs = [y] ∧ SqL K H a ys ∧ flatV y = true ∧ ys.all flatV = true ∧ Q (.int ((ys.countP fun z => eqV z y : Nat) : Int)) H
theorem cntF {z : V} : ∀ {ys : List V} {us : List Value}, Vals ys us → ys.all flatV = true → us.countP (eqU z) = ys.countP fun y => eqV y z
  | [], us, r, _ => by cases r; rfl
  | y :: ys, us, r, f => by
    rw [List.all_cons, Bool.and_eq_true] at f
    cases r with
    | @cons a b as bs h t =>
      rw [List.countP_cons, List.countP_cons, cntF t f.2, eqU_of h f.1]
theorem mt_cnt : MtR X "list.count" (rCnt X.K) := by
  intro pins s σ H x xs v us Q I rx rxs h
  obtain ⟨p, ys, z, rfl, rfl, hs, fz, fy, q⟩ := h
  cases rx
  obtain ⟨u, rfl, ru⟩ := rxs.one
  obtain ⟨its, rv, ⟨⟨cls, dd, data, sl⟩, n, ho, hc, hdn, hd⟩, hlen⟩ := I.list hs
  simp only at hc hd
  subst hc hd
  refine call_meets PySem.F.slot_list_count ⟨_, ho, rfl⟩ PySem.F.entry_list_count (PySem.F.args_list_count_2 _ _)
    (SeqAt.list_countAt p its.toArray n dd sl u (eqU z)) ⟨ho, fun y hy => mem_eqAt ru fz rv fy y (by simpa using hy), ?_⟩
  have ec := cntF (z := z) rv fy
  refine ⟨.int ((ys.countP fun y => eqV y z : Nat) : Int), H, I.tok _, ⟨s.toks, ?_⟩, q⟩
  show Value.int ((its.toArray.toList.countP (eqU z) : Nat) : Int) s.toks = _
  rw [List.toList_toArray, ec]
def gCnt : D → D → Option D
  | .lst ds, y => match flDs ds, flD y with
    | some vs, some v => some (.int ((vs.countP fun z => eqV z v : Nat) : Int))
    | _, _ => none
  | _, _ => none
def gIdx : D → D → Option D
  | .lst ds, y => match flDs ds, flD y with
    | some vs, some v => (vs.findIdx? fun z => eqV z v).map fun j => .int ((j : Nat) : Int)
    | _, _ => none
  | _, _ => none
def MlD (X : Cx) (id : String) (g : D → D → Option D) : Prop :=
  ∀ (H F : Hp) (x y : V) (ds : List D) (d2 d : D), Same F H → Rq X.K X.mg H F (.lst ds) x → Rp X.K X.mg F d2 y → g (.lst ds) d2 = some d →
    ∃ r, MtR X id r ∧ ∀ Q : VK, (∀ H' F' z, Al H F H' F' → Rp X.K X.mg F' d z → Q z H') → r x [y] H Q
theorem m_cnt : MlD X "list.count" gCnt := by
  intro H F x y ds d2 d s r1 r2 h
  simp only [gCnt] at h
  cases e1 : flDs ds with
  | none => simp only [e1] at h; cases h
  | some vs =>
    cases e2 : flD d2 with
    | none => simp only [e1, e2] at h; cases h
    | some v =>
      simp only [e1, e2] at h
      cases h
      obtain ⟨a, xs, rfl, q, l⟩ := r1
      obtain ⟨rfl, f1⟩ := flDs_ok e1 l
      obtain ⟨rfl, f2⟩ := flD_ok e2 r2
      exact ⟨_, mt_cnt, fun Q k => ⟨a, _, _, rfl, rfl, SqL.of q, f2, f1, k H F _ Al.refl (by rw [rp_int])⟩⟩
theorem m_idx : MlD X "list.index" gIdx := by
  intro H F x y ds d2 d s r1 r2 h
  simp only [gIdx] at h
  cases e1 : flDs ds with
  | none => simp only [e1] at h; cases h
  | some vs =>
    cases e2 : flD d2 with
    | none => simp only [e1, e2] at h; cases h
    | some v =>
      simp only [e1, e2] at h
      rw [Option.map_eq_some_iff] at h
      obtain ⟨j, h, rfl⟩ := h
      rw [List.findIdx?_eq_some_iff_getElem] at h
      obtain ⟨hj, h1, h2⟩ := h
      obtain ⟨a, xs, rfl, q, l⟩ := r1
      obtain ⟨rfl, f1⟩ := flDs_ok e1 l
      obtain ⟨rfl, f2⟩ := flD_ok e2 r2
      refine ⟨_, mt_index, fun Q k => ⟨a, _, _, j, _, rfl, rfl, SqL.of q, f2, f1, List.getElem?_eq_getElem hj, h1, fun m z' hm hz => ?_, k H F _ Al.refl (by rw [rp_int])⟩⟩
      obtain ⟨hm2, rfl⟩ := List.getElem?_eq_some_iff.mp hz
      have := h2 m hm
      simpa using this
def isLB (d : D) : Option Unit := isL d
def mMl (g : D → D → Option D) (mo : M Bv) (ma : M D) : M D := bnd mo fun b => bnd (der b) fun d => bnd (opt (isL d)) fun _ => bnd ma fun z => bnd (der b) fun d' => bnd (opt (isL d')) fun _ => opt (g d' z)
theorem isL_of {d : D} {u : Unit} (h : isL d = some u) : ∃ ds, d = .lst ds := by
  cases d <;> first | exact ⟨_, rfl⟩ | cases h
theorem jv_ml {name : Str} {id : String} {g : D → D → Option D} (slot : Slot "list" name id) (hty : typeOf (.builtin id) = pure (.type "method_descriptor")) (hm : MlD X id g) (ho : JB X T W o mo) (ha : JV X T W e ma)
    (hbase : attributeBase o name X.env (eval o X.env) = eval o X.env := by rfl)
    (hfew : ((backTo cpos (starEach [e] X.env)).all (fun x => !x.1) && (backToKw cpos (keywordEach [] X.env)).all (fun x => x.1.isSome)
      && decide ([e].length + ([] : List Keyword).length + (if ([] : List Keyword).isEmpty then 0 else 1) < 30)) = true := by rfl)
    (hline : (apos.endLine == cpos.line) = true := by rfl) (hs : starEach [e] X.env = (false, eval e X.env) :: starEach [] X.env := by rfl) (hplain : (backTo cpos (starEach [] X.env)).any (·.1) = false := by rfl) :
    JV X T W (.Call (.Attribute o name apos) [e] [] cpos) (mMl g mo ma) := by
  have hany : MtR X id (fun x xs H Q => ∃ r, MtR X id r ∧ r x xs H Q) := fun pins s σ H x xs v us Q I rx rxs ⟨r, hr, q⟩ => hr pins s σ H x xs v us Q I rx rxs q
  refine PEimp (pe_bm PySem.F.plainAttrs_list slot hty hany ho (pa_cons ha pa_nil hs) hbase hfew hline hs hplain) fun σ H Q ⟨e, F, er, h⟩ => ⟨e, F, er, h.bind.mono fun b e1 H1 F1 er1 mv1 h1 v hv => ?_⟩
  obtain ⟨d, r1, h2⟩ := der_fin h1.bind er1 hv
  obtain ⟨u, hu, fin⟩ := h2.bind.fin er1
  have h3 := fin H1 F1 Al.refl
  obtain ⟨ds, rfl⟩ := isL_of hu
  obtain ⟨a, xs, rfl, ea, l⟩ := r1
  refine ⟨.inl ⟨rfl, xs, SqL.of ea⟩, e1, F1, er1, h3.bind.mono fun y e2 H2 F2 er2 mv2 h4 w hw => ?_⟩
  obtain ⟨d', r2, h5⟩ := der_fin h4.bind er2 (hv.mono mv2.sub)
  obtain ⟨u', hu', fin'⟩ := h5.bind.fin er2
  have h6 := fin' H2 F2 Al.refl
  obtain ⟨ds', rfl⟩ := isL_of hu'
  obtain ⟨z, hz, fin2⟩ := h6.fin er2
  obtain ⟨r, hr, q⟩ := hm H2 F2 _ w ds' y z er2.sub r2 hw hz
  exact ⟨r, hr, q Q fun H' F' z al hz => fin2 H' F' al z hz⟩
def gSum : D → Option D
  | .lst ds => (dInts ds).map fun ns => .int ns.sum
  | _ => none
theorem c_sum (hc : X.calm = true) : Cal1 X (.builtin "sum") gSum := by
  intro H F x d d' s r e
  cases d <;> simp only [gSum, reduceCtorEq] at e
  rw [Option.map_eq_some_iff] at e
  obtain ⟨ns, hb, rfl⟩ := e
  obtain ⟨a, xs, rfl, h, l⟩ := r
  rw [dInts_eq hb] at l
  rw [l.ints] at h
  exact ⟨_, cr_sum hc, fun Q q => ⟨a, ns, rfl, SqL.of h, q H F _ Al.refl (by rw [rp_int])⟩⟩
def ccB (K : PySem.W.Frag) (c f : Str) (i : Int) : Bool :=
  PySem.W.readsIn K (He.ga K c) (.type "type") && (decide (PySem.W.specialIn K (.ref (He.ga K c)) "__getattribute__" = some (some (.builtin "type.__getattribute__"))) &&
    (match PySem.W.findCls K (.ref (He.ga K c)) (.type "type") f with
      | some (.val (.int j _)) => decide (j = i)
      | _ => false))
theorem jv_ccI {c f : Str} {i : Int} {p pos : Pos} (hg : Gl X c) (hm : X.mg c = some (.ref (He.ga X.K c))) (hB : ccB X.K c f i = true) (hdb : (c == ("__debug__" : Str)) = false := by decide) (hb : attributeBase (.Name c p) f X.env (eval (.Name c p) X.env) = eval (.Name c p) X.env := by rfl) : JV X T W (.Attribute (.Name c p) f pos) (ret (.int i)) := by
  unfold ccB at hB
  simp only [Bool.and_eq_true, decide_eq_true_eq] at hB
  obtain ⟨h1, h2, h3⟩ := hB
  split at h3
  · rename_i j t e
    rw [decide_eq_true_eq] at h3
    subst h3
    refine PEimp (ClX.pe_cval (pe_glob (v := .ref (He.ga X.K c)) hg hm rfl hdb) hb) fun σ H Q ⟨e0, F, er, h⟩ => ?_
    exact ⟨_, _, .int j, _, rfl, ⟨h1, h2⟩, ⟨e, ⟨t, rfl⟩⟩, h.rfin er H F Al.refl _ (by rw [rp_int])⟩
  · cases h3
end
end Sr
namespace Sr
open PySem hiding start
open PySem.Spec L2
open PyProof.Rows hiding St
section
variable {X : Cx} {T : Pn} {W : WX} {pos : Pos} {a b : Expr} {ma mb : M D}
theorem run_cmpO {op : CmpOp} {k : Nat} {c : Str} {C : Addr} {nf : Str → Bool} {ps : List Str} {f : Fnc} {g : D → D → Option D} {j : Nat} (hop : ∀ a b : Value, compareOp op a b = richCompare op a b) (O : OwnM X k c C (cmpInfo op).2.1 2 ps f) (N : NotF X.K X.mg C nf) (hp : Pl X j) (ho : Op2 X (compareOp op) g) (hj : k ≤ j) {σ : St} {H : Hp} {Q : VK} (h0 : TV X.K X.mg T W (mCmpO c nf f g ma mb) σ H Q) : TV X.K X.mg T W ma σ H fun x H1 => TV X.K X.mg T W mb σ H1 fun y H2 => rAny X (compareOp op) x y H2 Q := by
  obtain ⟨fa, fd, h1, h2, h3, h4⟩ := O.ex
  obtain ⟨e, F, er, h⟩ := h0
  refine ⟨e, F, er, h.bind.mono fun d1 e1 H1 F1 er1 mv1 g1 x hx => ⟨e1, F1, er1, g1.bind.mono fun d2 e2 H2 F2 er2 mv2 g2 y hy => ?_⟩⟩
  have hx := Rp.mono mv2.sub _ _ hx
  have plain : ∀ z, RunAt X.K X.mg T W e2 F2 (opt (g d1 d2)) σ H2 (fun d _ H' F' => ∀ v, Rp X.K X.mg F' d v → Q v H') → g d1 d2 = some z → rAny X (compareOp op) x y H2 Q := fun z hh hz => by
    obtain ⟨z', hz', fin⟩ := hh.fin er2
    obtain ⟨r, hr, q⟩ := ho H2 F2 x y d1 d2 z' er2.sub (Rp.rq er2.sub hx) (Rp.rq er2.sub hy) hz'
    exact ⟨r, hr, q Q fun H' F' z al hz => fin H' F' al z hz⟩
  have plain2 : RunAt X.K X.mg T W e2 F2 (opt (g d1 d2)) σ H2 (fun d _ H' F' => ∀ v, Rp X.K X.mg F' d v → Q v H') → rAny X (compareOp op) x y H2 Q := fun hh => by
    obtain ⟨z', hz', _⟩ := hh.fin er2
    exact plain z' hh hz'
  cases d1 with
  | obj c' fs =>
    dsimp only at g2
    by_cases hc : c' = c ∧ okK nf d2 = true
    · rw [if_pos hc] at g2
      obtain ⟨rfl, hk⟩ := hc
      cases q : f .non [.obj c' fs, d2] with
      | ok z o =>
        have hrun : RunAt X.K X.mg T W0 e2 F2 (ap0 f [.obj c' fs, d2]) σ H2 (fun d _ H' F' => ∀ v, Rp X.K X.mg F' d v → Q v H') := by
          refine RunAt.of (x := z) (e1 := e2) (by unfold ap0; rw [q]) fun H' F' er' mv' => ?_
          unfold RunAt at g2
          simp only [q] at g2
          exact g2 H' F' er' mv'
        obtain ⟨t, ty, nft⟩ := okK_ty N er2.sub hy hk
        have hx2 := hx
        rw [rp_obj] at hx2
        obtain ⟨a', C', dx, gs, rfl, m1, m2, _⟩ := hx2
        rw [O.cl.mg] at m1; cases m1
        exact ⟨_, op_cmpO hop h1 h2 h3 h4 (hp.room.mono hj) hp.gu, a', dx, gs, t, rfl, er2.sub _ _ m2, ty, nft, ap0_v hrun er2 (by rw [rl_cons]; exact ⟨_, _, rfl, hx, by rw [rl_cons]; exact ⟨_, _, rfl, hy, by rw [rl_nil]⟩⟩) rfl⟩
      | exc x o => unfold RunAt at g2; simp only [q] at g2
      | bad => unfold RunAt at g2; simp only [q] at g2
    · rw [if_neg hc] at g2
      exact plain2 g2
  | _ => exact plain2 g2
theorem run_neO {k : Nat} {c : Str} {C : Addr} {nf : Str → Bool} {ps : List Str} {f : Fnc} {g : D → D → Option D} {j : Nat} (O : OwnM X k c C "__eq__" 2 ps f) (NK : NeK X C) (N : NotF X.K X.mg C nf) (hp : Pl X j) (ho : Op2 X (compareOp .NotEq) g) (hj : k + 1 ≤ j) {σ : St} {H : Hp} {Q : VK} (h0 : TV X.K X.mg T W (mNeO c nf f g ma mb) σ H Q) : TV X.K X.mg T W ma σ H fun x H1 => TV X.K X.mg T W mb σ H1 fun y H2 => rAny X (compareOp .NotEq) x y H2 Q := by
  obtain ⟨fa, fd, h1, h2, h3, h4⟩ := O.ex
  obtain ⟨e, F, er, h⟩ := h0
  refine ⟨e, F, er, h.bind.mono fun d1 e1 H1 F1 er1 mv1 g1 x hx => ⟨e1, F1, er1, g1.bind.mono fun d2 e2 H2 F2 er2 mv2 g2 y hy => ?_⟩⟩
  have hx := Rp.mono mv2.sub _ _ hx
  have plain2 : RunAt X.K X.mg T W e2 F2 (opt (g d1 d2)) σ H2 (fun d _ H' F' => ∀ v, Rp X.K X.mg F' d v → Q v H') → rAny X (compareOp .NotEq) x y H2 Q := fun hh => by
    obtain ⟨z', hz', fin⟩ := hh.fin er2
    obtain ⟨r, hr, q⟩ := ho H2 F2 x y d1 d2 z' er2.sub (Rp.rq er2.sub hx) (Rp.rq er2.sub hy) hz'
    exact ⟨r, hr, q Q fun H' F' z al hz => fin H' F' al z hz⟩
  cases d1 with
  | obj c' fs =>
    dsimp only at g2
    by_cases hc : c' = c ∧ okK nf d2 = true
    · rw [if_pos hc] at g2
      obtain ⟨rfl, hk⟩ := hc
      cases q : f .non [.obj c' fs, d2] with
      | ok z o =>
        cases z with
        | bl z =>
          have hrun : RunAt X.K X.mg T W0 e2 F2 (ap0 f [.obj c' fs, d2]) σ H2 (fun d _ H' F' => ∀ v, Rp X.K X.mg F' d v → ∃ b, v = .bl b ∧ Q (.bl (!b)) H') := by
            refine RunAt.of (x := .bl z) (e1 := e2) (by unfold ap0; rw [q]) fun H' F' er' mv' v hv => ?_
            unfold RunAt at g2
            simp only [q] at g2
            rw [rp_bl] at hv
            exact ⟨z, hv, g2 H' F' er' mv' _ (by rw [rp_bl])⟩
          obtain ⟨t, ty, nft⟩ := okK_ty N er2.sub hy hk
          have hx2 := hx
          rw [rp_obj] at hx2
          obtain ⟨a', C', dx, gs, rfl, m1, m2, _⟩ := hx2
          rw [O.cl.mg] at m1; cases m1
          exact ⟨_, op_neO NK.ne h1 h2 NK.ob h3 h4 (hp.room.mono hj) hp.gu, a', dx, gs, t, rfl, er2.sub _ _ m2, ty, nft, ap0_v hrun er2 (by rw [rl_cons]; exact ⟨_, _, rfl, hx, by rw [rl_cons]; exact ⟨_, _, rfl, hy, by rw [rl_nil]⟩⟩) rfl⟩
        | _ => unfold RunAt at g2; simp only [q] at g2
      | exc x o => unfold RunAt at g2; simp only [q] at g2
      | bad => unfold RunAt at g2; simp only [q] at g2
    · rw [if_neg hc] at g2
      exact plain2 g2
  | _ => exact plain2 g2
theorem jt_cmpN {op : CmpOp} {k : Nat} {c mn : Str} {C : Addr} {nf : Str → Bool} {ps : List Str} {f : Fnc} {g : D → D → Option D} {j : Nat} (O : OwnM X k c C mn 2 ps f) (N : NotF X.K X.mg C nf) (hp : Pl X j) (ho : Op2 X (compareOp op) g) (ha : JV X T W a ma) (hb : JV X T W b mb)
    (hj : k ≤ j := by decide) (hm : behindInMarks op b = false := by first | exact nomark _ | rfl) (hmn : (cmpInfo op).2.1 = mn := by decide) (hop : ∀ a b : Value, compareOp op a b = richCompare op a b := by intro _ _; rfl) : JT X T W (.Compare a [op] [b] pos) (mT (mCmpO c nf f g ma mb)) := by
  subst hmn
  exact PTimp (pt_cmpR opAny ha hb hm) fun σ H Q h => run_cmpO hop O N hp ho hj (runT h)
theorem jt_neO {k : Nat} {c : Str} {C : Addr} {nf : Str → Bool} {ps : List Str} {f : Fnc} {g : D → D → Option D} {j : Nat} (O : OwnM X k c C "__eq__" 2 ps f) (NK : NeK X C) (N : NotF X.K X.mg C nf) (hp : Pl X j) (ho : Op2 X (compareOp .NotEq) g) (ha : JV X T W a ma) (hb : JV X T W b mb)
    (hj : k + 1 ≤ j := by decide) (hm : behindInMarks .NotEq b = false := by first | exact nomark _ | rfl) : JT X T W (.Compare a [.NotEq] [b] pos) (mT (mNeO c nf f g ma mb)) :=
  PTimp (pt_cmpR opAny ha hb hm) fun σ H Q h => run_neO O NK N hp ho hj (runT h)
end
end Sr
namespace Sr
open PySem hiding start
open PySem.Spec L2
open PyProof.Rows hiding St
section
variable {X : Cx} {T : Pn} {W : WX} {pos p2 p3 : Pos} {a b : Expr} {ma mb : M D}
def gIntS : List D → Option D
  | [.str z] => if z.length ≤ 640 then (PySem.intText? z).map D.int else none
  | _ => none
theorem c_intS : Cal X (.type "int") gIntS := by
  intro H F xs ds d s r e
  unfold gIntS at e
  split at e
  · split at e
    · rename_i hz
      rw [Option.map_eq_some_iff] at e
      obtain ⟨n, e, rfl⟩ := e
      obtain ⟨v, rfl, r0⟩ := rl_one r
      rw [rp_str] at r0; subst r0
      exact ⟨_, call_int_str, fun Q q => ⟨_, n, rfl, e, hz, q H F _ Al.refl (by rw [rp_int])⟩⟩
    · cases e
  · cases e
def fm2 (i : Int) : Str := if decide (i < 10) = true then (⟨#[48]⟩ : Str) ++ Str.ofString (toString i) else Str.ofString (toString i)
def gFmt2 : D → Option D
  | .int i => if 0 ≤ i ∧ i < 100 then some (.str (fm2 i)) else none
  | _ => none
def noDg (K : PySem.W.Frag) : Bool := decide (PySem.W.nsIn K cStatics "sys.int_max_str_digits" = some none)
theorem noDg_ok {pins : List (Addr × Obj)} {σ : L2.St} {H : Hp} {s : Shared} (I : Inv X pins σ H s) (h : noDg X.K = true) : s.heap.NoDigits := by
  obtain ⟨mc, G, _⟩ := I.nolimit
  exact ⟨mc, G, PySem.W.ns_none_of I.kIn G (of_decide_eq_true h)⟩
theorem spec_ok : intSpecOk "02d" = true := by decide +kernel
theorem spec_w : intSpecWidthOf "02d" = 2 := by decide +kernel
theorem spec_z : intSpecZeroOf "02d" = true := by decide +kernel
theorem pe_fmt2 {e sp : Expr} {te ts : TE} (hn : noDg X.K = true) (he : PE X e te) (hs : PE X sp ts) : PE X (.FormattedValue e (-1) (some sp) pos) (fun σ H Q => te σ H fun x H1 => ts σ H1 fun y H2 => ∃ i : Int, x = .int i ∧ y = .str "02d" ∧ 0 ≤ i ∧ i < 100 ∧ Q (.str (fm2 i)) H2) := by
  refine ⟨fun pins s σ H Q I h => ?_⟩
  refine wpAny_FormattedValue_spec (thn (he.run pins s σ H _ I h) fun v s1 ⟨x, H1, I1, r1, q1⟩ => thn (hs.run pins s1 σ H1 _ I1 q1) fun r s2 ⟨y, H2, I2, r2, i, ex, ey, h0, h1, q2⟩ => ?_)
  subst ex ey
  obtain ⟨t, rfl⟩ := r1
  obtain ⟨u, rfl⟩ := r2
  refine ⟨_, u, rfl, ?_⟩
  have hb : i.natAbs < 10 ^ 4300 := Nat.lt_of_lt_of_le (show i.natAbs < 10 ^ 2 by omega) (Nat.pow_le_pow_right (by omega) (by omega))
  refine formatField_int_specOf (noDg_ok I2 hn) hb spec_ok (fun W hW f => ?_) (by decide)
  rw [spec_w] at hW
  have hp := f.pad2 spec_z hW h0 h1
  rw [hp]
  exact ⟨.str (fm2 i), H2, I2.tok _, ⟨_, rfl⟩, q2⟩
theorem jv_fmt2 {j : Nat} (hn : noDg X.K = true) (ha : JV X T W a ma) : JV X T W (.FormattedValue a (-1) (some (.JoinedStr [.Constant (.str "02d") j p3] p2)) pos) (m1 gFmt2 ma) := by
  have hsp : JV X T W (.JoinedStr [.Constant (.str "02d") j p3] p2) (ret (.str "02d")) := pe_joined1 jv_str
  refine PEimp (pe_fmt2 hn ha hsp) fun σ H Q ⟨e, F, er, h⟩ => ⟨e, F, er, h.bind.mono fun d e1 H1 F1 er1 mv1 h1 v hv => ?_⟩
  obtain ⟨z, hz, fin⟩ := h1.fin er1
  cases d with
  | int i =>
    simp only [gFmt2] at hz
    split at hz
    · rename_i hc
      cases hz
      rw [rp_int] at hv
      subst hv
      have eo : opt (gFmt2 (.int i)) e1 = .ok (.str (fm2 i)) e1 := by
        simp only [opt, gFmt2]
        rw [if_pos hc]
      unfold RunAt at h1
      rw [eo] at h1
      refine ⟨e1, F1, er1, ?_⟩
      intro H2 F2 er2 mv2 w hw
      rw [rp_str] at hw
      exact ⟨i, rfl, hw, hc.1, hc.2, h1 H2 F2 er2 mv2 _ (by rw [rp_str])⟩
    · cases hz
  | _ => cases hz
theorem jv_js1 (ha : JV X T W a ma) : JV X T W (.JoinedStr [a] pos) ma := pe_joined1 ha
def sAugI (i : Nat) (m : M D) : M Fl := fun e => match e[i]? with
  | some (.val (.int x)) => bnd m (fun y => match y with
    | .int k => fun e1 => .ok .nx (e1.set i (.val (.int (x + k))))
    | _ => fun _ => .bad) e
  | _ => .bad
theorem js_augI {i : Nat} {x : Str} {pos' : Pos} (hT : NoP T i) (hN : X.N.Nodup) (hi : X.N[i]? = some x) (hx : Loc X.env.scope x) (ha : JV X T W a ma) (hf : X.fn x = true ∨ X.env.scope.names.lookup x = some .local := by first | exact .inl rfl | exact .inr rfl | assumption) :
    JS X T W (.AugAssign (.Name x pos') .Add a pos) (sAugI i ma) := by
  refine PSimp (ps_aug hN hi hx ha ip_add hf) fun D σ H ⟨e, F, er, h⟩ => ?_
  have h0 := h
  unfold RunS sAugI at h0
  cases q : e[i]? with
  | none => simp only [q] at h0
  | some sl =>
    cases sl with
    | no => simp only [q] at h0
    | own d => simp only [q] at h0
    | val d =>
      cases d with
      | int k =>
        obtain ⟨v, h1, h2⟩ := er.val i _ q
        rw [rp_int] at h2
        subst h2
        refine ⟨_, h1, e, F, er, ?_⟩
        have hb : RunS X.K X.mg T W e F (bnd ma (fun y => match y with
          | .int k' => fun e1 => .ok .nx (e1.set i (.val (.int (k + k'))))
          | _ => fun _ => .bad)) σ H D := by
          unfold RunS at h ⊢
          have e1 : sAugI i ma e = bnd ma (fun y => match y with
            | .int k' => fun e1 => .ok .nx (e1.set i (.val (.int (k + k'))))
            | _ => fun _ => .bad) e := by unfold sAugI; simp only [q]
          rw [← e1]
          exact h
        refine hb.bind.mono fun d e1 H1 F1 er1 mv1 g1 w hw => ?_
        cases d with
        | int k' =>
          rw [rp_int] at hw
          subst hw
          refine ⟨k, k', rfl, rfl, ?_⟩
          obtain ⟨er2, mv2⟩ := er1.setV hT (d := .int (k + k')) (v := .int (k + k')) (by rw [rp_int])
          exact g1 _ H1 F1 er2 mv2
        | _ => exact g1.elim
      | _ => simp only [q] at h0
def gRevR : List D → Option (List D)
  | [.int n] => if okR n = true then some (rngL 0 n).reverse else none
  | _ => none
end
end Sr
namespace Sr
open PySem hiding start
open PySem.Spec L2
open PyProof.Rows hiding St
theorem str_back (z : Str) : ((Builtin.Str.strSliceIndices none none (-1) z.length).filterMap (z.cps[·]?)).toArray = z.cps.reverse := by
  have e1 : Builtin.Str.strSliceIndices none none (-1) z.length = sliceRange ((z.length : Int) - 1) (-1) (-1) := by
    unfold Builtin.Str.strSliceIndices
    simp
  rw [e1]
  have hs : z.length = z.cps.size := rfl
  rw [hs, PySem.W.krv_sliceRange, PySem.W.krv_range, List.filterMap_reverse, PySem.W.krv_all]
  apply Array.toList_inj.1
  simp
def BackR (X : Cx) (r : V → Hp → VK → Prop) : Prop :=
  ∀ (pins : List (Addr × Obj)) (s : Shared) (σ : St) (H : Hp) (x : V) (v : Value) (n : Tok) (sl : Addr) (Q : VK), Inv X pins σ H s → RelV x v → s.heap.get? sl = some { cls := .type "slice", data := .fields #[.none, .none, .int (-1) n] } → r x H Q →
    ∃ T id, typeLookup (.type T) "__getitem__" = pure (some (.builtin id)) ∧ s.TypeIs v T ∧ wpAny (model X.prog X.w) X.A (getItem v (.ref sl)) (EP X pins σ Q) X.xe s
theorem back_str {X : Cx} : BackR X fun x H Q => ∃ z, x = .str z ∧ z.length ≤ sizeLine ∧ Q (.str ⟨z.cps.reverse⟩) H := by
  intro pins s σ H x v n sl Q I rx hs h
  obtain ⟨z, rfl, hz, q⟩ := h
  obtain ⟨t, rfl⟩ := rx
  refine ⟨"str", _, F.slot_str_getitem.lookup, typeIs_str _ _ _, wpAny_getItem_str_slice (l := none) (u := none) (st := some (-1, n)) ⟨_, hs, rfl, rfl⟩ rfl ?_⟩
  have e : sliceMade z t none none (some (-1, n)) = Made.str ⟨z.cps.reverse⟩ := by
    unfold sliceMade slicePicked
    rw [if_neg (by simp)]
    exact congrArg Made.str (congrArg Str.mk (str_back z))
  rw [e]
  exact ⟨by show z.cps.reverse.size ≤ sizeLine; rw [Array.size_reverse]; exact hz, V.str _, H, I.tok _, ⟨_, rfl⟩, q⟩
theorem back_list {X : Cx} : BackR X fun x H Q => ∃ a xs, x = .ref a ∧ SqL X.K H a xs ∧ ∀ p, H p = none → Q (.ref p) (upd H p (.lst xs.reverse)) := by
  intro pins s σ H x v n sl Q I rx hs h
  obtain ⟨a, xs, rfl, hx, q⟩ := h
  cases rx
  obtain ⟨its, r, ht, hz⟩ := I.list hx
  have hlen := r.length
  refine ⟨"list", _, PySem.slot_list_getitem.lookup, ht.isList.typeIs, ?_⟩
  refine wpAny_getItem_list_slice ht.isList ⟨_, hs, rfl, rfl⟩ .none .none (.int (-1) n) (by decide) ?_ (by rw [List.size_toArray]; omega)
  rw [PySem.W.krv_pick]
  exact ⟨V.ref _, _, I.laid (t' := s.toks) (o := .lst xs.reverse) (fun b u e => Heap.get?_push_of_some _ e) (Nat.le_refl _) ⟨by rw [List.length_reverse]; exact hz, _, 0, r.reverse, Heap.get?_push_size _ rfl⟩, rfl, q _ (I.hok.fresh (Nat.le_refl _))⟩
theorem BackR.or {X : Cx} {r r' : V → Hp → VK → Prop} (h : BackR X r) (h' : BackR X r') : BackR X fun x H Q => r x H Q ∨ r' x H Q := by
  intro pins s σ H x v n sl Q I rx hs q
  rcases q with q | q
  · exact h pins s σ H x v n sl Q I rx hs q
  · exact h' pins s σ H x v n sl Q I rx hs q
theorem pe_back {X : Cx} {r : V → Hp → VK → Prop} {e : Expr} {te : TE} {k : Nat} {p1 p2 p3 pos : Pos} (hr : BackR X r) (he : PE X e te) : PE X (.Subscript e (.Slice none none (some (.UnaryOp .USub (.Constant (.int 1) k p1) p2)) p3) pos) (fun σ H Q => te σ H fun x H1 => r x H1 Q) := by
  refine ⟨fun pins s σ H Q I h => Subscript_ (thn (he.run pins s σ H _ I h) fun v s1 g => ?_)⟩
  obtain ⟨x, H1, I1, r1, q1⟩ := g
  have step : PO X (some (.UnaryOp .USub (.Constant (.int 1) k p1) p2)) (tPart (tUn (rU fun i => .int (-i)) (tC (.int 1)))) := po_some (pe_un un_neg pe_int)
  refine wpAny_Slice (thn (po_none.run pins s1 σ H1 (fun o G => o = none ∧ G = H1) I1 ⟨rfl, rfl⟩) fun a1 s2 g1 => ?_)
  obtain ⟨o1, G1, J1, y1, z1, z2⟩ := g1
  subst z1 z2
  refine thn (po_none.run pins s2 σ G1 (fun o G => o = none ∧ G = G1) J1 ⟨rfl, rfl⟩) fun a2 s3 g2 => ?_
  obtain ⟨o2, G2, J2, y2, z1, z2⟩ := g2
  subst z1 z2
  refine thn (step.run pins s3 σ G2 (fun o G => o = some (-1) ∧ G = G2) J2 ⟨1, rfl, -1, rfl, rfl, rfl⟩) fun a3 s4 g3 => ?_
  obtain ⟨o3, G3, J3, y3, z1, z2⟩ := g3
  subst z1 z2
  cases y1
  cases y2
  cases y3
  rename_i n
  have J4 : Inv X pins σ G3 { s4 with heap := s4.heap.push { cls := .type "slice", data := .fields #[.none, .none, .int (-1) n] } } := J3.kept (t' := s4.toks) fun b ob q => Heap.get?_push_of_some _ q
  obtain ⟨T, id, w1, w2, w3⟩ := hr pins _ σ G3 x v n s4.heap.objs.size Q J4 r1 (Heap.get?_push_size _ rfl) q1
  exact tail_any (ops := [v, .ref s4.heap.objs.size]) w2 w1 w3 (by with_unfolding_all rfl)
def gBack : D → Option D
  | .lst ds => some (.lst ds.reverse)
  | .str z => if z.length ≤ sizeLine then some (.str ⟨z.cps.reverse⟩) else none
  | _ => none
theorem RpL.rev {K : PySem.W.Frag} {mg : Str → Option Value} {F : Hp} : ∀ {ds : List D} {xs : List V}, RpL K mg F ds xs → RpL K mg F ds.reverse xs.reverse
  | [], xs, h => by rw [rl_nil] at h; subst h; rw [List.reverse_nil, List.reverse_nil, rl_nil]
  | d :: ds, xs, h => by
    rw [rl_cons] at h
    obtain ⟨v, vs, rfl, r, l⟩ := h
    rw [List.reverse_cons, List.reverse_cons]
    exact l.rev.append (by rw [rl_cons]; exact ⟨v, [], rfl, r, by rw [rl_nil]⟩)
theorem jv_back {X : Cx} {T : Pn} {W : WX} {a : Expr} {ma : M D} {k : Nat} {p1 p2 p3 pos : Pos} (ha : JV X T W a ma) : JV X T W (.Subscript a (.Slice none none (some (.UnaryOp .USub (.Constant (.int 1) k p1) p2)) p3) pos) (m1 gBack ma) := by
  refine PEimp (pe_back (back_list.or back_str) ha) fun σ H Q ⟨e, F, er, h⟩ => ⟨e, F, er, h.bind.mono fun d e1 H1 F1 er1 mv1 h1 v hv => ?_⟩
  obtain ⟨z, hz, fin⟩ := h1.fin er1
  cases d with
  | lst ds =>
    cases hz
    rw [rp_lst] at hv
    obtain ⟨b, xs, rfl, hb, lr⟩ := hv
    refine .inl ⟨b, xs, rfl, SqL.of (er1.sub _ _ hb), fun p hp => fin _ _ (Al.one hp) _ ?_⟩
    rw [rp_lst]
    exact ⟨p, _, rfl, upd_same, RpL.mono (same_upd (er1.sub.free hp)) _ _ lr.rev⟩
  | str x =>
    simp only [gBack] at hz
    split at hz
    · cases hz
      rename_i hx
      rw [rp_str] at hv
      exact .inr ⟨x, hv, hx, fin _ _ Al.refl _ (by rw [rp_str])⟩
    · cases hz
  | _ => cases hz
def gIsB : D → D → Option D
  | .bl a, .bl b => some (.bl (decide (a = b)))
  | _, _ => none
def gNotB : D → D → Option D
  | .bl a, .bl b => some (.bl (!decide (a = b)))
  | _, _ => none
theorem o_isB {X : Cx} : Op2 X (compareOp .Is) gIsB := by
  intro H F x y d1 d2 d s r1 r2 e
  unfold gIsB at e
  split at e
  · cases e
    have r1 := flat_rq rfl r1
    have r2 := flat_rq rfl r2
    rw [rp_bl] at r1 r2
    subst r1 r2
    exact ⟨_, op_isBl, fun Q q => ⟨_, _, rfl, rfl, q H F _ Al.refl (by rw [rp_bl])⟩⟩
  · cases e
theorem o_notB {X : Cx} : Op2 X (compareOp .IsNot) gNotB := by
  intro H F x y d1 d2 d s r1 r2 e
  unfold gNotB at e
  split at e
  · cases e
    have r1 := flat_rq rfl r1
    have r2 := flat_rq rfl r2
    rw [rp_bl] at r1 r2
    subst r1 r2
    exact ⟨_, op_notBl, fun Q q => ⟨_, _, rfl, rfl, q H F _ Al.refl (by rw [rp_bl])⟩⟩
  · cases e
end Sr
namespace Sr
open PySem hiding start
open PySem.Spec L2
open PyProof.Rows hiding St
def ItzS (x y : Str) : It :=
  ⟨fun i _ => i < x.cps.size ∧ i < y.cps.size,
   fun i H v H' => ∃ T c d, v = .ref T ∧ H T = none ∧ H' = upd H T (.tup [.str ⟨#[c]⟩, .str ⟨#[d]⟩]) ∧ x.cps[i]? = some c ∧ y.cps[i]? = some d,
   fun i _ => (i ≤ x.cps.size ∧ i ≤ y.cps.size) ∧ (i = x.cps.size ∨ i = y.cps.size)⟩
theorem turn_zipS {P : Program} {w : World} {K : PySem.W.Frag} {els : List Expr} {k0 : Nat} {tp : Pos} {z TI TO j1 j2 : Addr} {x y : Str} {t u : Tok} (S : ZipSep2 z TI TO j1 j2 [j1] [j2]) :
    Turn P w K (.Tuple els k0 tp) (ItzS x y) [z, TI, TO, j1, j2] z (fun i h => IsZip h z TI TO .none ∧ IsTupOf2 h TI (.ref j1) (.ref j2) ∧ (∃ a b, IsTupOf2 h TO a b) ∧ h.IsStrIter j1 (strIterType x) x t i ∧ h.IsStrIter j2 (strIterType y) y u i) where
  mem := by simp
  obj := fun i h st c hc => by
    obtain ⟨w1, w2, ⟨a, b, w3⟩, ⟨o1, e1, _, d1⟩, ⟨o2, e2, _, d2⟩⟩ := st
    simp only [List.mem_cons, List.not_mem_nil, or_false] at hc
    rcases hc with rfl | rfl | rfl | rfl | rfl
    · exact ⟨_, w1, fun v q => nomatch q⟩
    · exact ⟨_, w2, fun v q => nomatch q⟩
    · exact ⟨_, w3, fun v q => nomatch q⟩
    · exact ⟨o1, e1, fun v q => by rw [d1] at q; cases q⟩
    · exact ⟨o2, e2, fun v q => by rw [d2] at q; cases q⟩
  keep := fun i h h' st kp => by
    obtain ⟨w1, w2, ⟨a, b, w3⟩, ⟨o1, e1, c1, d1⟩, ⟨o2, e2, c2, d2⟩⟩ := st
    exact ⟨kp z (by simp) _ w1, kp TI (by simp) _ w2, ⟨a, b, kp TO (by simp) _ w3⟩, ⟨o1, kp j1 (by simp) _ e1, c1, d1⟩, ⟨o2, kp j2 (by simp) _ e2, c2, d2⟩⟩
  item := by
    intro X hP hw hK hc i pins s σ H E I hf st hg
    subst hP hw hK
    obtain ⟨w1, w2, ⟨a, b, w3⟩, k1, k2⟩ := st
    have hh : X.A.in1.handled = none := I.ok.hd hc
    have D1 := Draws.text (prog := X.prog) (w := X.w) hh j1 x t
    have D2 := Draws.text (prog := X.prog) (w := X.w) hh j2 y u
    have zl : z < s.heap.objs.size := Heap.lt_size w1
    refine wpAny_pyNext_zipD2_item S D1 D2 w1 w2 w3 k1 k2 hg.1 hg.2 fun v1 v2 g tk p1 p2 r1 r2 r3 r4 r5 r6 kp => ?_
    obtain ⟨c, n1, q1, rfl⟩ := p1
    obtain ⟨d, n2, q2, rfl⟩ := p2
    refine ⟨_, rfl, wpAny_letOwnedTupleGo_zip (s := { s with heap := g, toks := tk }) r1 fun g' z' sb => ?_⟩
    have tp' : g'.get? s.heap.objs.size = some { cls := .type "tuple", data := .seq #[.str ⟨#[c]⟩ n1, .str ⟨#[d]⟩ n2] } := (sb.2 _ (Nat.ne_of_gt zl)).trans r5
    have nw : ObjOk X.prog X.w (upd H s.heap.objs.size (.tup [.str ⟨#[c]⟩, .str ⟨#[d]⟩])) g' s.heap.objs.size (.tup [.str ⟨#[c]⟩, .str ⟨#[d]⟩]) :=
      ⟨by show 2 ≤ sizeLine; decide, _, .cons ⟨_, rfl⟩ (.cons ⟨_, rfl⟩ .nil), ⟨_, tp', rfl, _, rfl⟩⟩
    have I1 : Inv X pins σ (upd H s.heap.objs.size (.tup [.str ⟨#[c]⟩, .str ⟨#[d]⟩])) { s with heap := g', toks := tk } :=
      I.turnedNew (t' := tk) (ch := [z, TI, TO, j1, j2]) (fun l o hb q => (sb.2 l (fun e => hb (by simp [e]))).trans (kp l o (fun e => hb (by simp [e])) (fun e => hb (by simp [e])) (fun e => hb (by simp [e])) (fun e => hb (by simp [e])) q)) hf (Nat.le_refl _) nw
    refine ⟨.ref s.heap.objs.size, _, I1, rfl, ⟨_, c, d, rfl, I.hok.fresh (Nat.le_refl _), rfl, q1, q2⟩, ⟨z', ?_, ⟨_, _, (sb.2 _ S.TOz).trans r2⟩, ?_, ?_⟩, fun l hl => ?_⟩
    · exact (sb.2 _ S.TIz).trans (kp _ _ S.TIz S.TITO S.TIi1 S.TIi2 w2)
    · obtain ⟨o, e, r⟩ := r3
      exact ⟨o, (sb.2 _ (Ne.symm S.zi1)).trans e, r⟩
    · obtain ⟨o, e, r⟩ := r4
      exact ⟨o, (sb.2 _ (Ne.symm S.zi2)).trans e, r⟩
    · have hlt : l < s.heap.objs.size := by
        have hl' := hl
        simp only [List.mem_cons, List.not_mem_nil, or_false] at hl'
        rcases hl' with rfl | rfl | rfl | rfl | rfl
        · exact zl
        · exact Heap.lt_size w2
        · exact Heap.lt_size w3
        · obtain ⟨_, e, _⟩ := k1; exact Heap.lt_size e
        · obtain ⟨_, e, _⟩ := k2; exact Heap.lt_size e
      rw [upd_ne (Nat.ne_of_lt hlt)]
      exact (hf l hl).1
  done := by
    intro X hP hw hK hc i pins s σ H E I hf st hg
    subst hP hw hK
    obtain ⟨w1, w2, ⟨a, b, w3⟩, k1, k2⟩ := st
    have hh : X.A.in1.handled = none := I.ok.hd hc
    exact wpAny_pyNext_zipD2_end S (Draws.text (prog := X.prog) (w := X.w) hh j1 x t) (Draws.text (prog := X.prog) (w := X.w) hh j2 y u) w1 w2 w3 k1 k2 hg.1.1 hg.1.2 hg.2 fun g tk kp => ⟨rfl, I.turnedL (t' := tk) (ch := [z, TI, TO, j1, j2]) (fun l o hb q =>
      kp l o (fun e => hb (by simp [e])) (fun e => hb (by simp [e])) (fun e => hb (by simp [e])) (fun e => hb (by simp [e])) q) hf⟩
  self := fun A i s Q E st q => wpAny_pyIter_zip st.1 q
def iZipX (K : PySem.W.Frag) (ta : TA) : TI := fun σ H R => ta σ H fun vs H1 =>
  (∃ x y, vs = [.str x, .str y] ∧ R (ItzS x y) H1) ∨ (∃ a b xs ys, vs = [.ref a, .ref b] ∧ SqL K H1 a xs ∧ SqL K H1 b ys ∧ R (Itz K a b) H1) ∨ (∃ a b xs ys, vs = [.ref a, .ref b] ∧ SqT K H1 a xs ∧ SqT K H1 b ys ∧ R (RZ.ItzT K a b) H1)
theorem pi_zipX {X : Cx} {a b : Expr} {ta : TA} {p pos tp : Pos} {els : List Expr} {k0 : Nat} (hg : Gl X "zip") (hm : X.mg "zip" = none) (ha : PA X [a, b] ta)
    (hs : starEach [a, b] X.env = (false, eval a X.env) :: starEach [b] X.env := by rfl) (hpl : (backTo pos (starEach [b] X.env)).any (·.1) = false := by rfl) : PI X (.Tuple els k0 tp) (.Call (.Name "zip" p) [a, b] [] pos) (iZipX X.K ta) := by
  refine ⟨fun pins s σ H R I h => Call_ (ld_blt I hg hm PyProof.Rows.boot_zip (PyProof.Rows.callWith_type1 (thn (ha.run pos pins s σ H _ I h) fun us s1 g => ?_) hs hpl))⟩
  obtain ⟨vs, H1, I1, rr, g⟩ := g
  have fr : ∀ l ∈ [s1.heap.objs.size + 4, s1.heap.objs.size + 2, s1.heap.objs.size + 3, s1.heap.objs.size, s1.heap.objs.size + 1], FpOk X pins H1 l := fun l hl => by
    have hle : s1.heap.objs.size ≤ l := by
      simp only [List.mem_cons, List.not_mem_nil, or_false] at hl
      rcases hl with rfl | rfl | rfl | rfl | rfl <;> omega
    exact I1.fpOk hle (I1.hok.fresh hle)
  rcases g with ⟨x, y, rfl, q⟩ | ⟨l, m, xs, ys, rfl, hx, hy, q⟩ | ⟨l, m, xs, ys, rfl, hx, hy, q⟩
  · obtain ⟨u1, us1, rfl, r1, rr⟩ : ∃ u1 us1, us = u1 :: us1 ∧ RelV (.str x) u1 ∧ Vals [.str y] us1 := by cases rr with | cons p q => exact ⟨_, _, rfl, p, q⟩
    obtain ⟨u2, rfl, r2⟩ := vals1 rr
    obtain ⟨t1, rfl⟩ := r1
    obtain ⟨t2, rfl⟩ := r2
    refine zip_begins2 (begins_text x t1) (begins_text y t2) True.intro True.intro fun g w1 w2 w3 w4 w5 w6 kp => wpAny_pyIter_zip w1 ?_
    have I2 : Inv X pins σ H1 { s1 with heap := g } := I1.kept (t' := s1.toks) kp
    have S : ZipSep2 (s1.heap.objs.size + 4) (s1.heap.objs.size + 2) (s1.heap.objs.size + 3) s1.heap.objs.size (s1.heap.objs.size + 1) [s1.heap.objs.size] [s1.heap.objs.size + 1] := by
      constructor <;> simp
    exact ⟨s1.heap.objs.size + 4, [s1.heap.objs.size + 4, s1.heap.objs.size + 2, s1.heap.objs.size + 3, s1.heap.objs.size, s1.heap.objs.size + 1], _, _, H1, rfl, I2, turn_zipS (x := x) (y := y) (t := t1) (u := t2) S, ⟨w1, w2, ⟨_, _, w3⟩, ⟨_, w4, rfl, rfl⟩, ⟨_, w5, rfl, rfl⟩⟩, fr, q⟩
  · obtain ⟨u1, us1, rfl, r1, rr⟩ : ∃ u1 us1, us = u1 :: us1 ∧ RelV (.ref l) u1 ∧ Vals [.ref m] us1 := by cases rr with | cons p q => exact ⟨_, _, rfl, p, q⟩
    obtain ⟨u2, rfl, r2⟩ := vals1 rr
    cases r1
    cases r2
    obtain ⟨is1, _, f1, _⟩ := I1.list hx
    obtain ⟨is2, _, f2, _⟩ := I1.list hy
    refine call_zip_2 f1.isList f2.isList fun g w1 w2 w3 w4 w5 w6 kp => wpAny_pyIter_zip w1 ?_
    have I2 : Inv X pins σ H1 { s1 with heap := g } := I1.kept (t' := s1.toks) kp
    exact ⟨_, _, _, _, H1, rfl, I2, turn_zip (PySem.W.ktu_apart s1.heap.objs.size l m f1.lt f2.lt), ⟨w1, w2, ⟨_, _, w3⟩, w4, w5⟩, fr, q⟩
  · obtain ⟨u1, us1, rfl, r1, rr⟩ : ∃ u1 us1, us = u1 :: us1 ∧ RelV (.ref l) u1 ∧ Vals [.ref m] us1 := by cases rr with | cons p q => exact ⟨_, _, rfl, p, q⟩
    obtain ⟨u2, rfl, r2⟩ := vals1 rr
    cases r1
    cases r2
    obtain ⟨is1, _, f1, _⟩ := I1.tuple hx
    obtain ⟨is2, _, f2, _⟩ := I1.tuple hy
    obtain ⟨o1, n1, _⟩ := id f1
    obtain ⟨o2, n2, _⟩ := id f2
    refine RZ.call_zipT (show s1.heap.IsTuple l is1.toArray from f1) (show s1.heap.IsTuple m is2.toArray from f2) fun g w1 w2 w3 w4 w5 w6 kp => wpAny_pyIter_zip w1 ?_
    have I2 : Inv X pins σ H1 { s1 with heap := g } := I1.kept (t' := s1.toks) kp
    exact ⟨_, _, _, _, H1, rfl, I2, RZ.turn_zipT (PySem.W.ktu_apart s1.heap.objs.size l m (Heap.lt_size n1) (Heap.lt_size n2)), ⟨w1, w2, ⟨_, _, w3⟩, w4, w5⟩, fr, q⟩
theorem walk_zipT {K : PySem.W.Frag} {a b : Addr} {xs ys : List V} : Walk (RZ.ItzT K a b) (min xs.length ys.length) (fun H => SqT K H a xs ∧ SqT K H b ys) (YPair (fun i => xs[i]?) (fun i => ys[i]?)) := by
  refine ⟨fun i _ hi q => ?_, fun _ q => ⟨xs, ys, q.1, q.2, by omega⟩, fun i H v H' _ q y => ?_⟩
  · have h1 : i < xs.length := by omega
    have h2 : i < ys.length := by omega
    exact ⟨xs, ys, xs[i], ys[i], q.1, q.2, by simp [h1], by simp [h2]⟩
  · obtain ⟨T, x, z, h1, h2, h3, h4, h5⟩ := y
    exact ⟨T, x, z, h1, h2, h3, h4 xs q.1, h5 ys q.2⟩
theorem walk_zipS {x y : Str} : Walk (ItzS x y) (min x.cps.size y.cps.size) (fun _ => True) (YPair (fun i => (x.cps[i]?).map fun c => .str ⟨#[c]⟩) (fun i => (y.cps[i]?).map fun c => .str ⟨#[c]⟩)) := by
  refine ⟨fun i _ hi _ => ⟨by omega, by omega⟩, fun _ _ => ⟨⟨by omega, by omega⟩, by omega⟩, fun i H v H' _ _ q => ?_⟩
  obtain ⟨T, c, d, h1, h2, h3, h4, h5⟩ := q
  exact ⟨T, _, _, h1, h2, h3, by simp [h4], by simp [h5]⟩
def charsD (z : Str) : List D := z.cps.toList.map fun c => .str ⟨#[c]⟩
def gZipA : List D → Option (List D)
  | [.lst ds, .lst es] => some (zipL ds es)
  | [.tup ds, .tup es] => some (zipL ds es)
  | [.str x, .str y] => some (zipL (charsD x) (charsD y))
  | _ => none
def mZipA (ms : M (List D)) : M (List D) := bnd ms fun ds => opt (gZipA ds)
theorem chars_get {z : Str} {i : Nat} {v : V} (h : ((z.cps[i]?).map fun c => V.str ⟨#[c]⟩) = some v) : ∃ d, (charsD z)[i]? = some d ∧ ∀ K mg F, Rp K mg F d v := by
  rw [Option.map_eq_some_iff] at h
  obtain ⟨c, h, rfl⟩ := h
  refine ⟨.str ⟨#[c]⟩, ?_, fun K mg F => by rw [rp_str]⟩
  unfold charsD
  rw [List.getElem?_map, Array.getElem?_toList, h]
  rfl
theorem ji_zipA {X : Cx} {T : Pn} {W : WX} {a b : Expr} {ms : M (List D)} {p pos tp : Pos} {els : List Expr} {k0 : Nat} (hg : Gl X "zip") (hm : X.mg "zip" = none) (ha : JA X T W [a, b] ms)
    (hs : starEach [a, b] X.env = (false, eval a X.env) :: starEach [b] X.env := by rfl) (hpl : (backTo pos (starEach [b] X.env)).any (·.1) = false := by rfl) : JI X T W (.Tuple els k0 tp) (.Call (.Name "zip" p) [a, b] [] pos) (mZipA ms) := by
  refine PIimp (pi_zipX hg hm ha hs hpl) fun σ H R ⟨e, F, er, h⟩ => ⟨e, F, er, h.bind.mono fun ds e1 H1 F1 er1 mv1 h1 vs hvs => ?_⟩
  obtain ⟨z, hz, fin⟩ := h1.fin er1
  unfold gZipA at hz
  split at hz
  · cases hz
    obtain ⟨v, w, rfl, r, r'⟩ := rl_two hvs
    rw [rp_lst] at r r'
    obtain ⟨l, xs, rfl, hl, rl⟩ := r
    obtain ⟨l', ys, rfl, hl', rl'⟩ := r'
    refine .inr (.inl ⟨l, l', xs, ys, rfl, SqL.of (er1.sub _ _ hl), SqL.of (er1.sub _ _ hl'), fin H1 F1 Al.refl _ ?_⟩)
    refine walks_pair (walk_zip (K := X.K) (a := l) (b := l') (xs := xs) (ys := ys) rfl) (by rw [zipL_len, rl.len, rl'.len]) (fun H s => ⟨SqL.of (s _ _ hl), SqL.of (s _ _ hl')⟩) fun i x y hi h1 h2 => ?_
    obtain ⟨d, h3, h4⟩ := rl.getV h1
    obtain ⟨d', h5, h6⟩ := rl'.getV h2
    exact ⟨d, d', zipL_get h3 h5, h4, h6⟩
  · cases hz
    obtain ⟨v, w, rfl, r, r'⟩ := rl_two hvs
    rw [rp_tup] at r r'
    obtain ⟨l, xs, rfl, hl, rl⟩ := r
    obtain ⟨l', ys, rfl, hl', rl'⟩ := r'
    refine .inr (.inr ⟨l, l', xs, ys, rfl, SqT.of (er1.sub _ _ hl), SqT.of (er1.sub _ _ hl'), fin H1 F1 Al.refl _ ?_⟩)
    refine walks_pair (walk_zipT (K := X.K) (a := l) (b := l') (xs := xs) (ys := ys)) (by rw [zipL_len, rl.len, rl'.len]) (fun H s => ⟨SqT.of (s _ _ hl), SqT.of (s _ _ hl')⟩) fun i x y hi h1 h2 => ?_
    obtain ⟨d, h3, h4⟩ := rl.getV h1
    obtain ⟨d', h5, h6⟩ := rl'.getV h2
    exact ⟨d, d', zipL_get h3 h5, h4, h6⟩
  · rename_i x y
    cases hz
    obtain ⟨v, w, rfl, r, r'⟩ := rl_two hvs
    rw [rp_str] at r r'
    subst r r'
    refine .inl ⟨x, y, rfl, fin H1 F1 Al.refl _ ?_⟩
    refine walks_pair (walk_zipS (x := x) (y := y)) (by rw [zipL_len]; unfold charsD; simp) (fun H s => True.intro) fun i u v hi h1 h2 => ?_
    obtain ⟨d, h3, h4⟩ := chars_get h1
    obtain ⟨d', h5, h6⟩ := chars_get h2
    exact ⟨d, d', zipL_get h3 h5, h4 _ _ _, h6 _ _ _⟩
  · cases hz
end Sr
namespace Sr
open PySem hiding start
open PySem.Spec L2
open PyProof.Rows hiding St
def vP : V → Option PyData
  | .non => some .none
  | .bl b => some (.bool b)
  | .int i => some (.int i)
  | .str x => some (.str x)
  | _ => none
def kP : Key → PyData
  | .inl i => .int i
  | .inr x => .str x
def vPs : List (Key × V) → Option (List (PyData × PyData))
  | [] => some []
  | (k, v) :: r => (vP v).bind fun p => (vPs r).map fun ps => (kP k, p) :: ps
def dP : D → Option PyData
  | .non => some .none
  | .bl b => some (.bool b)
  | .int i => some (.int i)
  | .str x => some (.str x)
  | _ => none
def dPs : List (Key × D) → Option (List (PyData × PyData))
  | [] => some []
  | (k, v) :: r => (dP v).bind fun p => (dPs r).map fun ps => (kP k, p) :: ps
theorem vP_reads {h : Heap} {v : V} {u : Value} {p : PyData} (e : vP v = some p) (r : RelV v u) : Reads h u p [] := by
  cases v <;> simp only [vP, Option.some.injEq, reduceCtorEq] at e <;> subst e
  · cases r; exact .none
  · cases r; exact .bool _
  · obtain ⟨t, rfl⟩ := r; exact .int _ t
  · obtain ⟨t, rfl⟩ := r; exact .str _ t
theorem kP_reads {h : Heap} {k : Key} {u : Value} (e : keyIs k u = true) : Reads h u (kP k) [] := by
  rcases keyIs_shape e with ⟨i, t, rfl, rfl⟩ | ⟨x, t, rfl, rfl⟩
  · exact .int _ t
  · exact .str _ t
theorem vPs_reads {P : Program} {w : World} {h : Heap} : ∀ {ys : List (Key × V)} {vs : List (Key × Value)} {es : List DictEntry} {ps : List (PyData × PyData)}, vPs ys = some ps → KV ys vs → Pairs (mixKind P w) es vs → ReadsAll h (es.map (·.key)) (ps.map (·.1)) [] ∧ ReadsAll h (es.map (·.val)) (ps.map (·.2)) []
  | [], vs, es, ps, e, r, q => by
    cases e
    cases r
    cases q
    exact ⟨.nil, .nil⟩
  | (k, v) :: ys, vs, es, ps, e, r, q => by
    simp only [vPs, Option.bind_eq_some_iff, Option.map_eq_some_iff] at e
    obtain ⟨p, e1, ps', e2, rfl⟩ := e
    cases r with
    | cons r1 r2 =>
      cases q with
      | cons q1 q2 q3 =>
        rename_i kv _ en _
        obtain ⟨h1, h2⟩ := vPs_reads (h := h) e2 r2 q3
        obtain ⟨a, b⟩ := r1
        have a : k = kv.1 := a
        have b : RelV v kv.2 := b
        have k1 : Reads h en.key (kP k) [] := kP_reads (by rw [a]; exact q1)
        have k2 : Reads h en.val p [] := vP_reads e1 (by rw [q2]; exact b)
        exact ⟨.cons (as := []) (bs := []) k1 h1, .cons (as := []) (bs := []) k2 h2⟩
section
variable {X : Cx}
theorem call_reprK (hgu : X.A.guards = some []) (hu : X.A.units + 100 < cLine) : CallR X (.builtin "repr") (fun xs H Q => ∃ (a : Addr) (ys : List (Key × V)) (ps : List (PyData × PyData)), xs = [.ref a] ∧ H a = some (.dK ys) ∧ vPs ys = some ps ∧ (PyData.dict ps).showable = true ∧ (PyData.dict ps).depth ≤ 64 ∧ (PyData.dict ps).shown.length ≤ sizeLine ∧ Q (.str (PyData.dict ps).shown) H) := by
  intro pins s σ H xs us Q I r h
  obtain ⟨a, ys, ps, rfl, hH, hp, h1, h2, h3, hq⟩ := h
  obtain ⟨u, rfl, ru⟩ := vals1 r
  obtain rfl : u = Value.ref a := ru
  obtain ⟨_, hs, vs, kv, o, es, ep, g1, g2, g3, _, g4, _⟩ := dk_of I.hok hH
  obtain ⟨r1, r2⟩ := vPs_reads (h := s.heap) hp kv g4
  have rd : Reads s.heap (.ref a) (.dict ps) (a :: [] ++ []) := .dict g1 g2.1 g3 r1 r2
  exact repr_of_reads' rd h1 (fun _ q => by
    have : sysModules = a := by simpa using q
    rw [this] at hs
    simp at hs) hgu (by omega) (fun _ _ e => e) (fun h' u tk hk => ⟨.str _, H, I.kept hk, ⟨_, rfl⟩, hq⟩) h3
theorem dPs_vPs {K : PySem.W.Frag} {mg : Str → Option Value} {F : Hp} : ∀ {kvs : List (Key × D)} {ys : List (Key × V)} {ps : List (PyData × PyData)}, dPs kvs = some ps → RpK K mg F kvs ys → vPs ys = some ps
  | [], ys, ps, e, r => by unfold RpK at r; subst r; exact e
  | (k, d) :: kvs, ys, ps, e, r => by
    unfold RpK at r
    obtain ⟨v, vs, rfl, r1, r2⟩ := r
    simp only [dPs, Option.bind_eq_some_iff, Option.map_eq_some_iff] at e
    obtain ⟨p, e1, ps', e2, rfl⟩ := e
    have := dPs_vPs e2 r2
    have hv : vP v = some p := by
      cases d <;> simp only [dP, Option.some.injEq, reduceCtorEq] at e1 <;> subst e1
      · rw [rp_non] at r1; subst r1; rfl
      · rw [rp_bl] at r1; subst r1; rfl
      · rw [rp_int] at r1; subst r1; rfl
      · rw [rp_str] at r1; subst r1; rfl
    simp only [vPs, hv, this, Option.bind_some, Option.map_some]
def gReprK : D → Option D
  | .dk kvs => match dPs kvs with
    | some ps => if ((PyData.dict ps).showable && decide ((PyData.dict ps).depth ≤ 64) && decide ((PyData.dict ps).shown.length ≤ sizeLine)) = true then some (.str (PyData.dict ps).shown) else none
    | none => none
  | _ => none
theorem c_reprK (hgu : X.A.guards = some []) (hu : X.A.units + 100 < cLine) : Cal1 X (.builtin "repr") gReprK := by
  intro H F x d d' s r e
  unfold gReprK at e
  split at e
  · split at e
    · rename_i ps hp
      split at e
      · rename_i hh
        cases e
        simp only [Bool.and_eq_true, decide_eq_true_eq] at hh
        obtain ⟨a, ys, rfl, hH, rk⟩ := r
        exact ⟨_, call_reprK hgu hu, fun Q q => ⟨a, ys, ps, rfl, hH, dPs_vPs hp rk, hh.1.1, hh.1.2, hh.2, q H F _ Al.refl (by rw [rp_str])⟩⟩
      · cases e
    · cases e
  · cases e
def gReprI : D → Option D
  | .int i => if i.natAbs.log2 < 1920 then some (.str (toString i)) else none
  | _ => none
theorem call_reprI : CallR X (.builtin "repr") (fun xs H Q => ∃ i : Int, xs = [.int i] ∧ i.natAbs.log2 < 1920 ∧ Q (.str (toString i)) H) := by
  intro pins s σ H xs us Q I r h
  obtain ⟨i, rfl, hz, q⟩ := h
  obtain ⟨u, rfl, rx⟩ := vals1 r
  obtain ⟨t, rfl⟩ := rx
  exact PySem.P.repr_of_int hz ⟨.str _, H, I.kept (t' := s.toks + 1) fun b o e => e, ⟨_, rfl⟩, q⟩
theorem c_reprI : Cal1 X (.builtin "repr") gReprI := by
  intro H F x d d' s r e
  unfold gReprI at e
  split at e
  · split at e
    · rename_i hz
      cases e
      exact ⟨_, call_reprI, fun Q q => ⟨_, by rw [show x = .int _ from r], hz, q H F _ Al.refl (by rw [rp_str])⟩⟩
    · cases e
  · cases e
def gReprB : D → Option D := fun d => (gReprA d).or ((gReprK d).or (gReprI d))
theorem c_reprB (hgu : X.A.guards = some []) (hu : X.A.units + 100 < cLine) : Cal1 X (.builtin "repr") gReprB := (c_reprA hgu hu).or ((c_reprK hgu hu).or c_reprI)
end
end Sr
namespace Tb
abbrev Row := Bool × Nat × Nat
abbrev Tab := List Row
def row (t : Tab) (i : Nat) : Row := t.getD i (false, 0, 0)
def nx (t : Tab) (i : Nat) (b : Bool) : Nat := if b then (row t i).2.1 else (row t i).2.2
def run (t : Tab) (i : Nat) : List Bool → Nat
  | [] => i
  | b :: w => run t (nx t i b) w
def Ok (t : Tab) : Prop := ∀ r ∈ t, r.2.1 < t.length ∧ r.2.2 < t.length
def addN {A : Type} [DecidableEq A] (l : List A) (x : A) : List A := if x ∈ l then l else l ++ [x]
section
variable {t : Tab} {i s : Nat}
theorem row_eq (h : i < t.length) : row t i = t[i] := by unfold row; simp [List.getD_eq_getElem?_getD, h]
theorem row_mem (h : i < t.length) : row t i ∈ t := by rw [row_eq h]; exact List.getElem_mem h
theorem nx_lt (ok : Ok t) (h : i < t.length) (b : Bool) : nx t i b < t.length := by
  have := ok _ (row_mem h)
  unfold nx
  cases b
  · exact this.2
  · exact this.1
theorem run_lt (ok : Ok t) : ∀ (w : List Bool) {i : Nat}, i < t.length → run t i w < t.length
  | [], i, h => h
  | b :: w, i, h => run_lt ok w (nx_lt ok h b)
end
section
variable {A : Type} [DecidableEq A]
theorem mem_addN {l : List A} {x y : A} : y ∈ addN l x ↔ y ∈ l ∨ y = x := by
  unfold addN
  split
  · rename_i h
    exact ⟨.inl, fun z => z.elim id fun e => by rw [e]; exact h⟩
  · simp
theorem nodup_addN {l : List A} {x : A} (h : l.Nodup) : (addN l x).Nodup := by
  unfold addN
  split
  · exact h
  · rename_i hx
    rw [List.nodup_append]
    exact ⟨h, by simp, fun a ha b hb => by simp at hb; subst hb; intro e; subst e; exact hx ha⟩
theorem addN_pre {l : List A} {x : A} : ∃ r, addN l x = l ++ r := by
  unfold addN
  split
  · exact ⟨[], by simp⟩
  · exact ⟨[x], rfl⟩
theorem fold_pre : ∀ (ks : List A) (l : List A), ∃ r, ks.foldl addN l = l ++ r
  | [], l => ⟨[], by simp⟩
  | k :: ks, l => by
    obtain ⟨r1, h1⟩ := addN_pre (l := l) (x := k)
    obtain ⟨r2, h2⟩ := fold_pre ks (addN l k)
    exact ⟨r1 ++ r2, by rw [List.foldl_cons, h2, h1, List.append_assoc]⟩
theorem mem_fold : ∀ (ks : List A) (l : List A) {y : A}, y ∈ ks.foldl addN l ↔ y ∈ l ∨ y ∈ ks
  | [], l, y => by simp
  | k :: ks, l, y => by rw [List.foldl_cons, mem_fold ks, mem_addN, List.mem_cons, or_assoc]
theorem nodup_fold : ∀ (ks : List A) {l : List A}, l.Nodup → (ks.foldl addN l).Nodup
  | [], l, h => h
  | k :: ks, l, h => nodup_fold ks (nodup_addN h)
def ded (ks : List A) : List A := ks.foldl addN []
theorem mem_ded {ks : List A} {y : A} : y ∈ ded ks ↔ y ∈ ks := by unfold ded; rw [mem_fold]; simp
theorem nodup_ded (ks : List A) : (ded ks).Nodup := nodup_fold ks List.nodup_nil
end
section
variable {A : Type} [BEq A] [LawfulBEq A]
theorem idxOf_pre {l r : List A} {x : A} (h : x ∈ l) : (l ++ r).idxOf x = l.idxOf x := by
  rw [List.idxOf_append, if_pos h]
theorem idxOf_inj {l : List A} {x y : A} (hx : x ∈ l) (h : l.idxOf x = l.idxOf y) : x = y := by
  have h1 : l.idxOf x < l.length := List.idxOf_lt_length_of_mem hx
  have h2 : l[l.idxOf x]'h1 = x := List.getElem_idxOf h1
  have h3 : l[l.idxOf y]'(h ▸ h1) = y := List.getElem_idxOf (h ▸ h1)
  rw [← h2, ← h3]
  simp only [h]
end
def iter {A : Type} (f : A → Option A) : Nat → A → A
  | 0, a => a
  | n + 1, a => match f a with
    | none => a
    | some b => iter f n b
section
variable {A : Type} {f : A → Option A}
theorem iter_inv (I : A → Prop) (h : ∀ a b, I a → f a = some b → I b) : ∀ (n : Nat) {a : A}, I a → I (iter f n a)
  | 0, a, ha => ha
  | n + 1, a, ha => by
    unfold iter
    cases q : f a with
    | none => exact ha
    | some b => exact iter_inv I h n (h a b ha q)
theorem iter_done (I : A → Prop) (μ : A → Nat) (h : ∀ a b, I a → f a = some b → I b ∧ μ b < μ a) : ∀ (n : Nat) {a : A}, I a → μ a ≤ n → f (iter f n a) = none
  | 0, a, ha, hm => by
    unfold iter
    cases q : f a with
    | none => rfl
    | some b => have := (h a b ha q).2; omega
  | n + 1, a, ha, hm => by
    unfold iter
    cases q : f a with
    | none => exact q
    | some b =>
      obtain ⟨h1, h2⟩ := h a b ha q
      exact iter_done I μ h n h1 (by omega)
end
theorem pigeon : ∀ (n : Nat) (l : List Nat), l.Nodup → (∀ x ∈ l, x < n) → l.length ≤ n
  | 0, l, _, h => by
    cases l with
    | nil => simp
    | cons x l => have := h x (by simp); omega
  | n + 1, l, hd, h => by
    by_cases hn : n ∈ l
    · have h1 : (l.erase n).length = l.length - 1 := List.length_erase_of_mem hn
      have h2 : (l.erase n).length ≤ n := pigeon n _ (hd.erase n) fun x hx => by
        have h3 := (List.Nodup.mem_erase_iff hd).mp hx
        have := h x h3.2
        have := h3.1
        omega
      omega
    · have := pigeon n l hd fun x hx => by
        have := h x hx
        have : x ≠ n := fun e => hn (e ▸ hx)
        omega
      omega
abbrev RS := List Nat × Nat
def rStep (t : Tab) : RS → Option RS := fun q => if q.2 < q.1.length then some (addN (addN q.1 (row t (q.1.getD q.2 0)).2.1) (row t (q.1.getD q.2 0)).2.2, q.2 + 1) else none
def reach (t : Tab) (s : Nat) : List Nat := (iter (rStep t) t.length ([s], 0)).1
structure RI (t : Tab) (s : Nat) (q : RS) : Prop where
  nd : q.1.Nodup
  lt : ∀ x ∈ q.1, x < t.length
  le : q.2 ≤ q.1.length
  hd : q.1[0]? = some s
  cl : ∀ i, i < q.2 → ∀ b, nx t (q.1.getD i 0) b ∈ q.1
theorem getD_mem {l : List Nat} {i : Nat} (h : i < l.length) : l.getD i 0 ∈ l := by
  simp [List.getD_eq_getElem?_getD, h]
theorem ri_step {t : Tab} {s : Nat} (ok : Ok t) {q q' : RS} (I : RI t s q) (h : rStep t q = some q') : RI t s q' ∧ t.length - q'.2 < t.length - q.2 := by
  obtain ⟨l, a⟩ := q
  unfold rStep at h
  dsimp only at h
  split at h
  · rename_i ha
    cases h
    have hm := getD_mem ha
    have hx := I.lt _ hm
    have hlen := pigeon t.length l I.nd I.lt
    obtain ⟨r1, e1⟩ := addN_pre (l := l) (x := (row t (l.getD a 0)).2.1)
    obtain ⟨r2, e2⟩ := addN_pre (l := addN l (row t (l.getD a 0)).2.1) (x := (row t (l.getD a 0)).2.2)
    have e3 : addN (addN l (row t (l.getD a 0)).2.1) (row t (l.getD a 0)).2.2 = l ++ (r1 ++ r2) := by rw [e2, e1, List.append_assoc]
    have get : ∀ i, i < l.length → (l ++ (r1 ++ r2)).getD i 0 = l.getD i 0 := fun i hi => by
      simp [List.getD_eq_getElem?_getD, List.getElem?_append_left hi]
    have hr := ok _ (row_mem hx)
    refine ⟨⟨nodup_addN (nodup_addN I.nd), fun x hxx => ?_, ?_, ?_, fun i hi b => ?_⟩, by dsimp only at *; omega⟩
    · rw [mem_addN, mem_addN] at hxx
      rcases hxx with (hxx | rfl) | rfl
      · exact I.lt x hxx
      · exact hr.1
      · exact hr.2
    · dsimp only; rw [e3, List.length_append]; omega
    · dsimp only
      have h0 := I.hd
      dsimp only at h0
      rw [e3, List.getElem?_append_left (by omega)]; exact h0
    · dsimp only at hi ⊢
      rw [e3, get i (by omega), ← e3]
      by_cases hia : i < a
      · rw [mem_addN, mem_addN]; exact .inl (.inl (I.cl i hia b))
      · have : i = a := by omega
        subst this
        unfold nx
        rw [mem_addN, mem_addN]
        cases b
        · exact .inr rfl
        · exact .inl (.inr rfl)
  · cases h
theorem ri_start {t : Tab} {s : Nat} (hs : s < t.length) : RI t s ([s], 0) := ⟨by simp, by simp; exact hs, by simp, rfl, fun i h => by dsimp only at h; omega⟩
structure RSpec (t : Tab) (s : Nat) (l : List Nat) : Prop where
  nd : l.Nodup
  lt : ∀ x ∈ l, x < t.length
  hd : l[0]? = some s
  cl : ∀ x ∈ l, ∀ b, nx t x b ∈ l
theorem reach_done {t : Tab} {s : Nat} (ok : Ok t) (hs : s < t.length) : rStep t (iter (rStep t) t.length ([s], 0)) = none :=
  iter_done (RI t s) (fun q => t.length - q.2) (fun a b I h => ri_step ok I h) t.length (ri_start hs) (by dsimp only; omega)
theorem reach_ri {t : Tab} {s : Nat} (ok : Ok t) (hs : s < t.length) : RI t s (iter (rStep t) t.length ([s], 0)) :=
  iter_inv (RI t s) (fun a b I h => (ri_step ok I h).1) _ (ri_start hs)
theorem reach_spec {t : Tab} {s : Nat} (ok : Ok t) (hs : s < t.length) : RSpec t s (reach t s) := by
  have I := reach_ri ok hs
  have D := reach_done ok hs
  unfold reach
  generalize iter (rStep t) t.length ([s], 0) = q at *
  obtain ⟨l, a⟩ := q
  have hle : l.length ≤ a := by
    unfold rStep at D
    dsimp only at D
    split at D
    · cases D
    · omega
  refine ⟨I.nd, I.lt, I.hd, fun x hx b => ?_⟩
  obtain ⟨i, hi, rfl⟩ := List.mem_iff_getElem.mp hx
  have hi' : i < l.length := hi
  have := I.cl i (by dsimp only; omega) b
  dsimp only at this
  have e : l.getD i 0 = l[i] := by simp [List.getD_eq_getElem?_getD, hi]
  rw [e] at this
  exact this
theorem run_reach {t : Tab} {s : Nat} {l : List Nat} (R : RSpec t s l) : ∀ (w : List Bool) {x : Nat}, x ∈ l → run t x w ∈ l
  | [], x, h => h
  | b :: w, x, h => run_reach R w (R.cl x h b)
def f0 (t : Tab) : List Nat := t.map fun r => if r.1 then 1 else 0
abbrev K3 := Nat × Nat × Nat
def keys (t : Tab) (f : List Nat) : List K3 := t.zipIdx.map fun q => (f.getD q.2 0, f.getD q.1.2.1 0, f.getD q.1.2.2 0)
def renum (ks : List K3) : List Nat := ks.map fun k => (ded ks).idxOf k
def dist (f : List Nat) : Nat := (ded f).length
abbrev CS := List Nat × Nat
def cStep (t : Tab) : CS → Option CS := fun q => if q.2 < dist q.1 then some (renum (keys t q.1), dist q.1) else none
def cls (t : Tab) : List Nat := (iter (cStep t) t.length (f0 t, 0)).1
theorem dist_le (f : List Nat) : dist f ≤ f.length := by
  unfold dist ded
  have H : ∀ (ks : List Nat) (l : List Nat), (ks.foldl addN l).length ≤ l.length + ks.length := by
    intro ks
    induction ks with
    | nil => intro l; simp
    | cons k ks ih =>
      intro l
      have := ih (addN l k)
      have h2 : (addN l k).length ≤ l.length + 1 := by unfold addN; split <;> simp
      rw [List.foldl_cons, List.length_cons]; omega
  have := H f []
  simpa using this
theorem keys_len (t : Tab) (f : List Nat) : (keys t f).length = t.length := by unfold keys; simp
theorem renum_len (ks : List K3) : (renum ks).length = ks.length := by unfold renum; simp
theorem keys_get {t : Tab} {f : List Nat} {i : Nat} (h : i < t.length) : (keys t f)[i]? = some (f.getD i 0, f.getD (row t i).2.1 0, f.getD (row t i).2.2 0) := by
  unfold keys
  rw [List.getElem?_map, List.getElem?_zipIdx, List.getElem?_eq_getElem h, row_eq h]
  simp
theorem renum_get {ks : List K3} {i : Nat} {k : K3} (h : ks[i]? = some k) : (renum ks).getD i 0 = (ded ks).idxOf k := by
  unfold renum
  rw [List.getD_eq_getElem?_getD, List.getElem?_map, h]; rfl
theorem renum_iff {ks : List K3} {i j : Nat} {k k' : K3} (h : ks[i]? = some k) (h' : ks[j]? = some k') : (renum ks).getD i 0 = (renum ks).getD j 0 ↔ k = k' := by
  rw [renum_get h, renum_get h']
  refine ⟨fun e => idxOf_inj ?_ e, fun e => by rw [e]⟩
  rw [mem_ded]; exact List.mem_of_getElem? h
def Fine (n : Nat) (f g : List Nat) : Prop := ∀ i j, i < n → j < n → f.getD i 0 = f.getD j 0 → g.getD i 0 = g.getD j 0
theorem sub_len : ∀ {l m : List Nat}, l.Nodup → (∀ x ∈ l, x ∈ m) → l.length ≤ m.length
  | [], m, _, _ => by simp
  | x :: l, m, hd, h => by
    rw [List.nodup_cons] at hd
    have hx := h x (by simp)
    have := sub_len (l := l) (m := m.erase x) hd.2 fun y hy => by
      have hne : y ≠ x := fun e => hd.1 (e ▸ hy)
      exact (List.mem_erase_of_ne hne).mpr (h y (by simp [hy]))
    rw [List.length_erase_of_mem hx] at this
    have : 0 < m.length := List.length_pos_of_mem hx
    rw [List.length_cons]; omega
theorem nodup_of : ∀ {m l : List Nat}, l.Nodup → (∀ x ∈ l, x ∈ m) → m.length ≤ l.length → m.Nodup
  | [], l, _, _, _ => by simp
  | x :: m, l, hd, h, hl => by
    rw [List.length_cons] at hl
    have hx : x ∉ m := fun hx => by
      have := sub_len (l := l) (m := m) hd fun y hy => by
        rcases List.mem_cons.mp (h y hy) with e | e
        · rw [e]; exact hx
        · exact e
      omega
    have := nodup_of (m := m) (l := l.erase x) (hd.erase x) (fun y hy => by
      have h3 := (List.Nodup.mem_erase_iff hd).mp hy
      rcases List.mem_cons.mp (h y h3.2) with e | e
      · exact (h3.1 e).elim
      · exact e) (by
        have := List.length_erase (a := x) (l := l)
        split at this <;> omega)
    rw [List.nodup_cons]
    exact ⟨hx, this⟩
theorem nodup_unmap {A B : Type} (g : A → B) : ∀ {l : List A}, (l.map g).Nodup → l.Nodup
  | [], _ => by simp
  | x :: l, h => by
    rw [List.map_cons, List.nodup_cons] at h
    rw [List.nodup_cons]
    exact ⟨fun hx => h.1 (List.mem_map_of_mem hx), nodup_unmap g h.2⟩
theorem getD_get {l : List Nat} {i : Nat} (h : i < l.length) : l.getD i 0 = l[i] := by simp [List.getD_eq_getElem?_getD, h]
theorem fine_back {n : Nat} {f g : List Nat} (hf : f.length = n) (hg : g.length = n) (h : Fine n f g) (hd : dist f ≤ dist g) : Fine n g f := by
  let φ : Nat → Nat := fun v => g.getD (f.idxOf v) 0
  have hφ : ∀ i, i < n → φ (f.getD i 0) = g.getD i 0 := fun i hi => by
    have hm : f.getD i 0 ∈ f := getD_mem (by omega)
    have h1 : f.idxOf (f.getD i 0) < f.length := List.idxOf_lt_length_of_mem hm
    have h2 : f[f.idxOf (f.getD i 0)]'h1 = f.getD i 0 := List.getElem_idxOf h1
    refine h _ i (by omega) hi ?_
    rw [getD_get h1, h2]
  have hn : ((ded f).map φ).Nodup := by
    refine nodup_of (nodup_ded g) (fun y hy => ?_) (by rw [List.length_map]; exact hd)
    rw [mem_ded] at hy
    obtain ⟨i, hi, rfl⟩ := List.mem_iff_getElem.mp hy
    rw [List.mem_map]
    refine ⟨f.getD i 0, by rw [mem_ded]; exact getD_mem (by omega), ?_⟩
    rw [hφ i (by omega), getD_get hi]
  intro i j hi hj e
  have e2 : φ (f.getD i 0) = φ (f.getD j 0) := by rw [hφ i hi, hφ j hj, e]
  have m1 : f.getD i 0 ∈ ded f := by rw [mem_ded]; exact getD_mem (by omega)
  have m2 : f.getD j 0 ∈ ded f := by rw [mem_ded]; exact getD_mem (by omega)
  obtain ⟨a, ha, ea⟩ := List.mem_iff_getElem.mp m1
  obtain ⟨b, hb, eb⟩ := List.mem_iff_getElem.mp m2
  have hab : a = b := by
    have la : a < ((ded f).map φ).length := by rw [List.length_map]; exact ha
    have lb : b < ((ded f).map φ).length := by rw [List.length_map]; exact hb
    refine (List.getElem_inj (h₀ := la) (h₁ := lb) hn).mp ?_
    rw [List.getElem_map, List.getElem_map, ea, eb, e2]
  subst hab
  rw [← ea, ← eb]
def Stable (t : Tab) (f : List Nat) : Prop := ∀ i j, i < t.length → j < t.length → f.getD i 0 = f.getD j 0 → (row t i).1 = (row t j).1 ∧ ∀ b, f.getD (nx t i b) 0 = f.getD (nx t j b) 0
def Alike (t : Tab) (i j : Nat) : Prop := ∀ w, (row t (run t i w)).1 = (row t (run t j w)).1
structure CI (t : Tab) (q : CS) : Prop where
  len : q.1.length = t.length
  st : ∀ i j, i < t.length → j < t.length → q.1.getD i 0 = q.1.getD j 0 → (row t i).1 = (row t j).1
  al : ∀ i j, i < t.length → j < t.length → Alike t i j → q.1.getD i 0 = q.1.getD j 0
  le : q.2 ≤ t.length
  pv : q.2 = 0 ∨ ∃ p : List Nat, p.length = t.length ∧ q.2 = dist p ∧ q.1 = renum (keys t p)
theorem Alike.nx {t : Tab} {i j : Nat} (h : Alike t i j) (b : Bool) : Alike t (Tb.nx t i b) (Tb.nx t j b) := fun w => h (b :: w)
theorem f0_get {t : Tab} {i : Nat} (h : i < t.length) : (f0 t).getD i 0 = if (row t i).1 then 1 else 0 := by
  unfold f0
  rw [List.getD_eq_getElem?_getD, List.getElem?_map, List.getElem?_eq_getElem h, row_eq h]; rfl
theorem ci_start (t : Tab) : CI t (f0 t, 0) := by
  refine ⟨by unfold f0; simp, fun i j hi hj e => ?_, fun i j hi hj h => ?_, by simp, .inl rfl⟩
  · dsimp only at e
    rw [f0_get hi, f0_get hj] at e
    cases h1 : (row t i).1 <;> cases h2 : (row t j).1 <;> simp [h1, h2] at e ⊢
  · dsimp only
    rw [f0_get hi, f0_get hj]
    have := h []
    unfold run at this
    rw [this]
theorem ci_step {t : Tab} (ok : Ok t) {q q' : CS} (I : CI t q) (h : cStep t q = some q') : CI t q' ∧ t.length - q'.2 < t.length - q.2 := by
  unfold cStep at h
  split at h
  · rename_i hlt
    cases h
    have hd := dist_le q.1
    have hl := I.len
    refine ⟨⟨by dsimp only; rw [renum_len, keys_len], fun i j hi hj e => ?_, fun i j hi hj h => ?_, by dsimp only; omega, .inr ⟨q.1, I.len, rfl, rfl⟩⟩, by dsimp only; omega⟩
    · have e2 := (renum_iff (keys_get hi) (keys_get hj)).mp e
      exact I.st i j hi hj (congrArg (·.1) e2)
    · refine (renum_iff (keys_get hi) (keys_get hj)).mpr ?_
      rw [I.al i j hi hj h]
      have h1 := I.al _ _ (nx_lt ok hi true) (nx_lt ok hj true) (h.nx true)
      have h2 := I.al _ _ (nx_lt ok hi false) (nx_lt ok hj false) (h.nx false)
      unfold Tb.nx at h1 h2
      simp only [if_true] at h1
      simp only [Bool.false_eq_true, if_false] at h2
      rw [h1, h2]
  · cases h
theorem cls_ci {t : Tab} (ok : Ok t) : CI t (iter (cStep t) t.length (f0 t, 0)) := iter_inv (CI t) (fun a b I h => (ci_step ok I h).1) _ (ci_start t)
theorem cls_done {t : Tab} (ok : Ok t) : cStep t (iter (cStep t) t.length (f0 t, 0)) = none :=
  iter_done (CI t) (fun q => t.length - q.2) (fun a b I h => ci_step ok I h) t.length (ci_start t) (by dsimp only; omega)
theorem cls_len {t : Tab} (ok : Ok t) : (cls t).length = t.length := (cls_ci ok).len
theorem cls_al {t : Tab} (ok : Ok t) {i j : Nat} (hi : i < t.length) (hj : j < t.length) (h : Alike t i j) : (cls t).getD i 0 = (cls t).getD j 0 := (cls_ci ok).al i j hi hj h
theorem cls_stable {t : Tab} (ok : Ok t) : Stable t (cls t) := by
  have I := cls_ci ok
  have D := cls_done ok
  unfold cls
  generalize iter (cStep t) t.length (f0 t, 0) = q at *
  obtain ⟨f, m⟩ := q
  have hm : dist f ≤ m := by
    unfold cStep at D
    dsimp only at D
    split at D
    · cases D
    · omega
  intro i j hi hj e
  refine ⟨I.st i j hi hj e, ?_⟩
  rcases I.pv with h0 | ⟨p, hp, h1, h2⟩
  · dsimp only at h0
    have hl := I.len
    have hf0 : 0 < dist f := by
      unfold dist
      have hmem : f.getD i 0 ∈ ded f := by rw [mem_ded]; exact getD_mem (by dsimp only at hl; omega)
      exact List.length_pos_of_mem hmem
    omega
  · dsimp only at h1 h2
    have hfine : Fine t.length f p := fun i j hi hj e => by
      rw [h2] at e
      exact congrArg (·.1) ((renum_iff (keys_get hi) (keys_get hj)).mp e)
    have back : Fine t.length p f := fine_back I.len hp hfine (by omega)
    intro b
    have e2 := e
    dsimp only at e2
    rw [h2] at e2
    have e3 := (renum_iff (keys_get hi) (keys_get hj)).mp e2
    refine back _ _ (nx_lt ok hi b) (nx_lt ok hj b) ?_
    unfold nx
    cases b
    · simp only [Bool.false_eq_true, if_false]; exact congrArg (·.2.2) e3
    · simp only [if_true]; exact congrArg (·.2.1) e3
theorem cls_run {t : Tab} (ok : Ok t) : ∀ (w : List Bool) {i j : Nat}, i < t.length → j < t.length → (cls t).getD i 0 = (cls t).getD j 0 → (cls t).getD (run t i w) 0 = (cls t).getD (run t j w) 0
  | [], i, j, hi, hj, e => e
  | b :: w, i, j, hi, hj, e => cls_run ok w (nx_lt ok hi b) (nx_lt ok hj b) ((cls_stable ok i j hi hj e).2 b)
theorem cls_iff {t : Tab} (ok : Ok t) {i j : Nat} (hi : i < t.length) (hj : j < t.length) : (cls t).getD i 0 = (cls t).getD j 0 ↔ Alike t i j :=
  ⟨fun e w => (cls_stable ok _ _ (run_lt ok w hi) (run_lt ok w hj) (cls_run ok w hi hj e)).1, cls_al ok hi hj⟩
def pick (f : List Nat) : List Nat → List Nat × List Nat → List Nat × List Nat
  | [], q => q
  | x :: xs, q => pick f xs (if f.getD x 0 ∈ q.1 then q else (q.1 ++ [f.getD x 0], q.2 ++ [x]))
def ix (t : Tab) (s x : Nat) : Nat := (pick (cls t) (reach t s) ([], [])).1.idxOf ((cls t).getD x 0)
def small (t : Tab) (s : Nat) : Tab := (pick (cls t) (reach t s) ([], [])).2.map fun x => ((row t x).1, ix t s (row t x).2.1, ix t s (row t x).2.2)
theorem small_get {t : Tab} {s i y : Nat} (h : (pick (cls t) (reach t s) ([], [])).2[i]? = some y) : row (small t s) i = ((row t y).1, ix t s (row t y).2.1, ix t s (row t y).2.2) := by
  unfold row small
  rw [List.getD_eq_getElem?_getD, List.getElem?_map, h]; rfl
structure PI (f : List Nat) (xs : List Nat) (q : List Nat × List Nat) : Prop where
  eq : q.1 = q.2.map fun x => f.getD x 0
  nd : q.1.Nodup
  all : ∀ x ∈ xs, f.getD x 0 ∈ q.1
  sub : ∀ x ∈ q.2, x ∈ xs
theorem pick_pi {f : List Nat} : ∀ (xs pre : List Nat) (q : List Nat × List Nat), PI f pre q → PI f (pre ++ xs) (pick f xs q)
  | [], pre, q, h => by rw [List.append_nil]; exact h
  | x :: xs, pre, q, h => by
    unfold pick
    rw [show pre ++ x :: xs = (pre ++ [x]) ++ xs by simp]
    refine pick_pi xs (pre ++ [x]) _ ?_
    split
    · rename_i hx
      refine ⟨h.eq, h.nd, fun y hy => ?_, fun y hy => by simp [h.sub y hy]⟩
      rw [List.mem_append, List.mem_singleton] at hy
      rcases hy with hy | rfl
      · exact h.all y hy
      · exact hx
    · rename_i hx
      refine ⟨by simp [h.eq], ?_, fun y hy => ?_, fun y hy => ?_⟩
      · rw [List.nodup_append]
        exact ⟨h.nd, by simp, fun a ha b hb => by simp at hb; subst hb; intro e; subst e; exact hx ha⟩
      · rw [List.mem_append, List.mem_singleton] at hy
        rcases hy with hy | rfl
        · exact List.mem_append_left _ (h.all y hy)
        · simp
      · dsimp only at hy
        rw [List.mem_append, List.mem_singleton] at hy
        rcases hy with hy | rfl
        · simp [h.sub y hy]
        · simp
theorem pick_head {f : List Nat} : ∀ (xs : List Nat) (q : List Nat × List Nat) {a b : Nat}, q.1[0]? = some a → q.2[0]? = some b → (pick f xs q).1[0]? = some a ∧ (pick f xs q).2[0]? = some b
  | [], q, a, b, h1, h2 => ⟨h1, h2⟩
  | x :: xs, q, a, b, h1, h2 => by
    unfold pick
    split
    · exact pick_head xs q h1 h2
    · have l1 := (List.getElem?_eq_some_iff.mp h1).1
      have l2 := (List.getElem?_eq_some_iff.mp h2).1
      refine pick_head xs _ ?_ ?_
      · rw [List.getElem?_append_left l1]; exact h1
      · rw [List.getElem?_append_left l2]; exact h2
section
variable {t : Tab} {s : Nat}
theorem small_pi (t : Tab) (s : Nat) : PI (cls t) (reach t s) (pick (cls t) (reach t s) ([], [])) := by
  have := pick_pi (f := cls t) (reach t s) [] ([], []) ⟨rfl, by simp, by simp, by simp⟩
  simpa using this
theorem small_len (t : Tab) (s : Nat) : (small t s).length = (pick (cls t) (reach t s) ([], [])).1.length := by
  have h := small_pi t s
  unfold small
  rw [h.eq]; simp
theorem ix_lt {x : Nat} (hx : x ∈ reach t s) : ix t s x < (small t s).length := by
  rw [small_len]
  exact List.idxOf_lt_length_of_mem ((small_pi t s).all x hx)
theorem small_row (ok : Ok t) (hs : s < t.length) {x : Nat} (hx : x ∈ reach t s) : row (small t s) (ix t s x) = ((row t x).1, ix t s (nx t x true), ix t s (nx t x false)) := by
  have P := small_pi t s
  have R := reach_spec ok hs
  have hl := ix_lt hx
  have hl2 := hl
  rw [small_len] at hl2
  have hq : (pick (cls t) (reach t s) ([], [])).1.length = (pick (cls t) (reach t s) ([], [])).2.length := by
    have := congrArg List.length P.eq
    rw [List.length_map] at this
    exact this
  have hl3 : ix t s x < (pick (cls t) (reach t s) ([], [])).2.length := by rw [← hq]; exact hl2
  generalize hy : (pick (cls t) (reach t s) ([], [])).2[ix t s x]'hl3 = y
  rw [small_get (y := y) (by rw [List.getElem?_eq_getElem hl3, hy])]
  have hym : y ∈ reach t s := P.sub y (by rw [← hy]; exact List.getElem_mem hl3)
  have hcy : (cls t).getD y 0 = (cls t).getD x 0 := by
    have h1 : (pick (cls t) (reach t s) ([], [])).1[ix t s x]'hl2 = (cls t).getD x 0 := List.getElem_idxOf hl2
    have h2 : (pick (cls t) (reach t s) ([], [])).1[ix t s x]? = some ((cls t).getD y 0) := by
      rw [P.eq, List.getElem?_map, List.getElem?_eq_getElem hl3, hy]; rfl
    rw [List.getElem?_eq_getElem hl2, h1] at h2
    exact (Option.some.inj h2).symm
  have S := cls_stable ok y x (R.lt y hym) (R.lt x hx) hcy
  have S1 := S.2 true
  have S2 := S.2 false
  unfold ix
  unfold nx at S1 S2 ⊢
  simp only [if_true] at S1 ⊢
  simp only [Bool.false_eq_true, if_false] at S2 ⊢
  rw [S.1, S1, S2]
theorem ix_nx (ok : Ok t) (hs : s < t.length) {x : Nat} (hx : x ∈ reach t s) (b : Bool) : nx (small t s) (ix t s x) b = ix t s (nx t x b) := by
  unfold nx
  rw [small_row ok hs hx]
  cases b <;> rfl
theorem ix_run (ok : Ok t) (hs : s < t.length) : ∀ (w : List Bool) {x : Nat}, x ∈ reach t s → run (small t s) (ix t s x) w = ix t s (run t x w)
  | [], x, hx => rfl
  | b :: w, x, hx => by
    show run (small t s) (nx (small t s) (ix t s x) b) w = _
    rw [ix_nx ok hs hx]
    exact ix_run ok hs w ((reach_spec ok hs).cl x hx b)
theorem start_mem (ok : Ok t) (hs : s < t.length) : s ∈ reach t s := List.mem_of_getElem? (reach_spec ok hs).hd
theorem ix_start (ok : Ok t) (hs : s < t.length) : ix t s s = 0 := by
  have R := reach_spec ok hs
  have h0 := R.hd
  unfold ix
  cases hr : reach t s with
  | nil => rw [hr] at h0; simp at h0
  | cons x xs =>
    rw [hr] at h0
    simp at h0
    subst h0
    have e : pick (cls t) (x :: xs) ([], []) = pick (cls t) xs ([(cls t).getD x 0], [x]) := by
      rw [pick]; simp
    rw [e]
    have h1 := (pick_head (f := cls t) xs ([(cls t).getD x 0], [x]) (a := (cls t).getD x 0) (b := x) rfl rfl).1
    have hl := (List.getElem?_eq_some_iff.mp h1).1
    have hm : (cls t).getD x 0 ∈ (pick (cls t) xs ([(cls t).getD x 0], [x])).1 := List.mem_of_getElem? h1
    have P := small_pi t x
    rw [hr, e] at P
    have h2 : (pick (cls t) xs ([(cls t).getD x 0], [x])).1.idxOf ((cls t).getD x 0) < (pick (cls t) xs ([(cls t).getD x 0], [x])).1.length := List.idxOf_lt_length_of_mem hm
    refine (List.getElem_inj (h₀ := h2) (h₁ := hl) P.nd).mp ?_
    rw [List.getElem_idxOf h2]
    exact (List.getElem?_eq_some_iff.mp h1).2.symm
theorem small_status (ok : Ok t) (hs : s < t.length) (w : List Bool) : (row (small t s) (run (small t s) 0 w)).1 = (row t (run t s w)).1 := by
  have hm := start_mem ok hs
  have h := ix_run ok hs w hm
  rw [ix_start ok hs] at h
  rw [h, small_row ok hs (run_reach (reach_spec ok hs) w hm)]
theorem small_ok (ok : Ok t) (hs : s < t.length) : Ok (small t s) := by
  intro r hr
  obtain ⟨i, hi, rfl⟩ := List.mem_iff_getElem.mp hr
  have P := small_pi t s
  have R := reach_spec ok hs
  have hl : i < (pick (cls t) (reach t s) ([], [])).2.length := by
    have := hi
    unfold small at this
    simpa using this
  have e : (small t s)[i] = ((row t ((pick (cls t) (reach t s) ([], [])).2[i]'hl)).1, ix t s (row t ((pick (cls t) (reach t s) ([], [])).2[i]'hl)).2.1, ix t s (row t ((pick (cls t) (reach t s) ([], [])).2[i]'hl)).2.2) := by
    rw [← row_eq hi]
    exact small_get (List.getElem?_eq_getElem hl)
  have hy := P.sub _ (List.getElem_mem hl)
  rw [e]
  exact ⟨ix_lt (R.cl _ hy true), ix_lt (R.cl _ hy false)⟩
theorem small_pos (ok : Ok t) (hs : s < t.length) : 0 < (small t s).length := by
  have := ix_lt (start_mem ok hs)
  omega
theorem small_le (ok : Ok t) (hs : s < t.length) : (small t s).length ≤ t.length := by
  have P := small_pi t s
  have R := reach_spec ok hs
  have h1 : (small t s).length = (pick (cls t) (reach t s) ([], [])).2.length := by
    rw [small_len]
    have := congrArg List.length P.eq
    rw [List.length_map] at this
    exact this
  rw [h1]
  refine pigeon t.length _ ?_ fun x hx => R.lt x (P.sub x hx)
  have := P.nd
  rw [P.eq] at this
  exact nodup_unmap _ this
end
end Tb
namespace Tb
section
variable {A B : Type} [DecidableEq A] [DecidableEq B]
theorem addN_in {l : List A} {x : A} (h : x ∈ l) : addN l x = l := by unfold addN; rw [if_pos h]
theorem addN_out {l : List A} {x : A} (h : x ∉ l) : addN l x = l ++ [x] := by unfold addN; rw [if_neg h]
theorem ded_append (a b : List A) : ded (a ++ b) = b.foldl addN (ded a) := by unfold ded; rw [List.foldl_append]
theorem fold_sub : ∀ (ks : List A) {l : List A}, (∀ x ∈ ks, x ∈ l) → ks.foldl addN l = l
  | [], l, _ => rfl
  | x :: ks, l, h => by rw [List.foldl_cons, addN_in (h x (by simp))]; exact fold_sub ks fun y hy => h y (by simp [hy])
theorem ded_map_acc (c : A → B) : ∀ (l acc : List A), ded ((l.foldl addN acc).map c) = (l.map c).foldl addN (ded (acc.map c))
  | [], acc => rfl
  | x :: l, acc => by
    rw [List.foldl_cons, ded_map_acc c l, List.map_cons, List.foldl_cons]
    congr 1
    by_cases h : x ∈ acc
    · rw [addN_in h, addN_in]
      rw [mem_ded]
      exact List.mem_map_of_mem h
    · rw [addN_out h, List.map_append, ded_append]
      rfl
theorem ded_map_ded (c : A → B) (l : List A) : ded ((ded l).map c) = ded (l.map c) := by
  have := ded_map_acc c l []
  unfold ded at *
  rw [this]
  rfl
theorem ded_flat_acc (a : List B) (g : A → List B) : ∀ (k acc : List A), ded (a ++ (k.foldl addN acc).flatMap g) = ded (a ++ acc.flatMap g ++ k.flatMap g)
  | [], acc => by simp
  | x :: k, acc => by
    rw [List.foldl_cons, ded_flat_acc a g k, List.flatMap_cons]
    by_cases h : x ∈ acc
    · have hs : (g x).foldl addN (ded (a ++ acc.flatMap g)) = ded (a ++ acc.flatMap g) := fold_sub _ fun y hy => by
        rw [mem_ded, List.mem_append]
        exact .inr (List.mem_flatMap.mpr ⟨x, h, hy⟩)
      rw [addN_in h, ded_append (a ++ acc.flatMap g), ded_append (a ++ acc.flatMap g), List.foldl_append, hs]
    · rw [addN_out h, List.flatMap_append]
      simp [List.append_assoc]
theorem ded_flat (a : List B) (g : A → List B) (k : List A) : ded (a ++ (ded k).flatMap g) = ded (a ++ k.flatMap g) := by
  have := ded_flat_acc a g k []
  simpa [ded] using this
theorem ded_pre (a b : List A) : ∃ r, ded (a ++ b) = ded a ++ r := by rw [ded_append]; exact fold_pre _ _
end
def Rch (c0 : Nat) (G : Nat → List Nat) (K : List Nat) : Prop := ∀ S : Nat → Prop, S c0 → (∀ k, S k → ∀ y ∈ G k, S y) → ∀ k ∈ K, S k
theorem take_pre {K Q r : List Nat} (h : K = Q ++ r) {n : Nat} (hn : n ≤ Q.length) : K.take n = Q.take n := by
  rw [h, List.take_append_of_le_length hn]
theorem closed_all {c0 : Nat} {G : Nat → List Nat} {K r : List Nat} {n : Nat} (hK : K.Nodup) (hr : Rch c0 G K) (hq : K = ded (c0 :: (K.take n).flatMap G) ++ r) (hn : (ded (c0 :: (K.take n).flatMap G)).length ≤ n) : K = K.take n := by
  generalize hQ : ded (c0 :: (K.take n).flatMap G) = Q at *
  have hsub : ∀ y ∈ Q, y ∈ K.take n := by
    intro y hy
    have e : K.take n = Q ++ (r.take (n - Q.length)) := by
      rw [hq, List.take_append, List.take_of_length_le hn]
    rw [e]
    exact List.mem_append_left _ hy
  have hall : ∀ k ∈ K, k ∈ K.take n := hr (fun k => k ∈ K.take n) (hsub _ (by rw [← hQ, mem_ded]; simp)) fun k hk y hy => hsub _ (by
    rw [← hQ, mem_ded]
    exact List.mem_cons_of_mem _ (List.mem_flatMap.mpr ⟨k, hk, hy⟩))
  have hl := sub_len hK hall
  rw [List.length_take] at hl
  rw [List.take_of_length_le (by omega)]
theorem split_pre {c0 : Nat} {G : Nat → List Nat} {K : List Nat} (h : K = ded (c0 :: K.flatMap G)) (n : Nat) : ∃ r, K = ded (c0 :: (K.take n).flatMap G) ++ r := by
  obtain ⟨r, hr⟩ := ded_pre (c0 :: (K.take n).flatMap G) ((K.drop n).flatMap G)
  refine ⟨r, ?_⟩
  rw [← hr, List.cons_append, ← List.flatMap_append, List.take_append_drop]
  exact h
theorem ded_unique {c0 : Nat} {G : Nat → List Nat} {K K' : List Nat} (h : K = ded (c0 :: K.flatMap G)) (h' : K' = ded (c0 :: K'.flatMap G)) (r : Rch c0 G K) (r' : Rch c0 G K') : K = K' := by
  have nd : K.Nodup := by rw [h]; exact nodup_ded _
  have nd' : K'.Nodup := by rw [h']; exact nodup_ded _
  have H : ∀ n, K.take n = K'.take n := by
    intro n
    induction n with
    | zero => simp
    | succ n ih =>
      obtain ⟨q, hq⟩ := split_pre h n
      obtain ⟨q', hq'⟩ := split_pre h' n
      by_cases hn : (ded (c0 :: (K.take n).flatMap G)).length ≤ n
      · have e1 := closed_all nd r hq hn
        have e2 := closed_all nd' r' hq' (by rw [← ih]; exact hn)
        have e3 : K = K' := by rw [e1, e2, ih]
        rw [e3]
      · rw [take_pre hq (by omega), take_pre hq' (by rw [← ih]; omega), ih]
  have e := H (K.length + K'.length)
  rw [List.take_of_length_le (by omega), List.take_of_length_le (by omega)] at e
  exact e
def kids (t : Tab) (x : Nat) : List Nat := [(row t x).2.1, (row t x).2.2]
def cl (t : Tab) (x : Nat) : Nat := (cls t).getD x 0
def kidC (t : Tab) (k : Nat) : List Nat := match (List.range t.length).find? (fun x => cl t x == k) with
  | some x => (kids t x).map (cl t)
  | none => []
section
variable {t : Tab} {s : Nat}
theorem cl_stable (ok : Ok t) {i j : Nat} (hi : i < t.length) (hj : j < t.length) (h : cl t i = cl t j) : (row t i).1 = (row t j).1 ∧ (kids t i).map (cl t) = (kids t j).map (cl t) := by
  obtain ⟨h1, h2⟩ := cls_stable ok i j hi hj h
  refine ⟨h1, ?_⟩
  have a := h2 true
  have b := h2 false
  simp only [nx, if_true] at a
  simp only [nx, Bool.false_eq_true, if_false] at b
  simp only [kids, List.map_cons, List.map_nil, cl]
  rw [a, b]
theorem kidC_eq (ok : Ok t) {x : Nat} (hx : x < t.length) : kidC t (cl t x) = (kids t x).map (cl t) := by
  unfold kidC
  cases h : (List.range t.length).find? (fun y => cl t y == cl t x) with
  | none =>
    rw [List.find?_eq_none] at h
    have := h x (by simpa using hx)
    simp at this
  | some y =>
    have h1 := List.find?_some h
    have h2 := List.mem_of_find?_eq_some h
    simp only [beq_iff_eq] at h1
    exact (cl_stable ok (by simpa using h2) hx h1).2
theorem kids_lt (ok : Ok t) {x : Nat} (hx : x < t.length) : ∀ y ∈ kids t x, y < t.length := by
  have := ok _ (row_mem hx)
  intro y hy
  simp only [kids, List.mem_cons, List.not_mem_nil, or_false] at hy
  rcases hy with rfl | rfl
  · exact this.1
  · exact this.2
theorem flat_cl (ok : Ok t) : ∀ (l : List Nat), (∀ x ∈ l, x < t.length) → (l.flatMap (kids t)).map (cl t) = (l.map (cl t)).flatMap (kidC t)
  | [], _ => rfl
  | x :: l, h => by
    rw [List.flatMap_cons, List.map_append, List.map_cons, List.flatMap_cons, kidC_eq ok (h x (by simp)), flat_cl ok l fun y hy => h y (by simp [hy])]
theorem take_succ_of {l r : List Nat} {a : Nat} (h : a < l.length) : (l ++ r).take (a + 1) = l.take a ++ [l.getD a 0] := by
  rw [List.take_append_of_le_length (by omega), List.take_succ, List.getElem?_eq_getElem h]
  simp [List.getD_eq_getElem?_getD, h]
theorem reach_fix (ok : Ok t) (hs : s < t.length) : reach t s = ded (s :: (reach t s).flatMap (kids t)) := by
  have I := iter_inv (f := rStep t) (fun q => q.2 ≤ q.1.length ∧ q.1 = ded (s :: (q.1.take q.2).flatMap (kids t))) (by
    rintro ⟨l, a⟩ ⟨l', a'⟩ ⟨hle, I⟩ h
    unfold rStep at h
    dsimp only at h I hle ⊢
    split at h
    · rename_i ha
      simp only [Option.some.injEq, Prod.mk.injEq] at h
      obtain ⟨rfl, rfl⟩ := h
      obtain ⟨r1, e1⟩ := addN_pre (l := l) (x := (row t (l.getD a 0)).2.1)
      obtain ⟨r2, e2⟩ := addN_pre (l := addN l (row t (l.getD a 0)).2.1) (x := (row t (l.getD a 0)).2.2)
      have e3 : addN (addN l (row t (l.getD a 0)).2.1) (row t (l.getD a 0)).2.2 = l ++ (r1 ++ r2) := by rw [e2, e1, List.append_assoc]
      refine ⟨by rw [e3, List.length_append]; omega, ?_⟩
      have e4 : (addN (addN l (row t (l.getD a 0)).2.1) (row t (l.getD a 0)).2.2).take (a + 1) = l.take a ++ [l.getD a 0] := by
        rw [e3]; exact take_succ_of ha
      rw [e4, List.flatMap_append, ← List.cons_append, ded_append, ← I]
      simp [kids]
    · cases h) t.length (a := ([s], 0)) ⟨by simp, by simp [ded, addN]⟩
  have D := reach_done ok hs
  unfold reach
  generalize iter (rStep t) t.length ([s], 0) = q at *
  obtain ⟨l, a⟩ := q
  have hle : l.length ≤ a := by
    unfold rStep at D
    dsimp only at D
    split at D
    · cases D
    · omega
  have := I.2
  dsimp only at this
  rw [List.take_of_length_le hle] at this
  exact this
theorem pick_fst (f : List Nat) : ∀ (xs : List Nat) (q : List Nat × List Nat), (pick f xs q).1 = (xs.map fun x => f.getD x 0).foldl addN q.1
  | [], q => rfl
  | x :: xs, q => by
    unfold pick
    rw [pick_fst f xs, List.map_cons, List.foldl_cons]
    congr 1
    unfold addN
    split <;> rfl
def ordC (t : Tab) (s : Nat) : List Nat := (pick (cls t) (reach t s) ([], [])).1
theorem ordC_eq : ordC t s = ded ((reach t s).map (cl t)) := by unfold ordC; rw [pick_fst]; rfl
theorem ordC_fix (ok : Ok t) (hs : s < t.length) : ordC t s = ded (cl t s :: (ordC t s).flatMap (kidC t)) := by
  have R := reach_spec ok hs
  have e : ded ((reach t s).map (cl t)) = ded ([cl t s] ++ ((reach t s).map (cl t)).flatMap (kidC t)) := by
    rw [← flat_cl ok _ R.lt]
    have := ded_map_ded (cl t) (s :: (reach t s).flatMap (kids t))
    rw [← reach_fix ok hs] at this
    rw [this]
    rfl
  rw [ordC_eq]
  conv => lhs; rw [e, ← ded_flat]
  rfl
theorem ordC_rch (ok : Ok t) (hs : s < t.length) : Rch (cl t s) (kidC t) (ordC t s) := by
  intro S h0 hS k hk
  rw [ordC_eq, mem_ded, List.mem_map] at hk
  obtain ⟨x, hx, rfl⟩ := hk
  have I := iter_inv (f := rStep t) (fun q => RI t s q ∧ ∀ x ∈ q.1, S (cl t x)) (by
    rintro ⟨l, a⟩ q' ⟨I, J⟩ h
    refine ⟨(ri_step ok I h).1, ?_⟩
    unfold rStep at h
    dsimp only at h J
    split at h
    · rename_i ha
      cases h
      dsimp only
      have hm := getD_mem ha
      have hlt := I.lt _ hm
      have hk := hS _ (J _ hm)
      rw [kidC_eq ok hlt] at hk
      intro x hx
      rw [mem_addN, mem_addN] at hx
      rcases hx with (hx | rfl) | rfl
      · exact J x hx
      · exact hk _ (List.mem_map_of_mem (by simp [kids]))
      · exact hk _ (List.mem_map_of_mem (by simp [kids]))
    · cases h) t.length (a := ([s], 0)) ⟨ri_start hs, by simpa using h0⟩
  exact I.2 x hx
abbrev LS := List Nat × List Nat × Nat
def lStep (t : Tab) : LS → Option LS := fun q => if q.2.2 < q.2.1.length then
    (let x := q.2.1.getD q.2.2 0
     if cl t x ∈ q.1.map (cl t) then some (q.1, q.2.1, q.2.2 + 1) else some (q.1 ++ [x], q.2.1 ++ kids t x, q.2.2 + 1)) else none
structure LI (t : Tab) (s : Nat) (q : LS) : Prop where
  line : q.2.1 = s :: q.1.flatMap (kids t)
  ord : q.1.map (cl t) = ded ((q.2.1.take q.2.2).map (cl t))
  lt : ∀ x ∈ q.2.1, x < t.length
  olt : ∀ x ∈ q.1, x < t.length
  le : q.2.2 ≤ q.2.1.length
  nd : q.1.Nodup
  rch : ∀ S : Nat → Prop, S (cl t s) → (∀ k, S k → ∀ y ∈ kidC t k, S y) → (∀ x ∈ q.2.1, S (cl t x)) ∧ ∀ x ∈ q.1, S (cl t x)
theorem len_flat (t : Tab) (l : List Nat) : (l.flatMap (kids t)).length = 2 * l.length := by
  induction l with
  | nil => rfl
  | cons x l ih => rw [List.flatMap_cons, List.length_append, ih, List.length_cons]; simp [kids]; omega
theorem nodup_map (c : Nat → Nat) : ∀ {l : List Nat}, (l.map c).Nodup → l.Nodup := nodup_unmap c
theorem li_start (hs : s < t.length) : LI t s ([], [s], 0) := ⟨rfl, rfl, by simpa using hs, by simp, by simp, by simp, fun S h0 _ => ⟨by simpa using h0, by simp⟩⟩
theorem li_step (ok : Ok t) {q q' : LS} (I : LI t s q) (h : lStep t q = some q') : LI t s q' ∧ (2 * t.length + 1) - q'.2.2 < (2 * t.length + 1) - q.2.2 := by
  obtain ⟨R, L, a⟩ := q
  unfold lStep at h
  dsimp only at h
  split at h
  · rename_i ha
    have hm := getD_mem ha
    have hlt := I.lt _ hm
    have hln : L.length ≤ 2 * t.length + 1 := by
      have h1 := I.line
      dsimp only at h1
      have h2 := pigeon t.length R I.nd I.olt
      rw [h1, List.length_cons, len_flat]
      omega
    have htk : ∀ r, (L ++ r).take (a + 1) = L.take a ++ [L.getD a 0] := fun r => take_succ_of ha
    split at h
    · rename_i hc
      cases h
      refine ⟨⟨I.line, ?_, I.lt, I.olt, by dsimp only; omega, I.nd, I.rch⟩, by dsimp only; omega⟩
      have := I.ord
      dsimp only at this ⊢
      have h2 := htk []
      rw [List.append_nil] at h2
      rw [h2, List.map_append, ded_append, ← this, List.map_cons, List.map_nil, List.foldl_cons, List.foldl_nil, addN_in hc]
    · rename_i hc
      cases h
      have ho := I.ord
      have hl := I.line
      dsimp only at ho hl
      refine ⟨⟨?_, ?_, ?_, ?_, ?_, ?_, ?_⟩, by dsimp only; omega⟩
      · dsimp only
        rw [List.flatMap_append, ← List.cons_append, ← hl]
        simp
      · dsimp only
        rw [htk, List.map_append, List.map_append, ded_append, ← ho, List.map_cons, List.map_nil, List.foldl_cons, List.foldl_nil, addN_out hc]
      · intro x hx
        dsimp only at hx
        rw [List.mem_append] at hx
        rcases hx with hx | hx
        · exact I.lt x hx
        · exact kids_lt ok hlt x hx
      · intro x hx
        dsimp only at hx
        rw [List.mem_append, List.mem_singleton] at hx
        rcases hx with hx | rfl
        · exact I.olt x hx
        · exact hlt
      · dsimp only; rw [List.length_append]; omega
      · dsimp only
        rw [List.nodup_append]
        refine ⟨I.nd, by simp, fun x hx y hy e => ?_⟩
        rw [List.mem_singleton] at hy
        subst hy; subst e
        exact hc (List.mem_map_of_mem hx)
      · intro S h0 hS
        obtain ⟨j1, j2⟩ := I.rch S h0 hS
        have hx := j1 _ hm
        have hk := hS _ hx
        rw [kidC_eq ok hlt] at hk
        refine ⟨fun y hy => ?_, fun y hy => ?_⟩
        · dsimp only at hy
          rw [List.mem_append] at hy
          rcases hy with hy | hy
          · exact j1 y hy
          · exact hk _ (List.mem_map_of_mem hy)
        · dsimp only at hy
          rw [List.mem_append, List.mem_singleton] at hy
          rcases hy with hy | rfl
          · exact j2 y hy
          · exact hx
  · cases h
def lEnd (t : Tab) (s : Nat) : LS := iter (lStep t) (2 * t.length + 1) ([], [s], 0)
theorem lEnd_done (ok : Ok t) (hs : s < t.length) : lStep t (lEnd t s) = none :=
  iter_done (LI t s) (fun q => (2 * t.length + 1) - q.2.2) (fun a b I h => li_step ok I h) _ (li_start hs) (by dsimp only; omega)
theorem lEnd_li (ok : Ok t) (hs : s < t.length) : LI t s (lEnd t s) := iter_inv (LI t s) (fun a b I h => (li_step ok I h).1) _ (li_start hs)
theorem lEnd_ord (ok : Ok t) (hs : s < t.length) : (lEnd t s).1.map (cl t) = ordC t s := by
  have I := lEnd_li ok hs
  have D := lEnd_done ok hs
  generalize lEnd t s = q at *
  obtain ⟨R, L, a⟩ := q
  have hle : L.length ≤ a := by
    unfold lStep at D
    dsimp only at D
    split at D
    · split at D <;> cases D
    · omega
  have ho := I.ord
  have hl := I.line
  dsimp only at ho hl ⊢
  rw [List.take_of_length_le hle, hl, List.map_cons, flat_cl ok R I.olt] at ho
  refine ded_unique ho (ordC_fix ok hs) ?_ (ordC_rch ok hs)
  intro S h0 hS k hk
  rw [List.mem_map] at hk
  obtain ⟨x, hx, rfl⟩ := hk
  exact (I.rch S h0 hS).2 x hx
theorem map_alike {β : Type} (c : Nat → Nat) (f : Nat → β) (P : Nat → Prop) (hf : ∀ x y, P x → P y → c x = c y → f x = f y) : ∀ (l m : List Nat), l.map c = m.map c → (∀ x ∈ l, P x) → (∀ x ∈ m, P x) → l.map f = m.map f
  | [], [], _, _, _ => rfl
  | [], y :: m, h, _, _ => by simp at h
  | x :: l, [], h, _, _ => by simp at h
  | x :: l, y :: m, h, h1, h2 => by
    simp only [List.map_cons, List.cons.injEq] at h ⊢
    exact ⟨hf x y (h1 x (by simp)) (h2 y (by simp)) h.1, map_alike c f P hf l m h.2 (fun z hz => h1 z (by simp [hz])) fun z hz => h2 z (by simp [hz])⟩
theorem small_walk (ok : Ok t) (hs : s < t.length) : ((lEnd t s).1.map fun x => ((row t x).1, (((lEnd t s).1.map (cl t)).idxOf (cl t (row t x).2.1) : Nat), (((lEnd t s).1.map (cl t)).idxOf (cl t (row t x).2.2) : Nat))) = small t s := by
  have he := lEnd_ord ok hs
  have I := lEnd_li ok hs
  have P := small_pi t s
  have R := reach_spec ok hs
  rw [he]
  unfold small
  have e : ∀ y, ix t s y = (ordC t s).idxOf (cl t y) := fun y => rfl
  simp only [e]
  refine map_alike (cl t) (fun x => ((row t x).1, (ordC t s).idxOf (cl t (row t x).2.1), (ordC t s).idxOf (cl t (row t x).2.2))) (fun x => x < t.length) (fun x y hx hy h => ?_) _ _ ?_ I.olt fun x hx => R.lt x (P.sub x hx)
  · obtain ⟨h1, h2⟩ := cl_stable ok hx hy h
    simp only [kids, List.map_cons, List.map_nil, List.cons.injEq, and_true] at h2
    simp only [h1, h2.1, h2.2]
  · rw [he]
    exact P.eq
end
end Tb
namespace Tb
section
variable {A : Type} [DecidableEq A]
theorem subLen : ∀ {l m : List A}, l.Nodup → (∀ x ∈ l, x ∈ m) → l.length ≤ m.length
  | [], m, _, _ => by simp
  | x :: l, m, hd, h => by
    have h1 : x ∈ m := h x (by simp)
    have h2 := subLen (l := l) (m := m.erase x) (List.nodup_cons.mp hd).2 fun y hy => by
      rw [List.mem_erase_of_ne]
      · exact h y (by simp [hy])
      · rintro rfl; exact (List.nodup_cons.mp hd).1 hy
    rw [List.length_erase_of_mem h1] at h2
    have h3 := List.length_pos_of_mem h1
    rw [List.length_cons]; omega
def RchA (c0 : A) (G : A → List A) (K : List A) : Prop := ∀ S : A → Prop, S c0 → (∀ k, S k → ∀ y ∈ G k, S y) → ∀ k ∈ K, S k
theorem takePre {K Q r : List A} (h : K = Q ++ r) {n : Nat} (hn : n ≤ Q.length) : K.take n = Q.take n := by
  rw [h, List.take_append_of_le_length hn]
theorem closedAll {c0 : A} {G : A → List A} {K r : List A} {n : Nat} (hK : K.Nodup) (hr : RchA c0 G K) (hq : K = ded (c0 :: (K.take n).flatMap G) ++ r) (hn : (ded (c0 :: (K.take n).flatMap G)).length ≤ n) : K = K.take n := by
  generalize hQ : ded (c0 :: (K.take n).flatMap G) = Q at *
  have hsub : ∀ y ∈ Q, y ∈ K.take n := by
    intro y hy
    have e : K.take n = Q ++ (r.take (n - Q.length)) := by
      rw [hq, List.take_append, List.take_of_length_le hn]
    rw [e]
    exact List.mem_append_left _ hy
  have hall : ∀ k ∈ K, k ∈ K.take n := hr (fun k => k ∈ K.take n) (hsub _ (by rw [← hQ, mem_ded]; simp)) fun k hk y hy => hsub _ (by
    rw [← hQ, mem_ded]
    exact List.mem_cons_of_mem _ (List.mem_flatMap.mpr ⟨k, hk, hy⟩))
  have hl := subLen hK hall
  rw [List.length_take] at hl
  rw [List.take_of_length_le (by omega)]
theorem splitPre {c0 : A} {G : A → List A} {K : List A} (h : K = ded (c0 :: K.flatMap G)) (n : Nat) : ∃ r, K = ded (c0 :: (K.take n).flatMap G) ++ r := by
  obtain ⟨r, hr⟩ := ded_pre (c0 :: (K.take n).flatMap G) ((K.drop n).flatMap G)
  refine ⟨r, ?_⟩
  rw [← hr, List.cons_append, ← List.flatMap_append, List.take_append_drop]
  exact h
theorem dedUnique {c0 : A} {G : A → List A} {K K' : List A} (h : K = ded (c0 :: K.flatMap G)) (h' : K' = ded (c0 :: K'.flatMap G)) (r : RchA c0 G K) (r' : RchA c0 G K') : K = K' := by
  have nd : K.Nodup := by rw [h]; exact nodup_ded _
  have nd' : K'.Nodup := by rw [h']; exact nodup_ded _
  have H : ∀ n, K.take n = K'.take n := by
    intro n
    induction n with
    | zero => simp
    | succ n ih =>
      obtain ⟨q, hq⟩ := splitPre h n
      obtain ⟨q', hq'⟩ := splitPre h' n
      by_cases hn : (ded (c0 :: (K.take n).flatMap G)).length ≤ n
      · have e1 := closedAll nd r hq hn
        have e2 := closedAll nd' r' hq' (by rw [← ih]; exact hn)
        have e3 : K = K' := by rw [e1, e2, ih]
        rw [e3]
      · rw [takePre hq (by omega), takePre hq' (by rw [← ih]; omega), ih]
  have e := H (K.length + K'.length)
  rw [List.take_of_length_le (by omega), List.take_of_length_le (by omega)] at e
  exact e
end
open Classical in
noncomputable instance langDec : DecidableEq (List Bool → Bool) := fun a b => Classical.propDecidable (a = b)
abbrev Lg := List Bool → Bool
def lang (t : Tab) (x : Nat) : Lg := fun w => (row t (run t x w)).1
def der (b : Bool) (l : Lg) : Lg := fun w => l (b :: w)
def kidL (l : Lg) : List Lg := [der true l, der false l]
section
variable {t u : Tab} {s s' : Nat}
theorem lang_nx (x : Nat) (b : Bool) : lang t (nx t x b) = der b (lang t x) := rfl
theorem lang_kids (x : Nat) : (kids t x).map (lang t) = kidL (lang t x) := rfl
theorem flat_lang : ∀ (l : List Nat), (l.flatMap (kids t)).map (lang t) = (l.map (lang t)).flatMap kidL
  | [] => rfl
  | x :: l => by rw [List.flatMap_cons, List.map_append, List.map_cons, List.flatMap_cons, lang_kids, flat_lang l]
noncomputable def ordL (t : Tab) (s : Nat) : List Lg := ded ((reach t s).map (lang t))
theorem ordL_fix (ok : Ok t) (hs : s < t.length) : ordL t s = ded (lang t s :: (ordL t s).flatMap kidL) := by
  have e : ded ((reach t s).map (lang t)) = ded ([lang t s] ++ ((reach t s).map (lang t)).flatMap kidL) := by
    rw [← flat_lang]
    have := ded_map_ded (lang t) (s :: (reach t s).flatMap (kids t))
    rw [← reach_fix ok hs] at this
    rw [this]
    rfl
  unfold ordL
  conv => lhs; rw [e, ← ded_flat]
  rfl
theorem ordL_rch (ok : Ok t) (hs : s < t.length) : RchA (lang t s) kidL (ordL t s) := by
  intro S h0 hS k hk
  unfold ordL at hk
  rw [mem_ded, List.mem_map] at hk
  obtain ⟨x, hx, rfl⟩ := hk
  have I := iter_inv (f := rStep t) (fun q => ∀ x ∈ q.1, S (lang t x)) (by
    rintro ⟨l, a⟩ q' J h
    unfold rStep at h
    dsimp only at h J
    split at h
    · rename_i ha
      cases h
      dsimp only
      have hk := hS _ (J _ (getD_mem ha))
      intro x hx
      rw [mem_addN, mem_addN] at hx
      rcases hx with (hx | rfl) | rfl
      · exact J x hx
      · exact hk _ (by unfold kidL; exact List.mem_cons_self)
      · exact hk _ (by unfold kidL; exact List.mem_cons_of_mem _ List.mem_cons_self)
    · cases h) t.length (a := ([s], 0)) (by simpa using h0)
  exact I x hx
theorem ordL_lang (ok : Ok t) (hs : s < t.length) (ok' : Ok u) (hs' : s' < u.length) (h : lang t s = lang u s') : ordL t s = ordL u s' :=
  dedUnique (ordL_fix ok hs) (by rw [h]; exact ordL_fix ok' hs') (ordL_rch ok hs) (by rw [h]; exact ordL_rch ok' hs')
noncomputable def tabL (K : List Lg) : Tab := K.map fun l => (l [], (K.idxOf (der true l) : Nat), (K.idxOf (der false l) : Nat))
theorem cl_lang (ok : Ok t) {i j : Nat} (hi : i < t.length) (hj : j < t.length) : cl t i = cl t j ↔ lang t i = lang t j := by
  unfold cl
  rw [cls_iff ok hi hj]
  exact ⟨fun h => funext h, fun h w => congrFun h w⟩
theorem ded_two {B C : Type} [DecidableEq B] [DecidableEq C] (c : Nat → B) (d : Nat → C) (P : Nat → Prop) (h : ∀ x y, P x → P y → (c x = c y ↔ d x = d y)) : ∀ (l acc : List Nat), (∀ x ∈ l, P x) → (∀ x ∈ acc, P x) → ∃ r : List Nat, (∀ x ∈ r, x ∈ acc ∨ x ∈ l) ∧ (l.map c).foldl addN (acc.map c) = r.map c ∧ (l.map d).foldl addN (acc.map d) = r.map d
  | [], acc, _, _ => ⟨acc, fun x hx => .inl hx, rfl, rfl⟩
  | x :: l, acc, hl, ha => by
    rw [List.map_cons, List.map_cons, List.foldl_cons, List.foldl_cons]
    by_cases hx : c x ∈ acc.map c
    · have hx' : d x ∈ acc.map d := by
        rw [List.mem_map] at hx ⊢
        obtain ⟨y, hy, e⟩ := hx
        exact ⟨y, hy, (h y x (ha y hy) (hl x (by simp))).mp e⟩
      rw [addN_in hx, addN_in hx']
      obtain ⟨r, h1, h2, h3⟩ := ded_two c d P h l acc (fun y hy => hl y (by simp [hy])) ha
      exact ⟨r, fun y hy => (h1 y hy).imp id fun z => by simp [z], h2, h3⟩
    · have hx' : d x ∉ acc.map d := by
        intro z
        rw [List.mem_map] at z
        obtain ⟨y, hy, e⟩ := z
        exact hx (List.mem_map.mpr ⟨y, hy, (h y x (ha y hy) (hl x (by simp))).mpr e⟩)
      rw [addN_out hx, addN_out hx']
      obtain ⟨r, h1, h2, h3⟩ := ded_two c d P h l (acc ++ [x]) (fun y hy => hl y (by simp [hy])) fun y hy => by
        rw [List.mem_append, List.mem_singleton] at hy
        rcases hy with hy | rfl
        · exact ha y hy
        · exact hl y (by simp)
      rw [List.map_append] at h2 h3
      refine ⟨r, fun y hy => ?_, h2, h3⟩
      rcases h1 y hy with z | z
      · rw [List.mem_append, List.mem_singleton] at z
        rcases z with z | rfl
        · exact .inl z
        · exact .inr (by simp)
      · exact .inr (by simp [z])
theorem idx_two {B C : Type} [BEq B] [LawfulBEq B] [BEq C] [LawfulBEq C] (c : Nat → B) (d : Nat → C) {y : Nat} : ∀ (r : List Nat), (∀ x ∈ r, (c x = c y ↔ d x = d y)) → (r.map c).idxOf (c y) = (r.map d).idxOf (d y)
  | [], _ => rfl
  | x :: r, h => by
    have hx := h x (by simp)
    rw [List.map_cons, List.map_cons, List.idxOf_cons, List.idxOf_cons, idx_two c d r fun z hz => h z (by simp [hz])]
    by_cases e : c x = c y
    · have e' := hx.mp e
      rw [beq_iff_eq.mpr e, beq_iff_eq.mpr e']
    · have e' : ¬ d x = d y := fun z => e (hx.mpr z)
      rw [beq_eq_false_iff_ne.mpr e, beq_eq_false_iff_ne.mpr e']
theorem small_tabL (ok : Ok t) (hs : s < t.length) : small t s = tabL (ordL t s) := by
  have R := reach_spec ok hs
  have P := small_pi t s
  obtain ⟨r, h1, h2, h3⟩ := ded_two (cl t) (lang t) (fun x => x < t.length) (fun x y hx hy => cl_lang ok hx hy) (reach t s) [] R.lt (by simp)
  have hr : ∀ x ∈ r, x < t.length ∧ x ∈ reach t s := fun x hx => by
    rcases h1 x hx with z | z
    · simp at z
    · exact ⟨R.lt x z, z⟩
  have e1 : ordC t s = r.map (cl t) := by rw [ordC_eq]; exact h2
  have e2 : ordL t s = r.map (lang t) := h3
  have e3 : small t s = r.map fun x => ((row t x).1, (ordC t s).idxOf (cl t (row t x).2.1), (ordC t s).idxOf (cl t (row t x).2.2)) := by
    unfold small
    have e : ∀ y, ix t s y = (ordC t s).idxOf (cl t y) := fun y => rfl
    simp only [e]
    refine map_alike (cl t) (fun x => ((row t x).1, (ordC t s).idxOf (cl t (row t x).2.1), (ordC t s).idxOf (cl t (row t x).2.2))) (fun x => x < t.length) (fun x y hx hy h => ?_) _ _ ?_ (fun x hx => R.lt x (P.sub x hx)) fun x hx => (hr x hx).1
    · obtain ⟨h1, h2⟩ := cl_stable ok hx hy h
      simp only [kids, List.map_cons, List.map_nil, List.cons.injEq, and_true] at h2
      simp only [h1, h2.1, h2.2]
    · rw [← e1]; exact P.eq.symm
  rw [e3, e1, e2]
  unfold tabL
  rw [List.map_map]
  apply List.map_congr_left
  intro x hx
  have hk := ok _ (row_mem (hr x hx).1)
  have i1 := idx_two (cl t) (lang t) (y := (row t x).2.1) r fun z hz => cl_lang ok (hr z hz).1 hk.1
  have i2 := idx_two (cl t) (lang t) (y := (row t x).2.2) r fun z hz => cl_lang ok (hr z hz).1 hk.2
  rw [i1, i2]
  rfl
theorem small_lang (ok : Ok t) (hs : s < t.length) (ok' : Ok u) (hs' : s' < u.length) (h : ∀ w, (row t (run t s w)).1 = (row u (run u s' w)).1) : small t s = small u s' := by
  rw [small_tabL ok hs, small_tabL ok' hs', ordL_lang ok hs ok' hs' (funext h)]
theorem small_small (ok : Ok t) (hs : s < t.length) : small (small t s) 0 = small t s :=
  small_lang (small_ok ok hs) (small_pos ok hs) ok hs fun w => small_status ok hs w
end
end Tb
namespace Tb
def stk (rise fall : Nat) : Tab := (List.range fall).map (fun i => (true, 0, i + 1)) ++ (List.range rise).map (fun j => (false, (if j + 1 < rise then fall + j + 1 else 0), fall))
section
variable {rise fall : Nat}
theorem stk_len : (stk rise fall).length = fall + rise := by unfold stk; simp
theorem stk_up {i : Nat} (h : i < fall) : row (stk rise fall) i = (true, 0, i + 1) := by
  rw [row_eq (by rw [stk_len]; omega)]
  unfold stk
  rw [List.getElem_append_left (by simpa using h)]
  simp
theorem stk_dn {j : Nat} (h : j < rise) : row (stk rise fall) (fall + j) = (false, (if j + 1 < rise then fall + j + 1 else 0), fall) := by
  rw [row_eq (by rw [stk_len]; omega)]
  unfold stk
  rw [List.getElem_append_right (by simp)]
  simp
theorem stk_ok (hr : 1 ≤ rise) (hf : 1 ≤ fall) : Ok (stk rise fall) := by
  intro r h
  rw [stk_len]
  unfold stk at h
  rw [List.mem_append, List.mem_map, List.mem_map] at h
  rcases h with ⟨i, hi, rfl⟩ | ⟨j, hj, rfl⟩
  · rw [List.mem_range] at hi
    exact ⟨by dsimp only; omega, by dsimp only; omega⟩
  · rw [List.mem_range] at hj
    refine ⟨?_, by dsimp only; omega⟩
    dsimp only
    split <;> omega
abbrev SS := Bool × Nat
def sStep (rise fall : Nat) (q : SS) (b : Bool) : SS :=
  let c := if b = !q.1 then q.2 + 1 else 0
  if c = (if q.1 then fall else rise) then (!q.1, 0) else (q.1, c)
def sOk (rise fall : Nat) (q : SS) : Prop := q.2 < (if q.1 then fall else rise)
def sRow (fall : Nat) (q : SS) : Nat := if q.1 then q.2 else fall + q.2
theorem sStep_ok (hr : 1 ≤ rise) (hf : 1 ≤ fall) {q : SS} (h : sOk rise fall q) (b : Bool) : sOk rise fall (sStep rise fall q b) := by
  obtain ⟨u, c⟩ := q
  unfold sOk at h ⊢
  unfold sStep
  cases u <;> cases b <;> simp at h ⊢
  · rw [if_neg (by omega)]; simp; omega
  · split
    · simp; omega
    · simp; omega
  · split
    · simp; omega
    · simp; omega
  · rw [if_neg (by omega)]; simp; omega
theorem sStep_row (hr : 1 ≤ rise) (hf : 1 ≤ fall) {q : SS} (h : sOk rise fall q) (b : Bool) : nx (stk rise fall) (sRow fall q) b = sRow fall (sStep rise fall q b) := by
  obtain ⟨u, c⟩ := q
  unfold sOk at h
  cases u
  · simp at h
    have hs : sRow fall (false, c) = fall + c := rfl
    rw [hs]
    unfold nx
    rw [stk_dn h]
    unfold sStep
    cases b
    · simp
      rw [if_neg (by omega)]
      simp [sRow]
    · simp
      by_cases hc : c + 1 = rise
      · rw [if_pos hc, if_neg (by omega)]; simp [sRow]
      · rw [if_neg hc, if_pos (by omega)]; simp [sRow]; omega
  · simp at h
    have hs : sRow fall (true, c) = c := rfl
    rw [hs]
    unfold nx
    rw [stk_up h]
    unfold sStep
    cases b
    · simp
      by_cases hc : c + 1 = fall
      · rw [if_pos hc]; simp [sRow]; omega
      · rw [if_neg hc]; simp [sRow]
    · simp
      rw [if_neg (by omega)]
      simp [sRow]
theorem sRow_st {q : SS} (h : sOk rise fall q) : (row (stk rise fall) (sRow fall q)).1 = q.1 := by
  obtain ⟨u, c⟩ := q
  unfold sOk at h
  cases u
  · simp at h
    have hs : sRow fall (false, c) = fall + c := rfl
    rw [hs, stk_dn h]
  · simp at h
    have hs : sRow fall (true, c) = c := rfl
    rw [hs, stk_up h]
theorem run_app (t : Tab) : ∀ (u v : List Bool) (i : Nat), run t i (u ++ v) = run t (run t i u) v
  | [], v, i => rfl
  | b :: u, v, i => run_app t u v (nx t i b)
theorem run_fail {i : Nat} : ∀ (n : Nat), i + n < fall ∨ (i < fall ∧ i + n = fall) → run (stk rise fall) i (List.replicate n false) = i + n
  | 0, _ => rfl
  | n + 1, h => by
    rw [List.replicate_succ', run_app, run_fail n (by omega)]
    show nx _ (i + n) false = _
    unfold nx
    rw [stk_up (by omega)]
    simp; omega
theorem run_pass {j : Nat} : ∀ (n : Nat), j + n < rise → run (stk rise fall) (fall + j) (List.replicate n true) = fall + j + n
  | 0, _ => rfl
  | n + 1, h => by
    rw [List.replicate_succ', run_app, run_pass n (by omega)]
    show nx _ (fall + j + n) true = _
    unfold nx
    rw [Nat.add_assoc fall j n, stk_dn (by omega)]
    simp
    rw [if_pos (by omega)]
    omega
theorem run_back {j n : Nat} (h : j + n = rise) (hn : 0 < n) : run (stk rise fall) (fall + j) (List.replicate n true) = 0 := by
  obtain ⟨m, rfl⟩ : ∃ m, n = m + 1 := ⟨n - 1, by omega⟩
  rw [List.replicate_succ', run_app, run_pass m (by omega)]
  show nx _ (fall + j + m) true = _
  unfold nx
  rw [Nat.add_assoc fall j m, stk_dn (by omega)]
  simp
  omega
theorem stk_apart (hr : 1 ≤ rise) (hf : 1 ≤ fall) {x y : Nat} (hx : x < fall + rise) (hy : y < fall + rise) (h : Alike (stk rise fall) x y) : x = y := by
  have key : ∀ x y, x < y → y < fall + rise → ¬ Alike (stk rise fall) x y := by
    intro x y hxy hy h
    by_cases h1 : y < fall
    · have := h (List.replicate (fall - y) false)
      rw [run_fail _ (by omega), run_fail _ (by omega), stk_up (by omega)] at this
      have e : y + (fall - y) = fall + 0 := by omega
      rw [e, stk_dn (by omega)] at this
      simp at this
    · obtain ⟨k, rfl⟩ : ∃ k, y = fall + k := ⟨y - fall, by omega⟩
      by_cases h2 : x < fall
      · have := h []
        unfold run at this
        rw [stk_up h2, stk_dn (by omega)] at this
        simp at this
      · obtain ⟨j, rfl⟩ : ∃ j, x = fall + j := ⟨x - fall, by omega⟩
        have := h (List.replicate (rise - k) true)
        have e1 := stk_up (rise := rise) (fall := fall) (i := 0) (by omega)
        have e2 := stk_dn (rise := rise) (fall := fall) (j := j + (rise - k)) (by omega)
        rw [run_back (j := k) (by omega) (by omega), run_pass _ (by omega), e1, Nat.add_assoc, e2] at this
        simp at this
  rcases Nat.lt_trichotomy x y with h1 | h1 | h1
  · exact (key x y h1 hy h).elim
  · exact h1
  · exact (key y x h1 hx fun w => (h w).symm).elim
theorem ded_nodup {A : Type} [DecidableEq A] : ∀ (l acc : List A), (acc ++ l).Nodup → l.foldl addN acc = acc ++ l
  | [], acc, _ => by simp
  | x :: l, acc, h => by
    have hx : x ∉ acc := fun z => by
      rw [List.nodup_append] at h
      exact h.2.2 x z x (by simp) rfl
    rw [List.foldl_cons, addN_out hx, ded_nodup l (acc ++ [x]) (by simpa using h)]
    simp
theorem nodup_inj {A : Type} (c : Nat → A) : ∀ {l : List Nat}, l.Nodup → (∀ x ∈ l, ∀ y ∈ l, c x = c y → x = y) → (l.map c).Nodup
  | [], _, _ => by simp
  | x :: l, h, hi => by
    rw [List.nodup_cons] at h
    rw [List.map_cons, List.nodup_cons, List.mem_map]
    refine ⟨?_, nodup_inj c h.2 fun a ha b hb => hi a (by simp [ha]) b (by simp [hb])⟩
    rintro ⟨y, hy, e⟩
    have := hi y (by simp [hy]) x (by simp) e
    subst this
    exact h.1 hy
theorem stk_small_len (hr : 1 ≤ rise) (hf : 1 ≤ fall) : (small (stk rise fall) 0).length = rise + fall := by
  have ok := stk_ok hr hf
  have h0 : 0 < (stk rise fall).length := by rw [stk_len]; omega
  have R := reach_spec ok h0
  have hl := stk_len (rise := rise) (fall := fall)
  have a1 : ∀ i, i ≤ fall → i ∈ reach (stk rise fall) 0 := fun i hi => by
    have := run_reach R (List.replicate i false) (start_mem ok h0)
    rw [run_fail i (by omega)] at this
    simpa using this
  have a2 : ∀ j, j < rise → fall + j ∈ reach (stk rise fall) 0 := fun j hj => by
    have := run_reach R (List.replicate j true) (a1 fall (by omega))
    have e := run_pass (rise := rise) (fall := fall) (j := 0) j (by omega)
    rw [Nat.add_zero] at e
    rw [e] at this
    exact this
  have hsub : ∀ x ∈ List.range (fall + rise), x ∈ reach (stk rise fall) 0 := fun x hx => by
    rw [List.mem_range] at hx
    by_cases h : x < fall
    · exact a1 x (by omega)
    · have := a2 (x - fall) (by omega)
      rw [show fall + (x - fall) = x by omega] at this
      exact this
  have l1 := sub_len (List.nodup_range (n := fall + rise)) hsub
  have l2 := pigeon _ _ R.nd R.lt
  rw [List.length_range] at l1
  rw [hl] at l2
  rw [small_len]
  have e : (pick (cls (stk rise fall)) (reach (stk rise fall) 0) ([], [])).1 = (reach (stk rise fall) 0).map (cl (stk rise fall)) := by
    rw [pick_fst]
    have := ded_nodup ((reach (stk rise fall) 0).map (cl (stk rise fall))) [] (by
      rw [List.nil_append]
      refine nodup_inj _ R.nd fun x hx y hy e => ?_
      have h1 := R.lt x hx
      have h2 := R.lt y hy
      exact stk_apart hr hf (by omega) (by omega) ((cls_iff ok h1 h2).mp e))
    rw [List.nil_append] at this
    exact this
  rw [e, List.length_map]
  omega
end
end Tb
namespace Tb
def mir (t : Tab) : Tab := t.map fun r => (!r.1, r.2.2, r.2.1)
section
variable {t : Tab}
theorem mir_len : (mir t).length = t.length := by unfold mir; simp
theorem mir_ok (ok : Ok t) : Ok (mir t) := by
  intro r hr
  unfold mir at hr
  rw [List.mem_map] at hr
  obtain ⟨q, hq, rfl⟩ := hr
  rw [mir_len]
  exact ⟨(ok q hq).2, (ok q hq).1⟩
theorem mir_row {i : Nat} (h : i < t.length) : row (mir t) i = (!(row t i).1, (row t i).2.2, (row t i).2.1) := by
  rw [row_eq (by rw [mir_len]; exact h), row_eq h]
  unfold mir
  simp
theorem mir_nx {i : Nat} (h : i < t.length) (b : Bool) : nx (mir t) i b = nx t i (!b) := by
  unfold nx
  rw [mir_row h]
  cases b <;> rfl
theorem mir_run (ok : Ok t) : ∀ (w : List Bool) {i : Nat}, i < t.length → run (mir t) i w = run t i (w.map not)
  | [], i, _ => rfl
  | b :: w, i, h => by
    show run (mir t) (nx (mir t) i b) w = run t (nx t i (!b)) (w.map not)
    rw [mir_nx h, mir_run ok w (nx_lt ok h _)]
theorem mir_ans (ok : Ok t) {i : Nat} (h : i < t.length) (w : List Bool) : (row (mir t) (run (mir t) i w)).1 = !(row t (run t i (w.map not))).1 := by
  rw [mir_run ok w h, mir_row (run_lt ok _ h)]
theorem mir_small (ok : Ok t) (h : 0 < t.length) : small (mir (small t 0)) 0 = small (mir t) 0 := by
  have so := small_ok ok h
  have sp := small_pos ok h
  refine small_lang (mir_ok so) (by rw [mir_len]; exact sp) (mir_ok ok) (by rw [mir_len]; exact h) fun w => ?_
  rw [mir_ans so sp, mir_ans ok h, small_status ok h]
theorem map_not (w : List Bool) : (w.map not).map not = w := by
  induction w with
  | nil => rfl
  | cons b w ih => rw [List.map_cons, List.map_cons, ih, Bool.not_not]
theorem mir_mir : mir (mir t) = t := by
  unfold mir
  rw [List.map_map]
  induction t with
  | nil => rfl
  | cons r l ih => rw [List.map_cons, ih]; obtain ⟨a, b, c⟩ := r; simp
theorem mir_twice (ok : Ok t) (h : 0 < t.length) : small (mir (small (mir t) 0)) 0 = small t 0 := by
  have := mir_small (mir_ok ok) (by rw [mir_len]; exact h)
  rw [this, mir_mir]
end
end Tb
namespace Tb
def ign (n : Nat) (t : Tab) : Tab := ((List.range n).map fun i => ((row t 0).1, i + 1, i + 1)) ++ t.map fun r => (r.1, r.2.1 + n, r.2.2 + n)
section
variable {t : Tab} {n : Nat}
theorem ign_len : (ign n t).length = n + t.length := by unfold ign; simp
theorem ign_ok (ok : Ok t) (h : 0 < t.length) : Ok (ign n t) := by
  intro r hr
  rw [ign_len]
  unfold ign at hr
  rw [List.mem_append] at hr
  rcases hr with hr | hr
  · rw [List.mem_map] at hr
    obtain ⟨i, hi, rfl⟩ := hr
    rw [List.mem_range] at hi
    exact ⟨by show i + 1 < _; omega, by show i + 1 < _; omega⟩
  · rw [List.mem_map] at hr
    obtain ⟨q, hq, rfl⟩ := hr
    have := ok q hq
    exact ⟨by show q.2.1 + n < _; omega, by show q.2.2 + n < _; omega⟩
theorem ign_lo {i : Nat} (h : i < n) : row (ign n t) i = ((row t 0).1, i + 1, i + 1) := by
  show (ign n t).getD i _ = _
  unfold ign
  rw [List.getD_eq_getElem?_getD, List.getElem?_append_left (by simpa using h)]
  simp [h]
theorem ign_hi {i : Nat} (h : i < t.length) : row (ign n t) (i + n) = ((row t i).1, (row t i).2.1 + n, (row t i).2.2 + n) := by
  rw [row_eq h]
  show (ign n t).getD (i + n) _ = _
  unfold ign
  rw [List.getD_eq_getElem?_getD, List.getElem?_append_right (by simp)]
  simp [h]
theorem ign_nx_lo {i : Nat} (h : i < n) (b : Bool) : nx (ign n t) i b = i + 1 := by
  unfold nx; rw [ign_lo h]; cases b <;> rfl
theorem ign_nx_hi {i : Nat} (h : i < t.length) (b : Bool) : nx (ign n t) (i + n) b = nx t i b + n := by
  unfold nx; rw [ign_hi h]; cases b <;> rfl
theorem ign_run_hi (ok : Ok t) : ∀ (w : List Bool) {i : Nat}, i < t.length → run (ign n t) (i + n) w = run t i w + n
  | [], i, h => rfl
  | b :: w, i, h => by
    show run (ign n t) (nx (ign n t) (i + n) b) w = run t (nx t i b) w + n
    rw [ign_nx_hi h, ign_run_hi ok w (nx_lt ok h b)]
theorem ign_ans_lo (ok : Ok t) (hp : 0 < t.length) : ∀ (w : List Bool) {i : Nat}, i ≤ n → (row (ign n t) (run (ign n t) i w)).1 = if w.length < n - i then (row t 0).1 else (row t (run t 0 (w.drop (n - i)))).1
  | w, i, hi => by
    by_cases he : i = n
    · subst he
      rw [Nat.sub_self, if_neg (by omega), List.drop_zero]
      have := ign_run_hi (n := i) ok w hp
      rw [Nat.zero_add] at this
      rw [this, ign_hi (run_lt ok w hp)]
    · have hlt : i < n := by omega
      cases w with
      | nil =>
        rw [if_pos (by show 0 < n - i; omega)]
        show (row (ign n t) i).1 = _
        rw [ign_lo hlt]
      | cons b w =>
        show (row (ign n t) (run (ign n t) (nx (ign n t) i b) w)).1 = _
        rw [ign_nx_lo hlt, ign_ans_lo ok hp w (i := i + 1) (by omega)]
        have e : n - i = (n - (i + 1)) + 1 := by omega
        rw [e, List.length_cons, List.drop_succ_cons]
        by_cases hw : w.length < n - (i + 1)
        · rw [if_pos hw, if_pos (by omega)]
        · rw [if_neg hw, if_neg (by omega)]
theorem ign_ans (ok : Ok t) (hp : 0 < t.length) (w : List Bool) : (row (ign n t) (run (ign n t) 0 w)).1 = if w.length < n then (row t 0).1 else (row t (run t 0 (w.drop n))).1 := by
  have := ign_ans_lo (n := n) ok hp w (i := 0) (by omega)
  rwa [Nat.sub_zero] at this
theorem ign_small (ok : Ok t) (hp : 0 < t.length) : small (ign n (small t 0)) 0 = small (ign n t) 0 := by
  have so := small_ok ok hp
  have sp := small_pos ok hp
  refine small_lang (ign_ok so sp) (by rw [ign_len]; omega) (ign_ok ok hp) (by rw [ign_len]; omega) fun w => ?_
  rw [ign_ans so sp, ign_ans ok hp, small_status ok hp]
  have h0 := small_status ok hp []
  have h1 : (row (small t 0) 0).1 = (row t 0).1 := h0
  rw [h1]
theorem ign_zero : ign 0 t = t := by
  unfold ign
  simp
end
def jn (f : Bool → Bool → Bool) (a b : Tab) : Tab := a.flatMap fun r => b.map fun q => (f r.1 q.1, r.2.1 * b.length + q.2.1, r.2.2 * b.length + q.2.2)
section
variable {f : Bool → Bool → Bool} {a b : Tab}
theorem jn_len : (jn f a b).length = a.length * b.length := by
  unfold jn
  rw [List.length_flatMap]
  simp only [List.length_map, List.map_const', List.sum_replicate_nat]
theorem mul_lt {i j n m : Nat} (hi : i < n) (hj : j < m) : i * m + j < n * m := by
  have : (i + 1) * m ≤ n * m := Nat.mul_le_mul_right m hi
  rw [Nat.succ_mul] at this
  omega
theorem jn_ok (oa : Ok a) (ob : Ok b) : Ok (jn f a b) := by
  intro r hr
  rw [jn_len]
  unfold jn at hr
  rw [List.mem_flatMap] at hr
  obtain ⟨x, hx, hr⟩ := hr
  rw [List.mem_map] at hr
  obtain ⟨y, hy, rfl⟩ := hr
  exact ⟨mul_lt (oa x hx).1 (ob y hy).1, mul_lt (oa x hx).2 (ob y hy).2⟩
theorem flat_get {A B : Type} (g : A → List B) (m : Nat) : ∀ (l : List A) (hg : ∀ x ∈ l, (g x).length = m) {i j : Nat} (hi : i < l.length) (hj : j < m), (l.flatMap g)[i * m + j]? = (g l[i])[j]?
  | [], _, i, j, hi, _ => by simp at hi
  | x :: l, hg, i, j, hi, hj => by
    rw [List.flatMap_cons]
    have hx := hg x (by simp)
    cases i with
    | zero =>
      rw [Nat.zero_mul, Nat.zero_add, List.getElem?_append_left (by omega)]
      rfl
    | succ i =>
      rw [List.getElem?_append_right (by rw [hx, Nat.succ_mul]; omega), hx]
      have e : (i + 1) * m + j - m = i * m + j := by rw [Nat.succ_mul]; omega
      rw [e]
      rw [List.length_cons] at hi
      rw [flat_get g m l (fun y hy => hg y (by simp [hy])) (by omega) hj]
      rfl
theorem jn_row {i j : Nat} (hi : i < a.length) (hj : j < b.length) : row (jn f a b) (i * b.length + j) = (f (row a i).1 (row b j).1, (row a i).2.1 * b.length + (row b j).2.1, (row a i).2.2 * b.length + (row b j).2.2) := by
  have h := flat_get (fun r : Row => b.map fun q => (f r.1 q.1, r.2.1 * b.length + q.2.1, r.2.2 * b.length + q.2.2)) b.length a (by simp) hi hj
  unfold row jn
  rw [List.getD_eq_getElem?_getD, h]
  simp [hi, hj]
theorem jn_nx {i j : Nat} (hi : i < a.length) (hj : j < b.length) (c : Bool) : nx (jn f a b) (i * b.length + j) c = nx a i c * b.length + nx b j c := by
  unfold nx; rw [jn_row hi hj]; cases c <;> rfl
theorem jn_run (oa : Ok a) (ob : Ok b) : ∀ (w : List Bool) {i j : Nat}, i < a.length → j < b.length → run (jn f a b) (i * b.length + j) w = run a i w * b.length + run b j w
  | [], i, j, _, _ => rfl
  | c :: w, i, j, hi, hj => by
    show run (jn f a b) (nx (jn f a b) (i * b.length + j) c) w = _
    rw [jn_nx hi hj, jn_run oa ob w (nx_lt oa hi c) (nx_lt ob hj c)]
    rfl
theorem jn_ans (oa : Ok a) (ob : Ok b) (ha : 0 < a.length) (hb : 0 < b.length) (w : List Bool) : (row (jn f a b) (run (jn f a b) 0 w)).1 = f (row a (run a 0 w)).1 (row b (run b 0 w)).1 := by
  have h := jn_run (f := f) oa ob w ha hb
  rw [Nat.zero_mul, Nat.zero_add] at h
  rw [h, jn_row (run_lt oa w ha) (run_lt ob w hb)]
theorem jn_small (oa : Ok a) (ob : Ok b) (ha : 0 < a.length) (hb : 0 < b.length) : small (jn f (small a 0) (small b 0)) 0 = small (jn f a b) 0 := by
  have sa := small_ok oa ha
  have sb := small_ok ob hb
  have pa := small_pos oa ha
  have pb := small_pos ob hb
  refine small_lang (jn_ok sa sb) (by rw [jn_len]; exact Nat.mul_pos pa pb) (jn_ok oa ob) (by rw [jn_len]; exact Nat.mul_pos ha hb) fun w => ?_
  rw [jn_ans sa sb pa pb, jn_ans oa ob ha hb, small_status oa ha, small_status ob hb]
end
end Tb
namespace Tb
abbrev PW := List Bool × Nat × Nat
def bad (ab : Bool) (a b : Tab) (i j : Nat) : Bool := ((row a i).1 != (row b j).1) && ((row a i).1 || !ab)
abbrev KL := List (Nat × Nat) × List PW
def exp1 (a b : Tab) (p : PW) (c : Bool) (q : KL) : KL := if (nx a p.2.1 c, nx b p.2.2 c) ∈ q.1 then q else (q.1 ++ [(nx a p.2.1 c, nx b p.2.2 c)], q.2 ++ [(p.1 ++ [c], nx a p.2.1 c, nx b p.2.2 c)])
def exp2 (a b : Tab) (p : PW) (q : KL) : KL := exp1 a b p false (exp1 a b p true q)
def lev (ab : Bool) (a b : Tab) : List PW → KL → Sum (List Bool) KL
  | [], q => .inr q
  | p :: l, q => if bad ab a b p.2.1 p.2.2 then .inl p.1 else lev ab a b l (exp2 a b p q)
section
variable {ab : Bool} {a b : Tab}
def Ent (a b : Tab) (p : PW) : Prop := run a 0 p.1 = p.2.1 ∧ run b 0 p.1 = p.2.2
theorem run_snoc (t : Tab) : ∀ (w : List Bool) (i : Nat) (c : Bool), run t i (w ++ [c]) = nx t (run t i w) c
  | [], i, c => rfl
  | d :: w, i, c => by
    show run t (nx t i d) (w ++ [c]) = nx t (run t (nx t i d) w) c
    exact run_snoc t w _ c
structure LI2 (a b : Tab) (q : KL) : Prop where
  ent : ∀ p ∈ q.2, Ent a b p ∧ (p.2.1, p.2.2) ∈ q.1
  nd : q.1.Nodup
  lt : ∀ x ∈ q.1, x.1 < a.length ∧ x.2 < b.length
theorem exp1_li (oa : Ok a) (ob : Ok b) {p : PW} (hp : Ent a b p) (l1 : p.2.1 < a.length) (l2 : p.2.2 < b.length) (c : Bool) {q : KL} (I : LI2 a b q) :
    LI2 a b (exp1 a b p c q) ∧ (∀ x ∈ q.1, x ∈ (exp1 a b p c q).1) ∧ (∀ x ∈ q.2, x ∈ (exp1 a b p c q).2) ∧ (nx a p.2.1 c, nx b p.2.2 c) ∈ (exp1 a b p c q).1 ∧ (exp1 a b p c q).1.length + q.2.length = q.1.length + (exp1 a b p c q).2.length ∧ q.2.length ≤ (exp1 a b p c q).2.length ∧
    (∀ x ∈ (exp1 a b p c q).1, x ∈ q.1 ∨ ∃ e ∈ (exp1 a b p c q).2, (e.2.1, e.2.2) = x) := by
  unfold exp1
  split
  · rename_i h
    exact ⟨I, fun x hx => hx, fun x hx => hx, h, rfl, Nat.le_refl _, fun x hx => .inl hx⟩
  · rename_i h
    refine ⟨⟨fun x hx => ?_, ?_, fun x hx => ?_⟩, fun x hx => List.mem_append_left _ hx, fun x hx => List.mem_append_left _ hx, by simp, by simp; omega, by simp, fun x hx => ?_⟩
    · rw [List.mem_append] at hx
      rcases hx with hx | hx
      · exact ⟨(I.ent x hx).1, List.mem_append_left _ (I.ent x hx).2⟩
      · rw [List.mem_singleton] at hx
        subst hx
        exact ⟨⟨by rw [run_snoc, hp.1], by rw [run_snoc, hp.2]⟩, by simp⟩
    · rw [List.nodup_append]
      exact ⟨I.nd, by simp, fun x hx y hy => by rw [List.mem_singleton] at hy; subst hy; intro e; subst e; exact h hx⟩
    · rw [List.mem_append] at hx
      rcases hx with hx | hx
      · exact I.lt x hx
      · rw [List.mem_singleton] at hx
        subst hx
        exact ⟨nx_lt oa l1 c, nx_lt ob l2 c⟩
    · rw [List.mem_append] at hx
      rcases hx with hx | hx
      · exact .inl hx
      · rw [List.mem_singleton] at hx
        exact .inr ⟨_, List.mem_append_right _ (List.mem_singleton.mpr rfl), hx.symm⟩
theorem lev_ok (oa : Ok a) (ob : Ok b) : ∀ (l : List PW) (q : KL), (∀ p ∈ l, Ent a b p ∧ p.2.1 < a.length ∧ p.2.2 < b.length) → LI2 a b q →
    (∀ w, lev ab a b l q = .inl w → bad ab a b (run a 0 w) (run b 0 w) = true) ∧
    (∀ q', lev ab a b l q = .inr q' → LI2 a b q' ∧ (∀ x ∈ q.1, x ∈ q'.1) ∧ q'.1.length + q.2.length = q.1.length + q'.2.length ∧ q.2.length ≤ q'.2.length ∧ (∀ x ∈ q.2, x ∈ q'.2) ∧ (∀ p ∈ l, bad ab a b p.2.1 p.2.2 = false ∧ ∀ c, (nx a p.2.1 c, nx b p.2.2 c) ∈ q'.1) ∧ (∀ x ∈ q'.1, x ∈ q.1 ∨ ∃ e ∈ q'.2, (e.2.1, e.2.2) = x))
  | [], q, _, I => ⟨fun w h => (by cases h), fun q' h => by cases h; exact ⟨I, fun x hx => hx, rfl, Nat.le_refl _, fun x hx => hx, fun p hp => (nomatch hp), fun x hx => .inl hx⟩⟩
  | p :: l, q, hl, I => by
    obtain ⟨hp, l1, l2⟩ := hl p (by simp)
    unfold lev
    by_cases hb : bad ab a b p.2.1 p.2.2 = true
    · rw [if_pos hb]
      refine ⟨fun w h => ?_, fun q' h => by cases h⟩
      cases h
      rw [hp.1, hp.2]; exact hb
    · rw [if_neg hb]
      obtain ⟨I1, s1, t1, m1, n1, g1, k1⟩ := exp1_li oa ob hp l1 l2 true I
      obtain ⟨I2, s2, t2, m2, n2, g2, k2⟩ := exp1_li oa ob hp l1 l2 false I1
      obtain ⟨r1, r2⟩ := lev_ok oa ob l (exp2 a b p q) (fun x hx => hl x (by simp [hx])) I2
      refine ⟨r1, fun q' h => ?_⟩
      obtain ⟨I3, s3, n3, g3, t3, c3, k3⟩ := r2 q' h
      have e2 : exp2 a b p q = exp1 a b p false (exp1 a b p true q) := rfl
      rw [e2] at s3 n3 g3 t3 k3
      refine ⟨I3, fun x hx => s3 x (s2 x (s1 x hx)), by omega, by omega, fun x hx => t3 x (t2 x (t1 x hx)), fun x hx => ?_, fun x hx => ?_⟩
      · rcases List.mem_cons.mp hx with rfl | hx
        · refine ⟨by simpa using hb, fun c => ?_⟩
          cases c
          · exact s3 _ m2
          · exact s3 _ (s2 _ m1)
        · exact c3 x hx
      · rcases k3 x hx with hx | hx
        · rcases k2 x hx with hx | ⟨e, he, hx⟩
          · rcases k1 x hx with hx | ⟨e, he, hx⟩
            · exact .inl hx
            · exact .inr ⟨e, t3 e (t2 e he), hx⟩
          · exact .inr ⟨e, t3 e he, hx⟩
        · exact .inr hx
structure FI (ab : Bool) (a b : Tab) (q : KL) : Prop where
  li : LI2 a b q
  zero : (0, 0) ∈ q.1
  shut : ∀ x ∈ q.1, (∃ e ∈ q.2, (e.2.1, e.2.2) = x) ∨ (bad ab a b x.1 x.2 = false ∧ ∀ c, (nx a x.1 c, nx b x.2 c) ∈ q.1)
theorem fi_start (ha : 0 < a.length) (hb : 0 < b.length) : FI ab a b ([(0, 0)], [([], 0, 0)]) :=
  ⟨⟨by intro p hp; rw [List.mem_singleton] at hp; subst hp; exact ⟨⟨rfl, rfl⟩, by simp⟩, by simp, by intro x hx; rw [List.mem_singleton] at hx; subst hx; exact ⟨ha, hb⟩⟩, by simp, by intro x hx; rw [List.mem_singleton] at hx; subst hx; exact .inl ⟨_, List.mem_singleton.mpr rfl, rfl⟩⟩
theorem fi_step (oa : Ok a) (ob : Ok b) {k : List (Nat × Nat)} {l : List PW} (I : FI ab a b (k, l)) {q' : KL} (h : lev ab a b l (k, []) = .inr q') : FI ab a b q' ∧ q'.1.length = k.length + q'.2.length := by
  have I0 : LI2 a b (k, []) := ⟨fun p hp => (nomatch hp), I.li.nd, I.li.lt⟩
  obtain ⟨_, r2⟩ := lev_ok (ab := ab) oa ob l (k, []) (fun p hp => ⟨(I.li.ent p hp).1, I.li.lt _ (I.li.ent p hp).2⟩) I0
  obtain ⟨I3, s3, n3, g3, t3, c3, k3⟩ := r2 q' h
  refine ⟨⟨I3, s3 _ I.zero, fun x hx => ?_⟩, by simpa using n3⟩
  rcases k3 x hx with hx | hx
  · rcases I.shut x hx with ⟨e, he, hx⟩ | ⟨h1, h2⟩
    · obtain ⟨c1, c2⟩ := c3 e he
      subst hx
      exact .inr ⟨c1, c2⟩
    · exact .inr ⟨h1, fun c => s3 _ (h2 c)⟩
  · exact .inl hx
theorem fi_bad (oa : Ok a) (ob : Ok b) {k : List (Nat × Nat)} {l : List PW} (I : FI ab a b (k, l)) {w : List Bool} (h : lev ab a b l (k, []) = .inl w) : bad ab a b (run a 0 w) (run b 0 w) = true := by
  have I0 : LI2 a b (k, []) := ⟨fun p hp => (nomatch hp), I.li.nd, I.li.lt⟩
  obtain ⟨r1, _⟩ := lev_ok (ab := ab) oa ob l (k, []) (fun p hp => ⟨(I.li.ent p hp).1, I.li.lt _ (I.li.ent p hp).2⟩) I0
  exact r1 w h
theorem fi_none {k : List (Nat × Nat)} (I : FI ab a b (k, [])) : ∀ (w : List Bool) {i j : Nat}, (i, j) ∈ k → bad ab a b (run a i w) (run b j w) = false
  | [], i, j, h => by
    rcases I.shut _ h with ⟨e, he, _⟩ | h
    · exact (nomatch he)
    · exact h.1
  | c :: w, i, j, h => by
    rcases I.shut _ h with ⟨e, he, _⟩ | h
    · exact (nomatch he)
    · exact fi_none I w (h.2 c)
theorem exp1_wl {n : Nat} {p : PW} (hp : p.1.length = n) (c : Bool) {q : KL} (h : ∀ e ∈ q.2, e.1.length = n + 1) : ∀ e ∈ (exp1 a b p c q).2, e.1.length = n + 1 := by
  unfold exp1
  split
  · exact h
  · intro e he
    rw [List.mem_append] at he
    rcases he with he | he
    · exact h e he
    · rw [List.mem_singleton] at he
      subst he
      simp [hp]
theorem lev_wl {n : Nat} : ∀ (l : List PW) (q : KL), (∀ p ∈ l, p.1.length = n) → (∀ e ∈ q.2, e.1.length = n + 1) → ∀ q', lev ab a b l q = .inr q' → ∀ e ∈ q'.2, e.1.length = n + 1
  | [], q, _, h, q', hq => by cases hq; exact h
  | p :: l, q, hl, h, q', hq => by
    unfold lev at hq
    split at hq
    · cases hq
    · exact lev_wl l (exp2 a b p q) (fun x hx => hl x (by simp [hx])) (exp1_wl (hl p (by simp)) false (exp1_wl (hl p (by simp)) true h)) q' hq
theorem pigeon2 (n m : Nat) (l : List (Nat × Nat)) (hn : l.Nodup) (h : ∀ x ∈ l, x.1 < n ∧ x.2 < m) : l.length ≤ n * m := by
  have h1 : (l.map fun x => x.1 * m + x.2).Nodup := by
    rw [List.nodup_iff_pairwise_ne, List.pairwise_map]
    refine List.Pairwise.imp_of_mem ?_ (List.nodup_iff_pairwise_ne.mp hn)
    intro x y hx hy hxy e
    have b1 := h x hx
    have b2 := h y hy
    apply hxy
    have hm : 0 < m := by omega
    have e1 : (x.1 * m + x.2) / m = x.1 := by rw [Nat.mul_comm, Nat.mul_add_div hm, Nat.div_eq_of_lt b1.2]; omega
    have e2 : (y.1 * m + y.2) / m = y.1 := by rw [Nat.mul_comm, Nat.mul_add_div hm, Nat.div_eq_of_lt b2.2]; omega
    have e3 : (x.1 * m + x.2) % m = x.2 := by rw [Nat.mul_comm, Nat.mul_add_mod, Nat.mod_eq_of_lt b1.2]
    have e4 : (y.1 * m + y.2) % m = y.2 := by rw [Nat.mul_comm, Nat.mul_add_mod, Nat.mod_eq_of_lt b2.2]
    rw [e] at e1 e3
    exact Prod.ext (by omega) (by omega)
  have h2 := pigeon (n * m) _ h1 (fun y hy => by
    rw [List.mem_map] at hy
    obtain ⟨x, hx, rfl⟩ := hy
    exact mul_lt (h x hx).1 (h x hx).2)
  rwa [List.length_map] at h2
end
end Tb
namespace Tb
def sl (r f : Nat) (u : Bool) (w : List Bool) : Bool := (w.foldl (sStep r f) (u, 0)).1
theorem stk_fold {r f : Nat} (hr : 1 ≤ r) (hf : 1 ≤ f) : ∀ (w : List Bool) (q : SS), sOk r f q → sOk r f (w.foldl (sStep r f) q) ∧ run (stk r f) (sRow f q) w = sRow f (w.foldl (sStep r f) q)
  | [], q, h => ⟨h, rfl⟩
  | b :: w, q, h => by
    have k := stk_fold hr hf w (sStep r f q b) (sStep_ok hr hf h b)
    refine ⟨k.1, ?_⟩
    rw [List.foldl_cons, ← k.2, ← sStep_row hr hf h b]; rfl
theorem sOk0 {r f : Nat} (hr : 1 ≤ r) (hf : 1 ≤ f) (u : Bool) : sOk r f (u, 0) := by
  unfold sOk; cases u <;> simp <;> omega
theorem stk_sl {r f : Nat} (hr : 1 ≤ r) (hf : 1 ≤ f) (u : Bool) (w : List Bool) : (row (stk r f) (run (stk r f) (if u then 0 else f) w)).1 = sl r f u w := by
  have k := stk_fold hr hf w (u, 0) (sOk0 hr hf u)
  have e : sRow f (u, 0) = if u then 0 else f := by cases u <;> rfl
  rw [← e, k.2, sRow_st k.1]; rfl
def sRel (q p : SS) : Prop := match q.1, p.1 with
  | true, true => p.2 ≤ q.2
  | false, false => q.2 ≤ p.2
  | false, true => True
  | true, false => False
theorem st_tf {r f c : Nat} : sStep r f (true, c) false = if c + 1 = f then (false, 0) else (true, c + 1) := by simp [sStep]
theorem st_ft {r f c : Nat} : sStep r f (false, c) true = if c + 1 = r then (true, 0) else (false, c + 1) := by simp [sStep]
theorem st_tt {r f c : Nat} (h : 1 ≤ f) : sStep r f (true, c) true = (true, 0) := by simp [sStep]; omega
theorem st_ff {r f c : Nat} (h : 1 ≤ r) : sStep r f (false, c) false = (false, 0) := by simp [sStep]; omega
theorem sRel_step {r f r' f' : Nat} (h1 : r' ≤ r) (h2 : f ≤ f') (hr : 1 ≤ r') (hf : 1 ≤ f) {q p : SS} (oq : sOk r f q) (op : sOk r' f' p) (h : sRel q p) (b : Bool) : sRel (sStep r f q b) (sStep r' f' p b) := by
  obtain ⟨u, c⟩ := q
  obtain ⟨v, d⟩ := p
  have hr2 : 1 ≤ r := by omega
  have hf2 : 1 ≤ f' := by omega
  unfold sOk at oq op
  cases u <;> cases v <;> cases b <;> simp only [st_tf, st_ft, st_tt, st_ff, hr, hf, hr2, hf2] <;> repeat' split
  all_goals simp [sRel] at oq op h ⊢
  all_goals omega
theorem below_of {r f r' f' : Nat} {u u' : Bool} (h1 : r' ≤ r) (h2 : f ≤ f') (hr : 1 ≤ r') (hf : 1 ≤ f) (hu : u = true → u' = true) : ∀ w, sl r f u w = true → sl r' f' u' w = true := by
  have key : ∀ (w : List Bool) (q p : SS), sOk r f q → sOk r' f' p → sRel q p → sRel (w.foldl (sStep r f) q) (w.foldl (sStep r' f') p) := by
    intro w
    induction w with
    | nil => intro q p _ _ h; exact h
    | cons b w ih => intro q p o1 o2 h; exact ih _ _ (sStep_ok (by omega) hf o1 b) (sStep_ok hr (by omega) o2 b) (sRel_step h1 h2 hr hf o1 o2 h b)
  intro w hw
  have k := key w (u, 0) (u', 0) (sOk0 (by omega) hf u) (sOk0 hr (by omega) u') (by unfold sRel; revert hu; cases u <;> cases u' <;> simp)
  unfold sl at hw ⊢
  revert k; unfold sRel; rw [hw]
  cases (w.foldl (sStep r' f') (u', 0)).1 <;> simp
theorem rep_t {r f : Nat} (c : Nat) : ∀ (n : Nat), c + n < f → (List.replicate n false).foldl (sStep r f) (true, c) = (true, c + n)
  | 0, _ => rfl
  | n + 1, h => by
    rw [List.replicate_succ', List.foldl_append, rep_t c n (by omega), List.foldl_cons, List.foldl_nil, st_tf, if_neg (by omega)]; rfl
theorem rep_f {r f : Nat} (c : Nat) : ∀ (n : Nat), c + n < r → (List.replicate n true).foldl (sStep r f) (false, c) = (false, c + n)
  | 0, _ => rfl
  | n + 1, h => by
    rw [List.replicate_succ', List.foldl_append, rep_f c n (by omega), List.foldl_cons, List.foldl_nil, st_ft, if_neg (by omega)]; rfl
theorem rep_t0 {r f : Nat} (hf : 1 ≤ f) : (List.replicate f false).foldl (sStep r f) (true, 0) = (false, 0) := by
  obtain ⟨n, rfl⟩ : ∃ n, f = n + 1 := ⟨f - 1, by omega⟩
  rw [List.replicate_succ', List.foldl_append, rep_t 0 n (by omega)]
  simp [sStep]
theorem rep_f0 {r f : Nat} (hr : 1 ≤ r) : (List.replicate r true).foldl (sStep r f) (false, 0) = (true, 0) := by
  obtain ⟨n, rfl⟩ : ∃ n, r = n + 1 := ⟨r - 1, by omega⟩
  rw [List.replicate_succ', List.foldl_append, rep_f 0 n (by omega)]
  simp [sStep]
theorem stay_f {r f : Nat} (hr : 1 ≤ r) : ∀ n, (List.replicate n false).foldl (sStep r f) (false, 0) = (false, 0)
  | 0 => rfl
  | n + 1 => by
    rw [List.replicate_succ', List.foldl_append, stay_f hr n]
    simp [sStep]; omega
theorem stay_t {r f : Nat} (hf : 1 ≤ f) : ∀ n, (List.replicate n true).foldl (sStep r f) (true, 0) = (true, 0)
  | 0 => rfl
  | n + 1 => by
    rw [List.replicate_succ', List.foldl_append, stay_t hf n]
    simp [sStep]; omega
theorem to_f {r f : Nat} (hr : 1 ≤ r) (hf : 1 ≤ f) (u : Bool) (n : Nat) (hn : f ≤ n) : (List.replicate n false).foldl (sStep r f) (u, 0) = (false, 0) := by
  cases u
  · exact stay_f hr n
  · have : List.replicate n false = List.replicate f false ++ List.replicate (n - f) false := by rw [List.replicate_append_replicate]; congr 1; omega
    rw [this, List.foldl_append, rep_t0 hf, stay_f hr]
theorem to_t {r f : Nat} (hr : 1 ≤ r) (hf : 1 ≤ f) (u : Bool) (n : Nat) (hn : r ≤ n) : (List.replicate n true).foldl (sStep r f) (u, 0) = (true, 0) := by
  cases u
  · have : List.replicate n true = List.replicate r true ++ List.replicate (n - r) true := by rw [List.replicate_append_replicate]; congr 1; omega
    rw [this, List.foldl_append, rep_f0 hr, stay_t hf]
  · exact stay_t hf n
theorem of_below {r f r' f' : Nat} {u u' : Bool} (hr : 1 ≤ r) (hr' : 1 ≤ r') (hf : 1 ≤ f) (hf' : 1 ≤ f') (h : ∀ w, sl r f u w = true → sl r' f' u' w = true) : r' ≤ r ∧ f ≤ f' ∧ (u = true → u' = true) := by
  refine ⟨?_, ?_, fun e => h [] e⟩
  · rcases Nat.lt_or_ge r r' with c | c
    · exfalso
      have k := h (List.replicate (f + f') false ++ List.replicate r true) (by
        unfold sl; rw [List.foldl_append, to_f hr hf u _ (by omega), rep_f0 hr])
      unfold sl at k
      rw [List.foldl_append, to_f hr' hf' u' _ (by omega), rep_f 0 r (by omega)] at k
      exact absurd k (by simp)
    · exact c
  · rcases Nat.lt_or_ge f' f with c | c
    · exfalso
      have k := h (List.replicate (r + r') true ++ List.replicate f' false) (by
        unfold sl; rw [List.foldl_append, to_t hr hf u _ (by omega), rep_t 0 f' (by omega)])
      unfold sl at k
      rw [List.foldl_append, to_t hr' hf' u' _ (by omega), rep_t0 hf'] at k
      exact absurd k (by simp)
    · exact c
theorem sl_inj {r f r' f' : Nat} {u u' : Bool} (hr : 1 ≤ r) (hr' : 1 ≤ r') (hf : 1 ≤ f) (hf' : 1 ≤ f') (h : ∀ w, sl r f u w = sl r' f' u' w) : r = r' ∧ f = f' ∧ u = u' := by
  have a := of_below hr hr' hf hf' (u := u) (u' := u') (fun w k => by rw [← h w]; exact k)
  have b := of_below hr' hr hf' hf (u := u') (u' := u) (fun w k => by rw [h w]; exact k)
  refine ⟨by omega, by omega, ?_⟩
  have a3 := a.2.2
  have b3 := b.2.2
  revert a3 b3; cases u <;> cases u' <;> simp
end Tb
namespace Tb
inductive QR (ab : Bool) (a b : Tab) : KL → Option (List Bool) → Prop
  | nil (k : List (Nat × Nat)) : QR ab a b (k, []) none
  | hit (k : List (Nat × Nat)) (p : PW) (l : List PW) : bad ab a b p.2.1 p.2.2 = true → QR ab a b (k, p :: l) (some p.1)
  | step (k : List (Nat × Nat)) (p : PW) (l : List PW) (r : Option (List Bool)) : bad ab a b p.2.1 p.2.2 = false → QR ab a b (exp2 a b p (k, l)) r → QR ab a b (k, p :: l) r
theorem QR.det {ab : Bool} {a b : Tab} {q : KL} {r s : Option (List Bool)} (h : QR ab a b q r) (k : QR ab a b q s) : r = s := by
  induction h with
  | nil kk => cases k; rfl
  | hit kk p l hb =>
    cases k with
    | hit => rfl
    | step _ _ _ _ hn => rw [hb] at hn; cases hn
  | step kk p l r hb _ ih =>
    cases k with
    | hit _ _ _ hn => rw [hb] at hn; cases hn
    | step _ _ _ _ _ h2 => exact ih h2
theorem exp1_app (a b : Tab) (p : PW) (c : Bool) (k : List (Nat × Nat)) (x l : List PW) : exp1 a b p c (k, x ++ l) = ((exp1 a b p c (k, l)).1, x ++ (exp1 a b p c (k, l)).2) := by
  unfold exp1
  dsimp only
  split
  · rfl
  · simp
theorem exp2_app (a b : Tab) (p : PW) (k : List (Nat × Nat)) (x l : List PW) : exp2 a b p (k, x ++ l) = ((exp2 a b p (k, l)).1, x ++ (exp2 a b p (k, l)).2) := by
  unfold exp2
  rw [exp1_app, exp1_app]
theorem lev_inl {ab : Bool} {a b : Tab} : ∀ (l : List PW) (k : List (Nat × Nat)) (acc : List PW) (w : List Bool), lev ab a b l (k, acc) = .inl w → QR ab a b (k, l ++ acc) (some w) ∧ ∃ p ∈ l, w = p.1
  | [], k, acc, w, h => by cases h
  | p :: l, k, acc, w, h => by
    rw [lev] at h
    cases hb : bad ab a b p.2.1 p.2.2 with
    | true =>
      rw [hb, if_pos rfl] at h
      cases h
      exact ⟨.hit k p (l ++ acc) hb, p, List.mem_cons_self, rfl⟩
    | false =>
      rw [hb] at h
      obtain ⟨h1, p', h2, h3⟩ := lev_inl l (exp2 a b p (k, acc)).1 (exp2 a b p (k, acc)).2 w h
      refine ⟨.step k p (l ++ acc) _ hb ?_, p', List.mem_cons_of_mem _ h2, h3⟩
      rw [exp2_app]
      exact h1
theorem lev_inr {ab : Bool} {a b : Tab} : ∀ (l : List PW) (k : List (Nat × Nat)) (acc : List PW) (q' : KL) (r : Option (List Bool)), lev ab a b l (k, acc) = .inr q' → QR ab a b q' r → QR ab a b (k, l ++ acc) r
  | [], k, acc, q', r, h, hq => by cases h; exact hq
  | p :: l, k, acc, q', r, h, hq => by
    rw [lev] at h
    cases hb : bad ab a b p.2.1 p.2.2 with
    | true => rw [hb, if_pos rfl] at h; cases h
    | false =>
      rw [hb] at h
      have h1 := lev_inr l (exp2 a b p (k, acc)).1 (exp2 a b p (k, acc)).2 q' r h hq
      refine .step k p (l ++ acc) _ hb ?_
      rw [exp2_app]
      exact h1
def q0 : KL := ([(0, 0)], [([], 0, 0)])
end Tb
namespace Tb
def codeR : List Bool → Nat
  | [] => 1
  | c :: w => 2 * codeR w + (if c then 0 else 1)
def code (w : List Bool) : Nat := codeR w.reverse
theorem codeR_pos : ∀ w, 1 ≤ codeR w
  | [] => Nat.le_refl _
  | c :: w => by have := codeR_pos w; unfold codeR; omega
theorem codeR_inj : ∀ (w v : List Bool), codeR w = codeR v → w = v
  | [], [], _ => rfl
  | [], c :: v, h => by have := codeR_pos v; unfold codeR at h; omega
  | c :: w, [], h => by
    have := codeR_pos w
    have h' : 2 * codeR w + (if c then 0 else 1) = 1 := h
    omega
  | c :: w, d :: v, h => by
    have h' : 2 * codeR w + (if c then 0 else 1) = 2 * codeR v + (if d then 0 else 1) := h
    have e : codeR w = codeR v := by cases c <;> cases d <;> simp at h' <;> omega
    have e2 : c = d := by cases c <;> cases d <;> simp at h' ⊢ <;> omega
    rw [codeR_inj w v e, e2]
theorem code_pos (w : List Bool) : 1 ≤ code w := codeR_pos _
theorem code_inj {w v : List Bool} (h : code w = code v) : w = v := by
  have := codeR_inj _ _ h
  rw [← List.reverse_reverse w, this, List.reverse_reverse]
theorem code_snoc (w : List Bool) (c : Bool) : code (w ++ [c]) = 2 * code w + (if c then 0 else 1) := by
  unfold code
  rw [List.reverse_append]
  rfl
structure QI (ab : Bool) (a b : Tab) (dn : List PW) (k : List (Nat × Nat)) (l : List PW) : Prop where
  kn : ∀ x ∈ k, ∃ e ∈ dn ++ l, e.2 = x
  en : ∀ e ∈ dn ++ l, Ent a b e
  nb : ∀ e ∈ dn, bad ab a b e.2.1 e.2.2 = false
  ch : ∀ e ∈ dn, ∀ c, ∃ e' ∈ dn ++ l, e'.2 = (nx a e.2.1 c, nx b e.2.2 c) ∧ code e'.1 ≤ 2 * code e.1 + (if c then 0 else 1)
  st : (dn ++ l).Pairwise (fun x y => code x.1 < code y.1)
  bd : ∀ e ∈ dn ++ l, ∀ p ∈ l, code e.1 < 2 * code p.1
  rt : ∃ e ∈ dn ++ l, e = ([], 0, 0)
theorem qi_start (ab : Bool) (a b : Tab) : QI ab a b [] [(0, 0)] [([], 0, 0)] where
  kn := fun x hx => ⟨([], 0, 0), by simp, by
    simp only [List.mem_cons, List.not_mem_nil, or_false] at hx
    exact hx.symm⟩
  en := fun e he => by
    simp only [List.nil_append, List.mem_cons, List.not_mem_nil, or_false] at he
    subst he; exact ⟨rfl, rfl⟩
  nb := fun e he => by cases he
  ch := fun e he => by cases he
  st := by simp
  bd := fun e he p hp => by
    simp only [List.nil_append, List.mem_cons, List.not_mem_nil, or_false] at he hp
    subst he hp; decide
  rt := ⟨_, by simp, rfl⟩
section
variable {ab : Bool} {a b : Tab} {dn : List PW} {k : List (Nat × Nat)} {l : List PW}
theorem qi_cover (I : QI ab a b dn k l) : ∀ v, (∃ e ∈ dn, e.2 = (run a 0 v, run b 0 v) ∧ code e.1 ≤ code v) ∨ (∃ e ∈ l, code e.1 ≤ code v) := by
  have step : ∀ v c, ((∃ e ∈ dn, e.2 = (run a 0 v, run b 0 v) ∧ code e.1 ≤ code v) ∨ (∃ e ∈ l, code e.1 ≤ code v)) → ((∃ e ∈ dn, e.2 = (run a 0 (v ++ [c]), run b 0 (v ++ [c])) ∧ code e.1 ≤ code (v ++ [c])) ∨ (∃ e ∈ l, code e.1 ≤ code (v ++ [c]))) := by
    intro v c h
    have hc := code_snoc v c
    rcases h with ⟨e, he, h1, h2⟩ | ⟨e, he, h2⟩
    · obtain ⟨e', he', h3, h4⟩ := I.ch e he c
      have hq : e'.2 = (run a 0 (v ++ [c]), run b 0 (v ++ [c])) := by
        rw [h3, h1, run_snoc, run_snoc]
      have hle : code e'.1 ≤ code (v ++ [c]) := by omega
      rcases List.mem_append.mp he' with hm | hm
      · exact .inl ⟨e', hm, hq, hle⟩
      · exact .inr ⟨e', hm, hle⟩
    · exact .inr ⟨e, he, by omega⟩
  have all : ∀ (s pre : List Bool), ((∃ e ∈ dn, e.2 = (run a 0 pre, run b 0 pre) ∧ code e.1 ≤ code pre) ∨ (∃ e ∈ l, code e.1 ≤ code pre)) → ((∃ e ∈ dn, e.2 = (run a 0 (pre ++ s), run b 0 (pre ++ s)) ∧ code e.1 ≤ code (pre ++ s)) ∨ (∃ e ∈ l, code e.1 ≤ code (pre ++ s))) := by
    intro s
    induction s with
    | nil => intro pre h; rw [List.append_nil]; exact h
    | cons c s ih =>
      intro pre h
      have := ih (pre ++ [c]) (step pre c h)
      rwa [List.append_assoc, List.singleton_append] at this
  intro v
  have h0 : (∃ e ∈ dn, e.2 = (run a 0 [], run b 0 []) ∧ code e.1 ≤ code []) ∨ (∃ e ∈ l, code e.1 ≤ code []) := by
    obtain ⟨e, he, rfl⟩ := I.rt
    rcases List.mem_append.mp he with hm | hm
    · exact .inl ⟨_, hm, rfl, Nat.le_refl _⟩
    · exact .inr ⟨_, hm, Nat.le_refl _⟩
  exact all v [] h0
theorem qi_child {p : PW} {x : List PW} (c : Bool)
    (kn : ∀ x' ∈ k, ∃ e ∈ x ++ l, e.2 = x') (en : ∀ e ∈ x ++ l, Ent a b e) (hp : Ent a b p) (st : (x ++ l).Pairwise (fun x y => code x.1 < code y.1)) (hb : ∀ e ∈ x ++ l, code e.1 < 2 * code p.1 + (if c then 0 else 1)) :
    (∀ x' ∈ (exp1 a b p c (k, l)).1, ∃ e ∈ x ++ (exp1 a b p c (k, l)).2, e.2 = x') ∧ (∀ e ∈ x ++ (exp1 a b p c (k, l)).2, Ent a b e) ∧ (x ++ (exp1 a b p c (k, l)).2).Pairwise (fun x y => code x.1 < code y.1) ∧ (∀ e ∈ x ++ (exp1 a b p c (k, l)).2, e ∈ x ++ l ∨ code e.1 = 2 * code p.1 + (if c then 0 else 1)) ∧ (∀ e ∈ x ++ l, e ∈ x ++ (exp1 a b p c (k, l)).2) ∧ (∃ e' ∈ x ++ (exp1 a b p c (k, l)).2, e'.2 = (nx a p.2.1 c, nx b p.2.2 c) ∧ code e'.1 ≤ 2 * code p.1 + (if c then 0 else 1)) := by
  unfold exp1
  by_cases hm : (nx a p.2.1 c, nx b p.2.2 c) ∈ k
  · rw [if_pos hm]
    refine ⟨kn, en, st, fun e he => .inl he, fun e he => he, ?_⟩
    obtain ⟨e, he, h⟩ := kn _ hm
    exact ⟨e, he, h, Nat.le_of_lt (hb e he)⟩
  · rw [if_neg hm]
    dsimp only
    have hcode := code_snoc p.1 c
    have hmem : ∀ e, e ∈ x ++ (l ++ [(p.1 ++ [c], nx a p.2.1 c, nx b p.2.2 c)]) ↔ e ∈ x ++ l ∨ e = (p.1 ++ [c], nx a p.2.1 c, nx b p.2.2 c) := fun e => by
      rw [← List.append_assoc, List.mem_append]; simp
    refine ⟨fun x' hx => ?_, fun e he => ?_, ?_, fun e he => ?_, fun e he => (hmem e).mpr (.inl he), ?_⟩
    · rcases List.mem_append.mp hx with h | h
      · obtain ⟨e, he, h2⟩ := kn x' h
        exact ⟨e, (hmem e).mpr (.inl he), h2⟩
      · simp only [List.mem_cons, List.not_mem_nil, or_false] at h
        exact ⟨_, (hmem _).mpr (.inr rfl), h.symm⟩
    · rcases (hmem e).mp he with h | h
      · exact en e h
      · subst h
        refine ⟨?_, ?_⟩
        · show run a 0 (p.1 ++ [c]) = nx a p.2.1 c
          rw [run_snoc, hp.1]
        · show run b 0 (p.1 ++ [c]) = nx b p.2.2 c
          rw [run_snoc, hp.2]
    · rw [← List.append_assoc, List.pairwise_append]
      refine ⟨st, by simp, fun y hy z hz => ?_⟩
      simp only [List.mem_cons, List.not_mem_nil, or_false] at hz
      subst hz
      have := hb y hy
      dsimp only
      omega
    · rcases (hmem e).mp he with h | h
      · exact .inl h
      · subst h; exact .inr hcode
    · exact ⟨_, (hmem _).mpr (.inr rfl), rfl, Nat.le_of_eq hcode⟩
theorem qi_step {p : PW} (I : QI ab a b dn k (p :: l)) (hb : bad ab a b p.2.1 p.2.2 = false) : QI ab a b (dn ++ [p]) (exp2 a b p (k, l)).1 (exp2 a b p (k, l)).2 := by
  have e0 : dn ++ p :: l = (dn ++ [p]) ++ l := by simp
  have kn0 := I.kn
  have en0 := I.en
  have st0 := I.st
  have bd0 := I.bd
  rw [e0] at kn0 en0 st0 bd0
  have hp : Ent a b p := I.en p (by simp)
  have cp := code_pos p.1
  have hb1 : ∀ e ∈ (dn ++ [p]) ++ l, code e.1 < 2 * code p.1 + (if true then 0 else 1) := fun e he => by
    have := bd0 e he p (by simp)
    simpa using this
  obtain ⟨k1, n1, s1, m1, u1, c1⟩ := qi_child true kn0 en0 hp st0 hb1
  have hb2 : ∀ e ∈ (dn ++ [p]) ++ (exp1 a b p true (k, l)).2, code e.1 < 2 * code p.1 + (if false then 0 else 1) := fun e he => by
    rcases m1 e he with h | h
    · have := hb1 e h
      simp at this ⊢; omega
    · simp at h ⊢; omega
  obtain ⟨k2, n2, s2, m2, u2, c2⟩ := qi_child (k := (exp1 a b p true (k, l)).1) (l := (exp1 a b p true (k, l)).2) false k1 n1 hp s1 hb2
  have ex : exp2 a b p (k, l) = exp1 a b p false ((exp1 a b p true (k, l)).1, (exp1 a b p true (k, l)).2) := rfl
  rw [← ex] at k2 n2 s2 m2 u2 c2
  have hup : ∀ e ∈ (dn ++ [p]) ++ l, e ∈ (dn ++ [p]) ++ (exp2 a b p (k, l)).2 := fun e he => u2 e (u1 e he)
  have hall : ∀ e ∈ (dn ++ [p]) ++ (exp2 a b p (k, l)).2, code e.1 < 2 * code p.1 + 2 := fun e he => by
    rcases m2 e he with h | h
    · have := hb2 e h
      simp at this; omega
    · simp at h; omega
  refine ⟨k2, n2, fun e he => ?_, fun e he c => ?_, s2, fun e he q hq => ?_, ?_⟩
  · rcases List.mem_append.mp he with h | h
    · exact I.nb e h
    · simp only [List.mem_cons, List.not_mem_nil, or_false] at h
      subst h; exact hb
  · rcases List.mem_append.mp he with h | h
    · obtain ⟨e', he', h2⟩ := I.ch e h c
      rw [e0] at he'
      exact ⟨e', hup e' he', h2⟩
    · simp only [List.mem_cons, List.not_mem_nil, or_false] at h
      subst h
      cases c
      · exact c2
      · obtain ⟨e', he', h2⟩ := c1
        exact ⟨e', u2 e' he', h2⟩
  · have h1 := hall e he
    rw [List.append_assoc, List.pairwise_append] at s2
    have hpq : code p.1 < code q.1 := by
      have := (List.pairwise_append.mp s2.2.1).2.2 p (by simp) q hq
      exact this
    omega
  · obtain ⟨e, he, h⟩ := I.rt
    rw [e0] at he
    exact ⟨e, hup e he, h⟩
end
def Fst (ab : Bool) (a b : Tab) : Option (List Bool) → Prop
  | some w => bad ab a b (run a 0 w) (run b 0 w) = true ∧ ∀ v, bad ab a b (run a 0 v) (run b 0 v) = true → code w ≤ code v
  | none => ∀ v, bad ab a b (run a 0 v) (run b 0 v) = false
theorem qr_first {ab : Bool} {a b : Tab} {q : KL} {r : Option (List Bool)} (h : QR ab a b q r) : ∀ dn, QI ab a b dn q.1 q.2 → Fst ab a b r := by
  induction h with
  | nil k =>
    intro dn I v
    rcases qi_cover I v with ⟨e, he, h1, _⟩ | ⟨e, he, _⟩
    · have := I.nb e he
      rw [h1] at this
      exact this
    · cases he
  | hit k p l hb =>
    intro dn I
    have hp := I.en p (by simp)
    refine ⟨by rw [hp.1, hp.2]; exact hb, fun v hv => ?_⟩
    rcases qi_cover I v with ⟨e, he, h1, _⟩ | ⟨e, he, h2⟩
    · have := I.nb e he
      rw [h1] at this
      dsimp only at this
      rw [hv] at this; cases this
    · have hs : (p :: l).Pairwise (fun x y => code x.1 < code y.1) := (List.pairwise_append.mp I.st).2.1
      rcases List.mem_cons.mp he with rfl | h
      · exact h2
      · have := (List.pairwise_cons.mp hs).1 e h
        omega
  | step k p l r hb _ ih =>
    intro dn I
    exact ih _ (qi_step I hb)
theorem qr_fst {ab : Bool} {a b : Tab} {r : Option (List Bool)} (h : QR ab a b q0 r) : Fst ab a b r := qr_first h [] (qi_start ab a b)
theorem qr_same {ab : Bool} {a b a' b' : Tab} {r r' : Option (List Bool)} (h : QR ab a b q0 r) (h' : QR ab a' b' q0 r') (e1 : ∀ w, (row a (run a 0 w)).1 = (row a' (run a' 0 w)).1) (e2 : ∀ w, (row b (run b 0 w)).1 = (row b' (run b' 0 w)).1) : r = r' := by
  have k := qr_fst h
  have k' := qr_fst h'
  have hb : ∀ w, bad ab a b (run a 0 w) (run b 0 w) = bad ab a' b' (run a' 0 w) (run b' 0 w) := fun w => by
    unfold bad; rw [e1, e2]
  cases r with
  | none =>
    cases r' with
    | none => rfl
    | some w' =>
      have := k w'
      rw [hb, k'.1] at this; cases this
  | some w =>
    cases r' with
    | none =>
      have := k' w
      rw [← hb, k.1] at this; cases this
    | some w' =>
      have c1 := k.2 w' (by rw [hb]; exact k'.1)
      have c2 := k'.2 w (by rw [← hb]; exact k.1)
      rw [code_inj (Nat.le_antisymm c1 c2)]
end Tb
namespace Tb
def b2n (s : Bool) : Nat := if s then 1 else 0
def hIx (m x : Nat) (s : Bool) (l : Nat) : Nat := (x * 2 + b2n s) * (m + 1) + l
def hPl (t : Tab) (m x : Nat) (s : Bool) (l : Nat) : Nat := if 0 < l then hIx m x s (l - 1) else if (row t x).1 = s then hIx m x s 0 else hIx m x (!s) m
def hldR (t : Tab) (m : Nat) (r : Row) (s : Bool) : List Row := (List.range (m + 1)).map fun l => (s, hPl t m r.2.1 s l, hPl t m r.2.2 s l)
def hld (m : Nat) (t : Tab) : Tab := t.flatMap fun r => hldR t m r false ++ hldR t m r true
def hSt (m : Nat) (q : Bool × Nat) (v : Bool) : Bool × Nat := if 0 < q.2 then (q.1, q.2 - 1) else if v = q.1 then (q.1, 0) else (v, m)
section
variable {t : Tab} {m : Nat}
theorem hldR_len {r : Row} {s : Bool} : (hldR t m r s).length = m + 1 := by unfold hldR; simp
theorem hldP_len {r : Row} : (hldR t m r false ++ hldR t m r true).length = 2 * (m + 1) := by rw [List.length_append, hldR_len, hldR_len]; omega
theorem hld_len : (hld m t).length = t.length * (2 * (m + 1)) := by
  unfold hld
  have : ∀ l : Tab, (l.flatMap fun r => hldR t m r false ++ hldR t m r true).length = l.length * (2 * (m + 1)) := by
    intro l
    induction l with
    | nil => simp
    | cons r l ih => rw [List.flatMap_cons, List.length_append, ih, hldP_len, List.length_cons, Nat.add_mul (l.length) 1 (2 * (m + 1))]; omega
  exact this t
theorem hIx_eq (x : Nat) (s : Bool) (l : Nat) : hIx m x s l = x * (2 * (m + 1)) + (b2n s * (m + 1) + l) := by
  unfold hIx
  rw [Nat.add_mul, Nat.mul_assoc]; omega
theorem b2n_lt (s : Bool) : b2n s ≤ 1 := by cases s <;> simp [b2n]
theorem hIx_in {s : Bool} {l : Nat} (hl : l ≤ m) : b2n s * (m + 1) + l < 2 * (m + 1) := by
  have := b2n_lt s
  have : b2n s * (m + 1) ≤ 1 * (m + 1) := Nat.mul_le_mul_right _ this
  omega
theorem hIx_lt {x : Nat} {s : Bool} {l : Nat} (hx : x < t.length) (hl : l ≤ m) : hIx m x s l < (hld m t).length := by
  rw [hIx_eq, hld_len]
  exact mul_lt hx (hIx_in hl)
theorem hld_row {x : Nat} {s : Bool} {l : Nat} (hx : x < t.length) (hl : l ≤ m) : row (hld m t) (hIx m x s l) = (s, hPl t m (row t x).2.1 s l, hPl t m (row t x).2.2 s l) := by
  have h := flat_get (fun r => hldR t m r false ++ hldR t m r true) (2 * (m + 1)) t (fun r _ => hldP_len) (i := x) (j := b2n s * (m + 1) + l) hx (hIx_in hl)
  have e : (hldR t m t[x] false ++ hldR t m t[x] true)[b2n s * (m + 1) + l]? = some (s, hPl t m (row t x).2.1 s l, hPl t m (row t x).2.2 s l) := by
    rw [row_eq hx]
    cases s
    · rw [List.getElem?_append_left (by rw [hldR_len]; simp [b2n]; omega)]
      unfold hldR
      rw [List.getElem?_map, List.getElem?_range (by simp [b2n]; omega)]
      simp [b2n]
    · rw [List.getElem?_append_right (by rw [hldR_len]; simp [b2n])]
      rw [hldR_len]
      unfold hldR
      rw [List.getElem?_map, List.getElem?_range (by simp [b2n]; omega)]
      simp [b2n]
  rw [e] at h
  unfold row
  rw [hIx_eq]
  have h2 : (hld m t)[x * (2 * (m + 1)) + (b2n s * (m + 1) + l)]? = some (s, hPl t m (row t x).2.1 s l, hPl t m (row t x).2.2 s l) := h
  rw [List.getD_eq_getElem?_getD, h2]
  rfl
theorem hPl_eq (x : Nat) (s : Bool) (l : Nat) : hPl t m x s l = hIx m x (hSt m (s, l) (row t x).1).1 (hSt m (s, l) (row t x).1).2 := by
  unfold hPl hSt
  dsimp only
  split
  · rfl
  · split
    · rfl
    · rename_i h
      have : (row t x).1 = !s := by revert h; cases (row t x).1 <;> cases s <;> simp
      rw [this]
theorem hSt_le {q : Bool × Nat} (v : Bool) (h : q.2 ≤ m) : (hSt m q v).2 ≤ m := by
  unfold hSt
  split
  · dsimp only; omega
  · split
    · dsimp only; omega
    · exact Nat.le_refl _
theorem hld_nx {x : Nat} {q : Bool × Nat} (hx : x < t.length) (hl : q.2 ≤ m) (b : Bool) : nx (hld m t) (hIx m x q.1 q.2) b = hIx m (nx t x b) (hSt m q (row t (nx t x b)).1).1 (hSt m q (row t (nx t x b)).1).2 := by
  unfold nx
  rw [hld_row hx hl]
  cases b
  · simp [hPl_eq]
  · simp [hPl_eq]
theorem hPl_lt {x : Nat} {s : Bool} {l : Nat} (hx : x < t.length) (hl : l ≤ m) : hPl t m x s l < (hld m t).length := by
  rw [hPl_eq]
  exact hIx_lt hx (hSt_le _ hl)
theorem hld_ok (ok : Ok t) : Ok (hld m t) := by
  intro r hr
  have hr' := hr
  unfold hld at hr'
  rw [List.mem_flatMap] at hr'
  obtain ⟨q, hq, hr2⟩ := hr'
  have hk := ok q hq
  have key : ∀ s, r ∈ hldR t m q s → r.2.1 < (hld m t).length ∧ r.2.2 < (hld m t).length := by
    intro s h
    unfold hldR at h
    rw [List.mem_map] at h
    obtain ⟨l, hl, rfl⟩ := h
    rw [List.mem_range] at hl
    exact ⟨hPl_lt hk.1 (by omega), hPl_lt hk.2 (by omega)⟩
  rw [List.mem_append] at hr2
  rcases hr2 with h | h
  · exact key _ h
  · exact key _ h
def hR (m : Nat) : Bool × Nat → Lg → List Bool → Bool × Nat
  | q, _, [] => q
  | q, f, b :: w => hR m (hSt m q (f [b])) (der b f) w
def hL (m : Nat) (f : Lg) : Lg := fun w => (hR m (f [], 0) f w).1
theorem hld_run (ok : Ok t) : ∀ (w : List Bool) {x : Nat} {q : Bool × Nat}, x < t.length → q.2 ≤ m → run (hld m t) (hIx m x q.1 q.2) w = hIx m (run t x w) (hR m q (lang t x) w).1 (hR m q (lang t x) w).2 ∧ (hR m q (lang t x) w).2 ≤ m
  | [], x, q, hx, hq => ⟨rfl, hq⟩
  | b :: w, x, q, hx, hq => by
    have e := hld_nx hx hq b
    have hx' := nx_lt ok hx b
    have ih := hld_run ok w (x := nx t x b) (q := hSt m q (row t (nx t x b)).1) hx' (hSt_le _ hq)
    show run (hld m t) (nx (hld m t) (hIx m x q.1 q.2) b) w = _ ∧ _
    rw [e]
    exact ih
theorem hld_ans (ok : Ok t) (hp : 0 < t.length) (w : List Bool) : (row (hld m t) (run (hld m t) (hIx m 0 (row t 0).1 0) w)).1 = hL m (lang t 0) w := by
  have := hld_run (m := m) ok w (x := 0) (q := ((row t 0).1, 0)) hp (Nat.zero_le _)
  rw [this.1, hld_row (run_lt ok w hp) this.2]
  rfl
end
theorem hR_zero : ∀ (w : List Bool) (f : Lg), hR 0 (f [], 0) f w = (f w, 0)
  | [], f => rfl
  | b :: w, f => by
    have e : hSt 0 (f [], 0) (f [b]) = (f [b], 0) := by
      unfold hSt; simp; intro h; rw [h]
    show hR 0 (hSt 0 (f [], 0) (f [b])) (der b f) w = _
    rw [e]
    exact hR_zero w (der b f)
theorem hL_zero (f : Lg) : hL 0 f = f := by funext w; unfold hL; rw [hR_zero]
def ngL (f : Lg) : Lg := fun w => !f (w.map not)
theorem hSt_ng (m : Nat) (q : Bool × Nat) (v : Bool) : hSt m (!q.1, q.2) (!v) = (!(hSt m q v).1, (hSt m q v).2) := by
  unfold hSt
  dsimp only
  split
  · rfl
  · by_cases h : v = q.1
    · rw [if_pos h, if_pos (by rw [h])]
    · rw [if_neg h, if_neg (by intro z; exact h (by cases v <;> cases h2 : q.1 <;> simp_all))]
theorem hR_ng (m : Nat) : ∀ (w : List Bool) (q : Bool × Nat) (f : Lg), hR m (!q.1, q.2) (ngL f) w = (!(hR m q f (w.map not)).1, (hR m q f (w.map not)).2)
  | [], q, f => rfl
  | b :: w, q, f => by
    have e : ngL f [b] = !f [!b] := rfl
    have e2 : der b (ngL f) = ngL (der (!b) f) := rfl
    show hR m (hSt m (!q.1, q.2) (ngL f [b])) (der b (ngL f)) w = _
    rw [e, e2, hSt_ng]
    exact hR_ng m w (hSt m q (f [!b])) (der (!b) f)
theorem hL_ng (m : Nat) (f : Lg) : hL m (ngL f) = ngL (hL m f) := by
  funext w
  have := hR_ng m w (f [], 0) f
  unfold hL
  show (hR m (!f [], 0) (ngL f) w).1 = _
  rw [this]
  rfl
theorem hR_hR {n m : Nat} (h : n ≤ m) : ∀ (w : List Bool) (s : Bool) (l l' : Nat) (f : Lg), l' ≤ l → (hR n (s, l') (fun v => (hR m (s, l) f v).1) w).1 = (hR m (s, l) f w).1
  | [], s, l, l', f, _ => rfl
  | b :: w, s, l, l', f, hl => by
    have e2 : der b (fun v => (hR m (s, l) f v).1) = fun v => (hR m (hSt m (s, l) (f [b])) (der b f) v).1 := rfl
    show (hR n (hSt n (s, l') (hSt m (s, l) (f [b])).1) (der b (fun v => (hR m (s, l) f v).1)) w).1 = (hR m (hSt m (s, l) (f [b])) (der b f) w).1
    rw [e2]
    have key : ∃ s2 k k', hSt m (s, l) (f [b]) = (s2, k) ∧ hSt n (s, l') s2 = (s2, k') ∧ k' ≤ k := by
      unfold hSt
      dsimp only
      by_cases h0 : 0 < l
      · rw [if_pos h0]
        refine ⟨s, l - 1, l' - 1, rfl, ?_, by omega⟩
        by_cases h1 : 0 < l'
        · rw [if_pos h1]
        · rw [if_neg h1, if_pos rfl]
          have : l' = 0 := by omega
          rw [this]
      · rw [if_neg h0]
        have hl0 : l = 0 := by omega
        have hl1 : l' = 0 := by omega
        subst hl0 hl1
        by_cases hv : f [b] = s
        · rw [if_pos hv]
          exact ⟨s, 0, 0, rfl, by simp, Nat.le_refl _⟩
        · rw [if_neg hv]
          exact ⟨f [b], m, n, rfl, by simp [hv], h⟩
    obtain ⟨s2, k, k', e3, e4, e5⟩ := key
    rw [e3, e4]
    exact hR_hR h w s2 k k' (der b f) e5
theorem hL_hL {n m : Nat} (h : n ≤ m) (f : Lg) : hL n (hL m f) = hL m f := by
  funext w
  exact hR_hR h w (f []) 0 0 f (Nat.le_refl _)
def iL (n : Nat) (f : Lg) : Lg := fun w => if w.length < n then f [] else f (w.drop n)
theorem iL_zero (f : Lg) : iL 0 f = f := by funext w; simp [iL]
theorem iL_ng (n : Nat) (f : Lg) : iL n (ngL f) = ngL (iL n f) := by
  funext w
  show (if w.length < n then !f [] else !f ((w.drop n).map not)) = !(if (w.map not).length < n then f [] else f ((w.map not).drop n))
  rw [List.length_map]
  split
  · rfl
  · rw [List.map_drop]
theorem iL_iL (m n : Nat) (f : Lg) : iL m (iL n f) = iL (m + n) f := by
  funext w
  unfold iL
  rw [List.length_drop, List.drop_drop]
  by_cases h1 : w.length < m
  · rw [if_pos h1]
    have e : (([] : List Bool).drop n) = [] := by simp
    rw [e, if_pos (show w.length < m + n by omega)]
    split <;> rfl
  · rw [if_neg h1]
    by_cases h2 : w.length < m + n
    · rw [if_pos h2, if_pos (by omega)]
    · rw [if_neg h2, if_neg (by omega)]
theorem iL_ap (n : Nat) (f : Lg) (v w : List Bool) (h : v.length = n) : iL n f (v ++ w) = f w := by
  unfold iL
  rw [if_neg (by rw [List.length_append]; omega), ← h, List.drop_left]
theorem iL_op (n : Nat) (o : Bool → Bool → Bool) (f g : Lg) : iL n (fun w => o (f w) (g w)) = fun w => o (iL n f w) (iL n g w) := by
  funext w
  unfold iL
  split <;> rfl
end Tb
namespace Tb
def pop : Nat → Nat → Nat
  | 0, _ => 0
  | n + 1, b => b % 2 + pop n (b / 2)
def wdw (n k : Nat) : Tab := (List.range (2 ^ n)).map fun b => (decide (k ≤ pop n b), (2 * b) % 2 ^ n + 1, (2 * b) % 2 ^ n)
def bv (l : List Bool) : Nat := l.foldl (fun a b => 2 * a + b2n b) 0
theorem bv_acc : ∀ (l : List Bool) (a : Nat), l.foldl (fun a b => 2 * a + b2n b) a = a * 2 ^ l.length + bv l
  | [], a => by simp [bv]
  | b :: l, a => by
    unfold bv
    rw [List.foldl_cons, List.foldl_cons, bv_acc l (2 * a + b2n b), bv_acc l (2 * 0 + b2n b), List.length_cons, Nat.pow_succ, Nat.add_mul, Nat.add_mul]
    have : a * (2 ^ l.length * 2) = 2 * a * 2 ^ l.length := by
      rw [Nat.mul_comm 2 a, Nat.mul_assoc, Nat.mul_comm 2 (2 ^ l.length)]
    rw [this]; omega
theorem bv_cons (b : Bool) (l : List Bool) : bv (b :: l) = b2n b * 2 ^ l.length + bv l := by
  have h := bv_acc l (2 * 0 + b2n b)
  have e : bv (b :: l) = l.foldl (fun a b => 2 * a + b2n b) (2 * 0 + b2n b) := rfl
  rw [e, h]
  simp
theorem bv_snoc (b : Bool) (l : List Bool) : bv (l ++ [b]) = 2 * bv l + b2n b := by unfold bv; rw [List.foldl_append]; rfl
theorem bv_lt : ∀ (l : List Bool), bv l < 2 ^ l.length
  | [] => by simp [bv]
  | b :: l => by
    have := bv_lt l
    rw [bv_cons, List.length_cons, Nat.pow_succ]
    cases b <;> simp [b2n] <;> omega
theorem bv_step (x : Bool) (l : List Bool) (b : Bool) : (2 * bv (x :: l)) % 2 ^ (l.length + 1) + b2n b = bv (l ++ [b]) := by
  have h := bv_lt l
  rw [bv_snoc, bv_cons, Nat.mul_add, Nat.pow_succ]
  have e : 2 * (b2n x * 2 ^ l.length) = b2n x * (2 ^ l.length * 2) := by
    rw [Nat.mul_left_comm, Nat.mul_comm 2 (2 ^ l.length)]
  rw [e, Nat.mul_comm (b2n x), Nat.mul_add_mod, Nat.mod_eq_of_lt (by omega)]
theorem pop_bv : ∀ (n : Nat) (l : List Bool), l.length = n → pop n (bv l) = l.countP id := by
  intro n
  induction n with
  | zero =>
    intro l h
    have : l = [] := List.length_eq_zero_iff.mp h
    subst this; rfl
  | succ n ih =>
    intro l h
    have hl : l ≠ [] := by intro e; subst e; simp at h
    obtain ⟨l', b, rfl⟩ : ∃ l' b, l = l' ++ [b] := ⟨l.dropLast, l.getLast hl, (List.dropLast_concat_getLast hl).symm⟩
    have h' : l'.length = n := by simpa using h
    rw [bv_snoc, List.countP_append]
    unfold pop
    have e1 : (2 * bv l' + b2n b) % 2 = b2n b := by cases b <;> simp [b2n] <;> omega
    have e2 : (2 * bv l' + b2n b) / 2 = bv l' := by cases b <;> simp [b2n] <;> omega
    rw [e1, e2, ih l' h']
    cases b <;> simp [b2n] <;> omega
section
variable {n k : Nat}
theorem wdw_len : (wdw n k).length = 2 ^ n := by unfold wdw; simp
theorem wdw_row {b : Nat} (h : b < 2 ^ n) : row (wdw n k) b = (decide (k ≤ pop n b), (2 * b) % 2 ^ n + 1, (2 * b) % 2 ^ n) := by
  rw [row_eq (by rw [wdw_len]; exact h)]
  unfold wdw
  simp
theorem wdw_ok (hn : 1 ≤ n) : Ok (wdw n k) := by
  intro r hr
  rw [wdw_len]
  unfold wdw at hr
  rw [List.mem_map] at hr
  obtain ⟨b, hb, rfl⟩ := hr
  have hp : 0 < 2 ^ n := Nat.pow_pos (by omega)
  have hlt := Nat.mod_lt (2 * b) hp
  obtain ⟨m, rfl⟩ : ∃ m, n = m + 1 := ⟨n - 1, by omega⟩
  have he : (2 * b) % 2 ^ (m + 1) = 2 * (b % 2 ^ m) := by rw [Nat.pow_succ, Nat.mul_comm (2 ^ m) 2, Nat.mul_mod_mul_left]
  have hm := Nat.mod_lt b (Nat.pow_pos (n := m) (show 0 < 2 by omega))
  dsimp only
  refine ⟨?_, hlt⟩
  rw [he, Nat.pow_succ]
  omega
def wst (l : List Bool) (b : Bool) : List Bool := l.tail ++ [b]
theorem wst_len {l : List Bool} (hn : 1 ≤ n) (h : l.length = n) (b : Bool) : (wst l b).length = n := by unfold wst; simp; omega
theorem wdw_nx (hn : 1 ≤ n) {l : List Bool} (h : l.length = n) (b : Bool) : nx (wdw n k) (bv l) b = bv (wst l b) := by
  have hb := bv_lt l
  rw [h] at hb
  cases l with
  | nil => simp at h; omega
  | cons x l =>
    have h' : l.length + 1 = n := by simpa using h
    have e := bv_step x l b
    rw [h'] at e
    unfold nx
    rw [wdw_row hb]
    unfold wst
    rw [List.tail_cons, ← e]
    cases b <;> simp [b2n]
theorem wdw_run (hn : 1 ≤ n) : ∀ (w : List Bool) {l : List Bool}, l.length = n → run (wdw n k) (bv l) w = bv (w.foldl wst l) ∧ (w.foldl wst l).length = n
  | [], l, h => ⟨rfl, h⟩
  | b :: w, l, h => by
    have := wdw_run hn w (wst_len hn h b)
    show run (wdw n k) (nx (wdw n k) (bv l) b) w = _ ∧ _
    rw [wdw_nx hn h]
    exact this
end
def wl (n k : Nat) (u : Bool) : Lg := fun w => decide (k ≤ (w.foldl wst (List.replicate n u)).countP id)
theorem wdw_ans {n k : Nat} (hn : 1 ≤ n) (u : Bool) (w : List Bool) : (row (wdw n k) (run (wdw n k) (bv (List.replicate n u)) w)).1 = wl n k u w := by
  obtain ⟨h1, h2⟩ := wdw_run (k := k) hn w (l := List.replicate n u) (by simp)
  have hb := bv_lt (w.foldl wst (List.replicate n u))
  rw [h2] at hb
  rw [h1, wdw_row hb]
  show decide (k ≤ pop n _) = _
  rw [pop_bv n _ h2]
  rfl
theorem bv_rep (n : Nat) (u : Bool) : bv (List.replicate n u) = if u then 2 ^ n - 1 else 0 := by
  induction n with
  | zero => cases u <;> rfl
  | succ n ih =>
    rw [List.replicate_succ, bv_cons, ih, List.length_replicate, Nat.pow_succ]
    have := Nat.pow_pos (n := n) (show 0 < 2 by omega)
    cases u <;> simp [b2n]
    omega
theorem fold_wst : ∀ (w l : List Bool), 1 ≤ l.length → w.foldl wst l = (l ++ w).drop w.length
  | [], l, _ => by simp
  | b :: w, l, h => by
    cases l with
    | nil => simp at h
    | cons x l =>
      rw [List.foldl_cons, fold_wst w _ (by simp [wst])]
      simp [wst]
theorem wl_eq (n k : Nat) (hn : 1 ≤ n) (u : Bool) (w : List Bool) : wl n k u w = decide (k ≤ ((List.replicate n u ++ w).drop w.length).countP id) := by
  unfold wl
  rw [fold_wst _ _ (by simpa using hn)]
theorem fold_not : ∀ (w l : List Bool), (w.map not).foldl wst (l.map not) = (w.foldl wst l).map not
  | [], l => rfl
  | b :: w, l => by
    rw [List.map_cons, List.foldl_cons, List.foldl_cons, ← fold_not w]
    congr 1
    unfold wst
    rw [List.map_append, List.map_tail]
    rfl
theorem count_not : ∀ (l : List Bool), (l.map not).countP id + l.countP id = l.length
  | [] => rfl
  | b :: l => by
    have := count_not l
    rw [List.map_cons, List.countP_cons, List.countP_cons, List.length_cons]
    cases b <;> simp only [id, Bool.not_true, Bool.not_false, if_true, Bool.false_eq_true, if_false] <;> omega
theorem wl_ng {n k : Nat} (hn : 1 ≤ n) (hk : 1 ≤ k) (hkn : k ≤ n) (u : Bool) : ngL (wl n k u) = wl n (n - k + 1) (!u) := by
  funext w
  unfold ngL wl
  have e := fold_not w (List.replicate n (!u))
  rw [List.map_replicate, Bool.not_not] at e
  rw [e]
  have hl : (w.foldl wst (List.replicate n (!u))).length = n := (wdw_run (k := k) hn w (by simp)).2
  have hc := count_not (w.foldl wst (List.replicate n (!u)))
  rw [hl] at hc
  generalize (w.foldl wst (List.replicate n (!u))).countP id = c at *
  generalize ((w.foldl wst (List.replicate n (!u))).map not).countP id = d at *
  by_cases h : k ≤ d
  · rw [decide_eq_true h, decide_eq_false (by omega)]; rfl
  · rw [decide_eq_false h, decide_eq_true (by omega)]; rfl
theorem sStep_not (r f : Nat) (q : SS) (b : Bool) : sStep f r (!q.1, q.2) (!b) = (!(sStep r f q b).1, (sStep r f q b).2) := by
  obtain ⟨u, c⟩ := q
  unfold sStep
  cases u <;> cases b <;> simp <;> split <;> simp
theorem sFold_not (r f : Nat) : ∀ (w : List Bool) (q : SS), (w.map not).foldl (sStep f r) (!q.1, q.2) = (!(w.foldl (sStep r f) q).1, (w.foldl (sStep r f) q).2)
  | [], q => rfl
  | b :: w, q => by
    rw [List.map_cons, List.foldl_cons, List.foldl_cons, sStep_not]
    exact sFold_not r f w _
theorem sl_ng (r f : Nat) (u : Bool) : ngL (sl r f u) = sl f r (!u) := by
  funext w
  unfold ngL sl
  have := sFold_not r f (w.map not) (u, 0)
  have e : (w.map not).map not = w := by
    rw [List.map_map]
    have : (not ∘ not) = id := by funext b; cases b <;> rfl
    rw [this, List.map_id]
  rw [e] at this
  rw [this]
def WR (n : Nat) (q : SS) (l : List Bool) : Prop := (q.1 = true ∧ ∃ pre, l = pre ++ true :: List.replicate q.2 false) ∨ (q.1 = false ∧ q.2 = 0 ∧ l = List.replicate n false)
theorem wr_step {n : Nat} (hn : 1 ≤ n) {q : SS} {l : List Bool} (hl : l.length = n) (h : WR n q l) (b : Bool) : WR n (sStep 1 n q b) (wst l b) := by
  obtain ⟨u, c⟩ := q
  rcases h with ⟨h1, pre, h2⟩ | ⟨h1, h2, h3⟩
  · dsimp only at h1 h2
    subst h1
    cases b with
    | true =>
      rw [st_tt hn]
      exact .inl ⟨rfl, l.tail, rfl⟩
    | false =>
      rw [st_tf]
      have hlen : pre.length + (c + 1) = n := by rw [← hl, h2]; simp
      by_cases hc : c + 1 = n
      · rw [if_pos hc]
        have : pre = [] := List.length_eq_zero_iff.mp (by omega)
        subst this
        refine .inr ⟨rfl, rfl, ?_⟩
        unfold wst
        rw [h2, ← hc]
        simp [List.replicate_succ']
      · rw [if_neg hc]
        refine .inl ⟨rfl, pre.tail, ?_⟩
        unfold wst
        cases pre with
        | nil => simp at hlen; omega
        | cons x pre =>
          rw [h2]
          simp [List.replicate_succ']
  · dsimp only at h1 h2 h3
    subst h1 h2
    cases b with
    | true =>
      rw [st_ft, if_pos rfl]
      exact .inl ⟨rfl, l.tail, rfl⟩
    | false =>
      rw [st_ff (Nat.le_refl _)]
      refine .inr ⟨rfl, rfl, ?_⟩
      unfold wst
      obtain ⟨m, rfl⟩ : ∃ m, n = m + 1 := ⟨n - 1, by omega⟩
      rw [h3, List.replicate_succ, List.tail_cons, ← List.replicate_succ', List.replicate_succ]
theorem wr_fold {n : Nat} (hn : 1 ≤ n) : ∀ (w : List Bool) {q : SS} {l : List Bool}, l.length = n → WR n q l → WR n (w.foldl (sStep 1 n) q) (w.foldl wst l)
  | [], q, l, _, h => h
  | b :: w, q, l, hl, h => wr_fold hn w (wst_len hn hl b) (wr_step hn hl h b)
theorem wr_ans {n : Nat} {q : SS} {l : List Bool} (h : WR n q l) : q.1 = decide (1 ≤ l.countP id) := by
  rcases h with ⟨h1, pre, h2⟩ | ⟨h1, h2, h3⟩
  · rw [h1, h2]
    symm
    apply decide_eq_true
    rw [List.countP_append, List.countP_cons]
    simp
    omega
  · rw [h1, h3]
    symm
    apply decide_eq_false
    rw [List.countP_replicate]
    simp
theorem wr_start {n : Nat} (hn : 1 ≤ n) : WR n (true, 0) (List.replicate n true) := by
  obtain ⟨m, rfl⟩ : ∃ m, n = m + 1 := ⟨n - 1, by omega⟩
  exact .inl ⟨rfl, List.replicate m true, by simp [List.replicate_succ']⟩
theorem wr_start0 {n : Nat} : WR n (false, 0) (List.replicate n false) := .inr ⟨rfl, rfl, rfl⟩
theorem sl_wl {n : Nat} (hn : 1 ≤ n) (u : Bool) : sl 1 n u = wl n 1 u := by
  funext w
  unfold sl wl
  cases u with
  | true => exact wr_ans (wr_fold hn w (by simp) (wr_start hn))
  | false => exact wr_ans (wr_fold hn w (by simp) wr_start0)
theorem sl_wl2 {n : Nat} (hn : 1 ≤ n) : sl n 1 false = wl n n false := by
  have h1 := sl_ng 1 n true
  have h2 := wl_ng (k := 1) hn (Nat.le_refl _) hn true
  rw [sl_wl hn, h2] at h1
  have e : n - 1 + 1 = n := by omega
  rw [e] at h1
  exact h1.symm
end Tb
namespace Tb
section
variable {t : Tab}
theorem reach_rch {s : Nat} : Rch s (kids t) (reach t s) := by
  intro S h0 hS k hk
  have I := iter_inv (f := rStep t) (fun q => ∀ x ∈ q.1, S x) (by
    rintro ⟨l, a⟩ q' J h
    unfold rStep at h
    dsimp only at h J
    split at h
    · rename_i ha
      cases h
      dsimp only
      have hk := hS _ (J _ (getD_mem ha))
      intro x hx
      rw [mem_addN, mem_addN] at hx
      rcases hx with (hx | rfl) | rfl
      · exact J x hx
      · exact hk _ (by unfold kids; exact List.mem_cons_self)
      · exact hk _ (by unfold kids; exact List.mem_cons_of_mem _ List.mem_cons_self)
    · cases h) t.length (a := ([s], 0)) (by simpa using h0)
  exact I k hk
theorem ded_of_nodup {A : Type} [DecidableEq A] : ∀ (l acc : List A), (acc ++ l).Nodup → l.foldl addN acc = acc ++ l
  | [], acc, _ => by simp
  | x :: l, acc, h => by
    have hx : x ∉ acc := by
      intro hx
      rw [List.nodup_append] at h
      exact h.2.2 x hx x (by simp) rfl
    rw [List.foldl_cons, addN_out hx, ded_of_nodup l (acc ++ [x]) (by simpa using h)]
    simp
theorem idx_map {A : Type} [BEq A] [LawfulBEq A] (c : Nat → A) : ∀ (l : List Nat) (x : Nat), (∀ y ∈ l, c y = c x → y = x) → x ∈ l → (l.map c).idxOf (c x) = l.idxOf x
  | [], x, _, h => by simp at h
  | y :: l, x, hi, h => by
    rw [List.map_cons, List.idxOf_cons, List.idxOf_cons]
    by_cases e : y = x
    · subst e; simp
    · have e' : ¬ c y = c x := fun z => e (hi y (by simp) z)
      rw [beq_eq_false_iff_ne.mpr e, beq_eq_false_iff_ne.mpr e']
      have hx : x ∈ l := by
        rcases List.mem_cons.mp h with rfl | h
        · exact absurd rfl e
        · exact h
      simp only [cond_false]
      rw [idx_map c l x (fun z hz => hi z (by simp [hz])) hx]
theorem idx_range {n x : Nat} (h : x < n) : (List.range n).idxOf x = x := by
  induction n with
  | zero => omega
  | succ n ih =>
    rw [List.range_succ, List.idxOf_append]
    by_cases hx : x < n
    · rw [if_pos (by simpa using hx), ih hx]
    · have : x = n := by omega
      subst this
      rw [if_neg (by simp)]
      simp
theorem small_self (ok : Ok t) (hp : 0 < t.length) (hr : reach t 0 = List.range t.length) (hi : ∀ i j, i < t.length → j < t.length → lang t i = lang t j → i = j) : small t 0 = t := by
  rw [small_tabL ok hp]
  have e : ordL t 0 = (List.range t.length).map (lang t) := by
    unfold ordL
    rw [hr]
    have hn : ((List.range t.length).map (lang t)).Nodup := by
      rw [List.nodup_iff_pairwise_ne, List.pairwise_map]
      have := List.nodup_range (n := t.length)
      rw [List.nodup_iff_pairwise_ne] at this
      refine List.Pairwise.imp_of_mem (fun {a b} ha hb hab z => ?_) this
      rw [List.mem_range] at ha hb
      exact hab (hi a b ha hb z)
    have := ded_of_nodup ((List.range t.length).map (lang t)) [] (by simpa using hn)
    unfold ded
    rw [this]
    simp
  rw [e]
  unfold tabL
  rw [List.map_map]
  have key : ∀ x, x < t.length → ((List.range t.length).map (lang t)).idxOf (lang t x) = x := fun x hx => by
    rw [idx_map (lang t) (List.range t.length) x (fun y hy z => hi y x (by simpa using hy) hx z) (by simpa using hx), idx_range hx]
  apply List.ext_getElem
  · simp
  · intro i h1 h2
    rw [List.getElem_map]
    have hix : i < t.length := h2
    have hk := ok _ (row_mem hix)
    have e1 : (List.range t.length)[i]'(by simpa using hix) = i := by simp
    rw [e1]
    show ((lang t i []), ((List.range t.length).map (lang t)).idxOf (der true (lang t i)), ((List.range t.length).map (lang t)).idxOf (der false (lang t i))) = t[i]
    have d1 : der true (lang t i) = lang t (nx t i true) := rfl
    have d2 : der false (lang t i) = lang t (nx t i false) := rfl
    rw [d1, d2, key _ (nx_lt ok hix true), key _ (nx_lt ok hix false)]
    have hrow := row_eq hix
    rw [← hrow]
    rfl
end
def chT (n : Nat) : Tab := ((List.range (n - 1)).map fun i => (false, i + 1, 0)) ++ [(true, n - 1, 0)]
section
variable {n : Nat}
theorem chT_len (h : 1 ≤ n) : (chT n).length = n := by unfold chT; simp; omega
theorem chT_lo (h : 1 ≤ n) {i : Nat} (hi : i < n - 1) : row (chT n) i = (false, i + 1, 0) := by
  rw [row_eq (by rw [chT_len h]; omega)]
  unfold chT
  rw [List.getElem_append_left (by simpa using hi)]
  simp
theorem chT_hi (h : 1 ≤ n) : row (chT n) (n - 1) = (true, n - 1, 0) := by
  rw [row_eq (by rw [chT_len h]; omega)]
  unfold chT
  rw [List.getElem_append_right (by simp)]
  simp
theorem chT_ok (h : 1 ≤ n) : Ok (chT n) := by
  intro r hr
  rw [chT_len h]
  unfold chT at hr
  rw [List.mem_append, List.mem_map] at hr
  rcases hr with ⟨i, hi, rfl⟩ | hr
  · rw [List.mem_range] at hi
    exact ⟨by dsimp only; omega, by dsimp only; omega⟩
  · rw [List.mem_singleton] at hr
    subst hr
    exact ⟨by dsimp only; omega, by dsimp only; omega⟩
theorem chT_kids (h : 1 ≤ n) {i : Nat} (hi : i < n) : kids (chT n) i = [if i < n - 1 then i + 1 else n - 1, 0] := by
  unfold kids
  by_cases c : i < n - 1
  · rw [chT_lo h c, if_pos c]
  · have : i = n - 1 := by omega
    subst this
    rw [chT_hi h, if_neg c]
theorem chT_ded (h : 1 ≤ n) : ∀ m, m ≤ n - 1 → ded (0 :: (List.range m).flatMap (kids (chT n))) = List.range (m + 1)
  | 0, _ => rfl
  | m + 1, hm => by
    have ih := chT_ded h m (by omega)
    rw [List.range_succ, List.flatMap_append, ← List.cons_append, ded_append, ih, List.flatMap_singleton, chT_kids h (by omega), if_pos (by omega)]
    rw [List.foldl_cons, List.foldl_cons, List.foldl_nil]
    have e1 : addN (List.range (m + 1)) (m + 1) = List.range (m + 1 + 1) := by
      rw [addN_out (by simp), ← List.range_succ]
    rw [e1, addN_in (by simp)]
theorem chT_reach (h : 1 ≤ n) : reach (chT n) 0 = List.range n := by
  have ok := chT_ok h
  have hp : 0 < (chT n).length := by rw [chT_len h]; omega
  have hd : List.range n = ded (0 :: (List.range n).flatMap (kids (chT n))) := by
    have e := chT_ded h (n - 1) (Nat.le_refl _)
    have en : List.range n = List.range (n - 1) ++ [n - 1] := by
      conv => lhs; rw [show n = (n - 1) + 1 by omega]
      rw [List.range_succ]
    conv => rhs; rw [en]
    rw [List.flatMap_append, ← List.cons_append, ded_append, e, List.flatMap_singleton, chT_kids h (by omega), if_neg (by omega), List.foldl_cons, List.foldl_cons, List.foldl_nil]
    rw [addN_in (show n - 1 ∈ List.range (n - 1 + 1) by simp), addN_in (show 0 ∈ List.range (n - 1 + 1) by simp)]
    rw [show n - 1 + 1 = n by omega]
  refine ded_unique (reach_fix ok hp) hd reach_rch ?_
  intro S h0 hS k hk
  rw [List.mem_range] at hk
  have : ∀ k, k < n → S k := by
    intro k
    induction k with
    | zero => intro _; exact h0
    | succ k ih =>
      intro hk
      refine hS k (ih (by omega)) (k + 1) ?_
      rw [chT_kids h (by omega), if_pos (by omega)]
      simp
  exact this k hk
theorem chT_pass (h : 1 ≤ n) : ∀ (m i : Nat), i < n → run (chT n) i (List.replicate m true) = min (i + m) (n - 1)
  | 0, i, hi => by show i = _; omega
  | m + 1, i, hi => by
    rw [List.replicate_succ]
    show run (chT n) (nx (chT n) i true) (List.replicate m true) = _
    unfold nx
    by_cases c : i < n - 1
    · rw [chT_lo h c]
      simp only [if_true]
      rw [chT_pass h m (i + 1) (by omega)]
      congr 1
      omega
    · have : i = n - 1 := by omega
      subst this
      rw [chT_hi h]
      simp only [if_true]
      rw [chT_pass h m (n - 1) (by omega)]
      omega
theorem chT_inj (h : 1 ≤ n) {i j : Nat} (hi : i < n) (hj : j < n) (e : lang (chT n) i = lang (chT n) j) : i = j := by
  have key : ∀ i j, i < n → j < n → lang (chT n) i = lang (chT n) j → i ≤ j := by
    intro i j hi hj e
    have e1 := congrFun e (List.replicate (n - 1 - i) true)
    unfold lang at e1
    rw [chT_pass h _ i hi, chT_pass h _ j hj] at e1
    by_cases c : i ≤ j
    · exact c
    · exfalso
      rw [show min (i + (n - 1 - i)) (n - 1) = n - 1 by omega, show min (j + (n - 1 - i)) (n - 1) = j + (n - 1 - i) by omega, chT_hi h, chT_lo h (by omega)] at e1
      cases e1
  exact Nat.le_antisymm (key i j hi hj e) (key j i hj hi e.symm)
theorem chT_small (h : 1 ≤ n) : small (chT n) 0 = chT n := by
  have hl := chT_len h
  refine small_self (chT_ok h) (by omega) (by rw [hl]; exact chT_reach h) fun i j hi hj e => ?_
  rw [hl] at hi hj
  exact chT_inj h hi hj e
end
def trn (p : List Nat) (t : Tab) : Tab := p.map fun a => ((row t a).1, p.idxOf (row t a).2.1, p.idxOf (row t a).2.2)
section
variable {t : Tab} {p : List Nat}
theorem trn_len : (trn p t).length = p.length := by unfold trn; simp
theorem trn_row (hall : ∀ x, x < t.length → x ∈ p) {x : Nat} (hx : x < t.length) : row (trn p t) (p.idxOf x) = ((row t x).1, p.idxOf (row t x).2.1, p.idxOf (row t x).2.2) := by
  have hl := List.idxOf_lt_length_iff.mpr (hall x hx)
  rw [row_eq (by rw [trn_len]; exact hl)]
  unfold trn
  rw [List.getElem_map]
  have : p[p.idxOf x] = x := List.getElem_idxOf hl
  rw [this]
theorem trn_nx (hall : ∀ x, x < t.length → x ∈ p) {x : Nat} (hx : x < t.length) (b : Bool) : nx (trn p t) (p.idxOf x) b = p.idxOf (nx t x b) := by
  unfold nx
  rw [trn_row hall hx]
  cases b <;> rfl
theorem trn_run (ok : Ok t) (hall : ∀ x, x < t.length → x ∈ p) : ∀ (w : List Bool) {x : Nat}, x < t.length → run (trn p t) (p.idxOf x) w = p.idxOf (run t x w)
  | [], x, _ => rfl
  | b :: w, x, hx => by
    show run (trn p t) (nx (trn p t) (p.idxOf x) b) w = _
    rw [trn_nx hall hx, trn_run ok hall w (nx_lt ok hx b)]
    rfl
theorem trn_ok (ok : Ok t) (hall : ∀ x, x < t.length → x ∈ p) (hlt : ∀ x ∈ p, x < t.length) : Ok (trn p t) := by
  intro r hr
  rw [trn_len]
  unfold trn at hr
  rw [List.mem_map] at hr
  obtain ⟨a, ha, rfl⟩ := hr
  have hk := ok _ (row_mem (hlt a ha))
  exact ⟨List.idxOf_lt_length_iff.mpr (hall _ hk.1), List.idxOf_lt_length_iff.mpr (hall _ hk.2)⟩
theorem trn_small (ok : Ok t) (hp : 0 < t.length) (hall : ∀ x, x < t.length → x ∈ p) (hlt : ∀ x ∈ p, x < t.length) (h0 : p.idxOf 0 = 0) : small (trn p t) 0 = small t 0 := by
  have hpl : 0 < p.length := List.length_pos_of_mem (hall 0 hp)
  refine small_lang (trn_ok ok hall hlt) (by rw [trn_len]; exact hpl) ok hp fun w => ?_
  have e := trn_run ok hall w hp
  rw [h0] at e
  rw [e, trn_row hall (run_lt ok w hp)]
end
def ordT (n b : Nat) : List Nat := 0 :: (List.range (n - 1)).map fun k => 1 + (k + b) % (n - 1)
theorem ordT_len {n b : Nat} (h : 1 ≤ n) : (ordT n b).length = n := by unfold ordT; simp; omega
theorem ordT_lt {n b : Nat} (h : 1 ≤ n) : ∀ x ∈ ordT n b, x < n := by
  intro x hx
  unfold ordT at hx
  rw [List.mem_cons, List.mem_map] at hx
  rcases hx with rfl | ⟨k, hk, rfl⟩
  · omega
  · rw [List.mem_range] at hk
    have := Nat.mod_lt (k + b) (show 0 < n - 1 by omega)
    omega
theorem ordT_all {n b : Nat} (h : 1 ≤ n) : ∀ x, x < n → x ∈ ordT n b := by
  intro x hx
  unfold ordT
  rw [List.mem_cons, List.mem_map]
  by_cases h0 : x = 0
  · exact .inl h0
  · right
    have hm : 0 < n - 1 := by omega
    refine ⟨(x - 1 + ((n - 1) * b - b)) % (n - 1), by rw [List.mem_range]; exact Nat.mod_lt _ hm, ?_⟩
    have hb : b ≤ (n - 1) * b := Nat.le_mul_of_pos_left b hm
    rw [Nat.mod_add_mod]
    have e : x - 1 + ((n - 1) * b - b) + b = (n - 1) * b + (x - 1) := by omega
    rw [e, Nat.mul_add_mod, Nat.mod_eq_of_lt (by omega)]
    omega
theorem ordT_zero {n b : Nat} : (ordT n b).idxOf 0 = 0 := by unfold ordT; simp
end Tb
namespace Hi
def fpL (s c : List Bool) : List Bool := List.zipWith (fun s c => !s && c) s c
def ffL (s c : List Bool) : List Bool := List.zipWith (fun s c => s && !c) s c
def letB (a b : Nat) (p f : List Bool) : Bool := decide (p.countP id ≤ a) && decide (f.countP id ≤ b)
def wnd (l : List Bool) (i n : Nat) : List Bool := (l.drop i).take n
def okW (a b n : Nat) (s c : List Bool) : Bool := (List.range c.length).all fun i => letB a b (wnd (fpL s c) i n) (wnd (ffL s c) i n)
def starts (s : List Bool) : List Nat := (List.range' 1 (s.length - 1)).filter fun i => s.getD i false != s.getD (i - 1) false
def okS (k : Nat) (s : List Bool) : Bool := (List.range' 1 ((starts s).length - 1)).all fun j => !decide ((((starts s).getD j 0 : Nat) : Int) - (((starts s).getD (j - 1) 0 : Nat) : Int) < (k : Int))
def alw (a b n k : Nat) (s c : List Bool) : Bool := okW a b n s c && okS k s
theorem wnd_le (l : List Bool) (i n : Nat) : (wnd l i n).countP id ≤ l.countP id :=
  List.Sublist.countP_le ((List.take_sublist _ _).trans (List.drop_sublist _ _))
theorem okW_total {a b n : Nat} {s c : List Bool} (h1 : (fpL s c).countP id ≤ a) (h2 : (ffL s c).countP id ≤ b) : okW a b n s c = true := by
  unfold okW
  rw [List.all_eq_true]
  intro i _
  unfold letB
  rw [Bool.and_eq_true, decide_eq_true_eq, decide_eq_true_eq]
  exact ⟨Nat.le_trans (wnd_le _ _ _) h1, Nat.le_trans (wnd_le _ _ _) h2⟩
theorem okS_few {k : Nat} {s : List Bool} (h : (starts s).length ≤ 1) : okS k s = true := by
  unfold okS
  have : (starts s).length - 1 = 0 := by omega
  rw [this]
  rfl
theorem rep_get (n m : Nat) (u v : Bool) (i : Nat) (h : i < n + m) : (List.replicate n u ++ List.replicate m v).getD i false = if i < n then u else v := by
  rw [List.getD_eq_getElem?_getD]
  by_cases c : i < n
  · rw [List.getElem?_append_left (by simpa using c), if_pos c, List.getElem?_replicate, if_pos c]; rfl
  · rw [List.getElem?_append_right (by simpa using Nat.le_of_not_lt c), if_neg c, List.length_replicate, List.getElem?_replicate, if_pos (by omega)]; rfl
theorem starts_two (n m : Nat) (u v : Bool) : (starts (List.replicate n u ++ List.replicate m v)).length ≤ 1 := by
  have hsub : ∀ x ∈ starts (List.replicate n u ++ List.replicate m v), x = n := by
    intro x hx
    unfold starts at hx
    rw [List.mem_filter, List.mem_range'_1] at hx
    obtain ⟨⟨h1, h2⟩, h3⟩ := hx
    rw [List.length_append, List.length_replicate, List.length_replicate] at h2
    rw [rep_get n m u v x (by omega), rep_get n m u v (x - 1) (by omega)] at h3
    by_cases c1 : x < n
    · rw [if_pos c1, if_pos (by omega)] at h3; simp at h3
    · by_cases c2 : x - 1 < n
      · omega
      · rw [if_neg c1, if_neg c2] at h3; simp at h3
  have hnd : (starts (List.replicate n u ++ List.replicate m v)).Nodup := by
    unfold starts
    exact List.Nodup.sublist (List.filter_sublist) List.nodup_range'
  generalize starts (List.replicate n u ++ List.replicate m v) = l at *
  match l, hsub, hnd with
  | [], _, _ => simp
  | [x], _, _ => simp
  | x :: y :: l, hs, hd =>
    have e1 := hs x (by simp)
    have e2 := hs y (by simp)
    rw [List.nodup_cons] at hd
    exact absurd (by rw [e1, e2]; simp) hd.1
theorem starts_one (n : Nat) (u : Bool) : (starts (List.replicate n u)).length ≤ 1 := by
  have := starts_two n 0 u u
  simpa using this
theorem zip_rep (f : Bool → Bool → Bool) (u : Bool) : ∀ (n : Nat) (c : List Bool), c.length = n → List.zipWith f (List.replicate n u) c = c.map (f u)
  | 0, c, h => by rw [List.length_eq_zero_iff.mp h]; rfl
  | n + 1, [], h => by simp at h
  | n + 1, x :: c, h => by
    rw [List.replicate_succ, List.zipWith_cons_cons, zip_rep f u n c (by simpa using h)]; rfl
theorem fp_up (c : List Bool) : (fpL (List.replicate c.length true) c).countP id = 0 := by
  unfold fpL
  rw [zip_rep _ true _ c rfl]
  rw [List.countP_eq_zero]
  intro x hx
  rw [List.mem_map] at hx
  obtain ⟨y, _, rfl⟩ := hx
  simp
theorem ff_down (c : List Bool) : (ffL (List.replicate c.length false) c).countP id = 0 := by
  unfold ffL
  rw [zip_rep _ false _ c rfl]
  rw [List.countP_eq_zero]
  intro x hx
  rw [List.mem_map] at hx
  obtain ⟨y, _, rfl⟩ := hx
  simp
theorem ff_up (c : List Bool) : ffL (List.replicate c.length true) c = c.map not := by
  unfold ffL
  rw [zip_rep _ true _ c rfl]
  rfl
theorem fp_down (c : List Bool) : fpL (List.replicate c.length false) c = c := by
  unfold fpL
  rw [zip_rep _ false _ c rfl]
  have : (fun c => !false && c) = (id : Bool → Bool) := by funext x; cases x <;> rfl
  rw [this, List.map_id]
theorem zip_app (f : Bool → Bool → Bool) (s1 s2 c1 c2 : List Bool) (h : s1.length = c1.length) : List.zipWith f (s1 ++ s2) (c1 ++ c2) = List.zipWith f s1 c1 ++ List.zipWith f s2 c2 := List.zipWith_append h
def per (p n size : Nat) : List Bool := (List.range size).map fun i => decide (i % n < p)
theorem per_len (p n size : Nat) : (per p n size).length = size := by unfold per; simp
theorem cnt_range (p : Nat) : ∀ n, p ≤ n → (List.range n).countP (fun x => decide (x < p)) = p
  | 0, h => by have : p = 0 := by omega
               subst this; rfl
  | n + 1, h => by
    rw [List.range_succ, List.countP_append]
    by_cases c : p ≤ n
    · rw [cnt_range p n c]
      simp
      omega
    · have : p = n + 1 := by omega
      subst this
      have e : (List.range n).countP (fun x => decide (x < n + 1)) = n := by
        rw [List.countP_eq_length.mpr]
        · simp
        · intro x hx
          rw [List.mem_range] at hx
          simp; omega
      rw [e]
      simp
theorem cnt_per (g : Nat → Bool) (n : Nat) (hg : ∀ i, g (i + n) = g i) : ∀ i, (List.range' i n).countP g = (List.range n).countP g
  | 0 => by rw [List.range_eq_range']
  | i + 1 => by
    rw [← cnt_per g n hg i]
    cases n with
    | zero => rfl
    | succ m =>
      have e1 : List.range' i (m + 1) = i :: List.range' (i + 1) m := by rw [List.range'_succ]
      have e2 : List.range' (i + 1) (m + 1) = List.range' (i + 1) m ++ [i + 1 + m] := by rw [List.range'_concat]; simp
      rw [e1, e2, List.countP_cons, List.countP_append]
      have h := hg i
      have e3 : i + 1 + m = i + (m + 1) := by omega
      rw [e3]
      simp only [List.countP_cons, List.countP_nil, h]
      omega
theorem cnt_le (g : Nat → Bool) (n m i : Nat) (h : m ≤ n) (hg : ∀ i, g (i + n) = g i) : (List.range' i m).countP g ≤ (List.range n).countP g := by
  rw [← cnt_per g n hg i]
  have this := List.range'_append_1 (s := i) (m := m) (n := n - m)
  rw [show m + (n - m) = n by omega] at this
  rw [← this, List.countP_append]
  omega
theorem take_rng : ∀ (n k a : Nat), (List.range' a k).take n = List.range' a (min n k)
  | 0, k, a => by simp
  | n + 1, 0, a => by simp
  | n + 1, k + 1, a => by
    rw [List.range'_succ, List.take_succ_cons, take_rng n k (a + 1), Nat.succ_min_succ, List.range'_succ]
theorem wnd_map (g : Nat → Bool) (size i n : Nat) : ∃ m, m ≤ n ∧ wnd ((List.range size).map g) i n = (List.range' i m).map g := by
  refine ⟨min n (size - i), Nat.min_le_left _ _, ?_⟩
  unfold wnd
  rw [← List.map_drop, ← List.map_take]
  congr 1
  rw [List.range_eq_range', List.drop_range', take_rng]
  simp
theorem per_cnt {p n size i : Nat} (hp : p ≤ n) (hn : 1 ≤ n) : (wnd (per p n size) i n).countP id ≤ p ∧ (wnd ((per p n size).map not) i n).countP id ≤ n - p := by
  have per1 : ∀ i, decide ((i + n) % n < p) = decide (i % n < p) := fun i => by rw [Nat.add_mod_right]
  have base : ∀ g : Nat → Bool, (List.range n).countP (fun x => g (x % n)) = (List.range n).countP g := fun g => by
    apply List.countP_congr
    intro x hx
    rw [List.mem_range] at hx
    rw [Nat.mod_eq_of_lt hx]
  constructor
  · obtain ⟨m, hm, e⟩ := wnd_map (fun i => decide (i % n < p)) size i n
    unfold per
    rw [e, List.countP_map]
    have h1 := cnt_le (fun i => decide (i % n < p)) n m i hm per1
    have h2 := base (fun x => decide (x < p))
    have h3 := cnt_range p n hp
    have h4 : (id ∘ fun i => decide (i % n < p)) = fun i => decide (i % n < p) := rfl
    rw [h4]
    omega
  · unfold per
    rw [List.map_map]
    obtain ⟨m, hm, e⟩ := wnd_map (not ∘ fun i => decide (i % n < p)) size i n
    rw [e, List.countP_map]
    have h1 := cnt_le (not ∘ fun i => decide (i % n < p)) n m i hm (fun i => by show (!decide ((i + n) % n < p)) = !decide (i % n < p); rw [per1])
    have h2 := base (fun x => !decide (x < p))
    have h3 := cnt_range p n hp
    have h5 : (List.range n).countP (fun x => decide (x < p)) + (List.range n).countP (fun x => !decide (x < p)) = n := by
      have := List.length_eq_countP_add_countP (fun x => decide (x < p)) (l := List.range n)
      rw [List.length_range] at this
      have e2 : (List.range n).countP (fun x => decide ¬ (decide (x < p) = true)) = (List.range n).countP (fun x => !decide (x < p)) := by
        apply List.countP_congr
        intro x _
        simp
      omega
    have h4 : (id ∘ (not ∘ fun i => decide (i % n < p))) = (not ∘ fun i => decide (i % n < p)) := rfl
    have h6 : (List.range n).countP (not ∘ fun i => decide (i % n < p)) = (List.range n).countP (fun x => !decide (x % n < p)) := rfl
    rw [h4]
    have h7 := base (fun x => !decide (x < p))
    omega
theorem okW_per {a b n p size : Nat} (hp : p ≤ n) (hn : 1 ≤ n) (h1 : p ≤ a) (h2 : n - p ≤ b) (u : Bool) : okW a b n (List.replicate size u) (per p n size) = true := by
  unfold okW
  rw [List.all_eq_true]
  intro i _
  unfold letB
  rw [Bool.and_eq_true, decide_eq_true_eq, decide_eq_true_eq]
  have hc := per_cnt (p := p) (n := n) (size := size) (i := i) hp hn
  have hl : (per p n size).length = size := per_len p n size
  cases u with
  | true =>
    have e1 := fp_up (per p n size)
    have e2 := ff_up (per p n size)
    rw [hl] at e1 e2
    rw [e2]
    exact ⟨Nat.le_trans (wnd_le _ _ _) (by omega), by omega⟩
  | false =>
    have e1 := ff_down (per p n size)
    have e2 := fp_down (per p n size)
    rw [hl] at e1 e2
    rw [e2]
    exact ⟨by omega, Nat.le_trans (wnd_le _ _ _) (by omega)⟩
theorem per_cut (p n size : Nat) (hp : p ≤ n) (hn : 1 ≤ n) : ((List.replicate size (List.replicate p true ++ List.replicate (n - p) false)).flatten).take size = per p n size := by
  apply List.ext_getElem?
  intro i
  have hb : (List.replicate p true ++ List.replicate (n - p) false).length = n := by simp; omega
  have key : ∀ (m i : Nat), i < m * n → ((List.replicate m (List.replicate p true ++ List.replicate (n - p) false)).flatten)[i]? = some (decide (i % n < p)) := by
    intro m
    induction m with
    | zero => intro i h; omega
    | succ m ih =>
      intro i h
      rw [List.replicate_succ, List.flatten_cons]
      by_cases c : i < n
      · rw [List.getElem?_append_left (by rw [hb]; exact c), Nat.mod_eq_of_lt c]
        by_cases c2 : i < p
        · rw [List.getElem?_append_left (by simpa using c2), List.getElem?_replicate, if_pos c2, decide_eq_true c2]
        · rw [List.getElem?_append_right (by simpa using Nat.le_of_not_lt c2), List.length_replicate, List.getElem?_replicate, if_pos (by omega), decide_eq_false c2]
      · rw [List.getElem?_append_right (by rw [hb]; omega), hb, ih (i - n) (by rw [Nat.add_mul] at h; omega)]
        congr 2
        have : i = (i - n) + n := by omega
        conv => rhs; rw [this]
        rw [Nat.add_mod_right]
  by_cases hi : i < size
  · rw [List.getElem?_take_of_lt hi, key size i (Nat.lt_of_lt_of_le hi (Nat.le_mul_of_pos_right _ hn))]
    unfold per
    rw [List.getElem?_map, List.getElem?_range hi]
    rfl
  · rw [List.getElem?_eq_none (by rw [List.length_take]; omega), List.getElem?_eq_none (by rw [per_len]; omega)]
theorem no_clash {a b n : Nat} {c x1 x2 : List Bool} {u d : Nat} (hn : a + b < n) (hu : a + b < u) (hd : a + b < d) (h1 : c.length = x1.length + u) (h2 : c.length = x2.length + d) (k1 : okW a b n (x1 ++ List.replicate u true) c = true) (k2 : okW a b n (x2 ++ List.replicate d false) c = true) : False := by
  obtain ⟨c1, c2, rfl, hc2⟩ : ∃ c1 c2, c = c1 ++ c2 ∧ c2.length = a + b + 1 := ⟨c.take (c.length - (a + b + 1)), c.drop (c.length - (a + b + 1)), (List.take_append_drop _ _).symm, by rw [List.length_drop]; omega⟩
  rw [List.length_append] at h1 h2
  have e1 : x1 ++ List.replicate u true = (x1 ++ List.replicate (u - (a + b + 1)) true) ++ List.replicate c2.length true := by
    rw [List.append_assoc, hc2]
    congr 1
    rw [List.replicate_append_replicate]
    congr 1
    omega
  have e2 : x2 ++ List.replicate d false = (x2 ++ List.replicate (d - (a + b + 1)) false) ++ List.replicate c2.length false := by
    rw [List.append_assoc, hc2]
    congr 1
    rw [List.replicate_append_replicate]
    congr 1
    omega
  have l1 : (x1 ++ List.replicate (u - (a + b + 1)) true).length = c1.length := by rw [List.length_append, List.length_replicate]; omega
  have l2 : (x2 ++ List.replicate (d - (a + b + 1)) false).length = c1.length := by rw [List.length_append, List.length_replicate]; omega
  rw [e1] at k1
  rw [e2] at k2
  generalize x1 ++ List.replicate (u - (a + b + 1)) true = y1 at *
  generalize x2 ++ List.replicate (d - (a + b + 1)) false = y2 at *
  unfold okW at k1 k2
  rw [List.all_eq_true] at k1 k2
  have q1 := k1 c1.length (by rw [List.mem_range, List.length_append]; omega)
  have q2 := k2 c1.length (by rw [List.mem_range, List.length_append]; omega)
  unfold letB at q1 q2
  rw [Bool.and_eq_true, decide_eq_true_eq, decide_eq_true_eq] at q1 q2
  have w1 : wnd (ffL (y1 ++ List.replicate c2.length true) (c1 ++ c2)) c1.length n = c2.map not := by
    unfold wnd
    have z : ffL (y1 ++ List.replicate c2.length true) (c1 ++ c2) = ffL y1 c1 ++ c2.map not := by
      rw [← ff_up]
      exact zip_app _ _ _ _ _ l1
    have lz : (ffL y1 c1).length = c1.length := by unfold ffL; rw [List.length_zipWith, l1]; omega
    rw [z, ← lz, List.drop_left, List.take_of_length_le (by simp; omega)]
  have w2 : wnd (fpL (y2 ++ List.replicate c2.length false) (c1 ++ c2)) c1.length n = c2 := by
    unfold wnd
    have z : fpL (y2 ++ List.replicate c2.length false) (c1 ++ c2) = fpL y2 c1 ++ c2 := by
      conv => rhs; rw [← fp_down c2]
      exact zip_app _ _ _ _ _ l2
    have lz : (fpL y2 c1).length = c1.length := by unfold fpL; rw [List.length_zipWith, l2]; omega
    rw [z, ← lz, List.drop_left, List.take_of_length_le (by omega)]
  rw [w1] at q1
  rw [w2] at q2
  have hs : (c2.map not).countP id + c2.countP id = c2.length := by
    clear hc2 k1 k2 q1 q2 w1 w2 h1 h2 e1 e2
    induction c2 with
    | nil => rfl
    | cons x l ih =>
      rw [List.map_cons, List.countP_cons, List.countP_cons, List.length_cons]
      cases x <;> simp only [id, Bool.not_true, Bool.not_false, if_true, Bool.false_eq_true, if_false] <;> omega
  omega
end Hi
namespace Hi
def rep (n : Nat) (u : Bool) : List Bool := List.replicate n u
def cl (a b n u d : Nat) : Option (List Bool × List Bool × List Bool) :=
  if n ≤ a + b then some (per (min a n) n (max u d), rep (max u d) true, rep (max u d) false)
  else if a + b < min u d then none
  else if u ≤ d then some (rep (d - u) false ++ rep (min u a) true ++ rep (u - min u a) false, rep (d - u) false ++ rep u true, rep d false)
  else some (rep (u - d) true ++ rep (min d b) false ++ rep (d - min d b) true, rep u true, rep (u - d) true ++ rep d false)
theorem cnt_rep_t (n : Nat) : (rep n true).countP id = n := by unfold rep; rw [List.countP_replicate]; simp
theorem cnt_rep_f (n : Nat) : (rep n false).countP id = 0 := by unfold rep; rw [List.countP_replicate]; simp
theorem rep_len (n : Nat) (u : Bool) : (rep n u).length = n := by unfold rep; simp
theorem rep_add (n m : Nat) (u : Bool) : rep n u ++ rep m u = rep (n + m) u := by unfold rep; rw [List.replicate_append_replicate]
theorem rep_split (n m : Nat) (u : Bool) (h : m ≤ n) : rep n u = rep (n - m) u ++ rep m u := by rw [rep_add]; congr 1; omega
theorem not_rep (n : Nat) (u : Bool) : (rep n u).map not = rep n (!u) := by unfold rep; simp
theorem alw_total {a b n k : Nat} {s c : List Bool} (h1 : (fpL s c).countP id ≤ a) (h2 : (ffL s c).countP id ≤ b) (h3 : (starts s).length ≤ 1) : alw a b n k s c = true := by
  unfold alw
  rw [okW_total h1 h2, okS_few h3]; rfl
theorem fp_up' {n : Nat} {c : List Bool} (h : c.length = n) : (fpL (rep n true) c).countP id = 0 := by subst h; exact fp_up c
theorem ff_down' {n : Nat} {c : List Bool} (h : c.length = n) : (ffL (rep n false) c).countP id = 0 := by subst h; exact ff_down c
theorem ff_up' {n : Nat} {c : List Bool} (h : c.length = n) : ffL (rep n true) c = c.map not := by subst h; exact ff_up c
theorem fp_down' {n : Nat} {c : List Bool} (h : c.length = n) : fpL (rep n false) c = c := by subst h; exact fp_down c
theorem fp_app {s1 s2 c1 c2 : List Bool} (h : s1.length = c1.length) : fpL (s1 ++ s2) (c1 ++ c2) = fpL s1 c1 ++ fpL s2 c2 := zip_app _ _ _ _ _ h
theorem ff_app {s1 s2 c1 c2 : List Bool} (h : s1.length = c1.length) : ffL (s1 ++ s2) (c1 ++ c2) = ffL s1 c1 ++ ffL s2 c2 := zip_app _ _ _ _ _ h
structure Clash (a b n k u d : Nat) (c s1 s2 : List Bool) : Prop where
  len : c.length = max u d
  l1 : s1.length = c.length
  l2 : s2.length = c.length
  a1 : alw a b n k s1 c = true
  a2 : alw a b n k s2 c = true
  e1 : ∃ x, s1 = x ++ rep u true
  e2 : ∃ x, s2 = x ++ rep d false
theorem cl_ok {a b n k u d : Nat} (hn : 1 ≤ n) {c s1 s2 : List Bool} (h : cl a b n u d = some (c, s1, s2)) : Clash a b n k u d c s1 s2 := by
  unfold cl at h
  split at h
  · rename_i h0
    simp only [Option.some.injEq, Prod.mk.injEq] at h
    obtain ⟨rfl, rfl, rfl⟩ := h
    have w : ∀ u', okW a b n (rep (max u d) u') (per (min a n) n (max u d)) = true := fun u' => okW_per (by omega) hn (by omega) (by omega) u'
    refine ⟨per_len _ _ _, by rw [per_len, rep_len], by rw [per_len, rep_len], ?_, ?_, ⟨rep (max u d - u) true, rep_split _ _ _ (by omega)⟩, ⟨rep (max u d - d) false, rep_split _ _ _ (by omega)⟩⟩
    · unfold alw; rw [w]; exact okS_few (starts_one _ _)
    · unfold alw; rw [w]; exact okS_few (starts_one _ _)
  · rename_i h0
    split at h
    · cases h
    · rename_i h1
      split at h
      · rename_i h2
        simp only [Option.some.injEq, Prod.mk.injEq] at h
        obtain ⟨rfl, rfl, rfl⟩ := h
        have hp : min u a ≤ u := by omega
        generalize hg : min u a = p at hp ⊢
        have lc : (rep (d - u) false ++ rep p true ++ rep (u - p) false).length = d := by simp only [List.length_append, rep_len]; omega
        have lx : (rep p true ++ rep (u - p) false).length = u := by simp only [List.length_append, rep_len]; omega
        refine ⟨by rw [lc]; omega, by rw [lc]; simp only [List.length_append, rep_len]; omega, by rw [lc, rep_len], ?_, ?_, ⟨_, rfl⟩, ⟨[], rfl⟩⟩
        · rw [List.append_assoc]
          refine alw_total ?_ ?_ (starts_two _ _ _ _)
          · rw [fp_app (by simp only [rep_len]), List.countP_append, fp_up' lx, fp_down' (rep_len _ _), cnt_rep_f]; omega
          · rw [ff_app (by simp only [rep_len]), List.countP_append, ff_up' lx, ff_down' (rep_len _ _), List.map_append, not_rep, not_rep, List.countP_append]
            show 0 + ((rep p false).countP id + (rep (u - p) true).countP id) ≤ b
            rw [cnt_rep_f, cnt_rep_t]; omega
        · refine alw_total ?_ ?_ (starts_one _ _)
          · rw [fp_down' lc, List.countP_append, List.countP_append, cnt_rep_f, cnt_rep_f, cnt_rep_t]; omega
          · rw [ff_down' lc]; omega
      · rename_i h2
        simp only [Option.some.injEq, Prod.mk.injEq] at h
        obtain ⟨rfl, rfl, rfl⟩ := h
        have hp : min d b ≤ d := by omega
        generalize hg : min d b = p at hp ⊢
        have lc : (rep (u - d) true ++ rep p false ++ rep (d - p) true).length = u := by simp only [List.length_append, rep_len]; omega
        have lx : (rep p false ++ rep (d - p) true).length = d := by simp only [List.length_append, rep_len]; omega
        refine ⟨by rw [lc]; omega, by rw [lc, rep_len], by rw [lc]; simp only [List.length_append, rep_len]; omega, ?_, ?_, ⟨[], rfl⟩, ⟨_, rfl⟩⟩
        · refine alw_total ?_ ?_ (starts_one _ _)
          · rw [fp_up' lc]; omega
          · rw [ff_up' lc, List.map_append, List.map_append, not_rep, not_rep, not_rep, List.countP_append, List.countP_append]
            show (rep (u - d) false).countP id + (rep p true).countP id + (rep (d - p) false).countP id ≤ b
            rw [cnt_rep_f, cnt_rep_f, cnt_rep_t]; omega
        · rw [List.append_assoc]
          refine alw_total ?_ ?_ (starts_two _ _ _ _)
          · rw [fp_app (by simp only [rep_len]), List.countP_append, fp_up' (rep_len _ _), fp_down' lx, List.countP_append, cnt_rep_f, cnt_rep_t]; omega
          · rw [ff_app (by simp only [rep_len]), List.countP_append, ff_down' lx, ff_up' (rep_len _ _), not_rep]
            show (rep (u - d) false).countP id + 0 ≤ b
            rw [cnt_rep_f]; omega
theorem cl_none {a b n u d : Nat} : cl a b n u d = none ↔ (a + b < n ∧ a + b < min u d) := by
  unfold cl
  split
  · simp; omega
  · split
    · simp; omega
    · split <;> simp <;> omega
def words : Nat → List (List Bool)
  | 0 => [[]]
  | m + 1 => (words m).map (· ++ [true]) ++ (words m).map (· ++ [false])
theorem words_len : ∀ (m : Nat), ∀ w ∈ words m, w.length = m
  | 0, w, h => by simp [words] at h; subst h; rfl
  | m + 1, w, h => by
    rw [words, List.mem_append, List.mem_map, List.mem_map] at h
    rcases h with ⟨x, hx, rfl⟩ | ⟨x, hx, rfl⟩ <;> simp [words_len m x hx]
theorem words_all : ∀ (m : Nat) (w : List Bool), w.length = m → w ∈ words m
  | 0, w, h => by rw [List.eq_nil_of_length_eq_zero h]; simp [words]
  | m + 1, w, h => by
    obtain ⟨x, y, rfl⟩ : ∃ x y, w = x ++ [y] := ⟨w.dropLast, w.getLast (by intro e; rw [e] at h; simp at h), (List.dropLast_concat_getLast _).symm⟩
    have hx : x ∈ words m := words_all m x (by simp at h; exact h)
    rw [words, List.mem_append, List.mem_map, List.mem_map]
    cases y
    · exact .inr ⟨x, hx, rfl⟩
    · exact .inl ⟨x, hx, rfl⟩
def hasS (a b n k : Nat) (c t : List Bool) : Bool := (words (c.length - t.length)).any fun x => alw a b n k (x ++ t) c
def hasC (a b n k u d : Nat) : Bool := (words (max u d)).any fun c => hasS a b n k c (rep u true) && hasS a b n k c (rep d false)
theorem hasC_cl {a b n k u d : Nat} (hn : 1 ≤ n) : hasC a b n k u d = (cl a b n u d).isSome := by
  cases h : cl a b n u d with
  | none =>
    obtain ⟨h1, h2⟩ := cl_none.1 h
    rw [Option.isSome_none, ← Bool.not_eq_true]
    intro hc
    unfold hasC at hc
    rw [List.any_eq_true] at hc
    obtain ⟨c, hm, hc⟩ := hc
    rw [Bool.and_eq_true] at hc
    obtain ⟨k1, k2⟩ := hc
    have lc := words_len _ _ hm
    unfold hasS at k1 k2
    rw [List.any_eq_true] at k1 k2
    obtain ⟨x1, m1, k1⟩ := k1
    obtain ⟨x2, m2, k2⟩ := k2
    have l1 := words_len _ _ m1
    have l2 := words_len _ _ m2
    rw [rep_len] at l1 l2
    unfold alw at k1 k2
    rw [Bool.and_eq_true] at k1 k2
    exact no_clash (u := u) (d := d) h1 (by omega) (by omega) (by omega) (by omega) k1.1 k2.1
  | some r =>
    obtain ⟨c, s1, s2⟩ := r
    have C := cl_ok (k := k) hn h
    obtain ⟨x1, e1⟩ := C.e1
    obtain ⟨x2, e2⟩ := C.e2
    have l1 := C.l1
    have l2 := C.l2
    rw [e1, List.length_append, rep_len] at l1
    rw [e2, List.length_append, rep_len] at l2
    rw [Option.isSome_some]
    unfold hasC
    rw [List.any_eq_true]
    refine ⟨c, words_all _ _ C.len, ?_⟩
    unfold hasS
    rw [Bool.and_eq_true, List.any_eq_true, List.any_eq_true]
    exact ⟨⟨x1, words_all _ _ (by rw [rep_len]; omega), by rw [← e1]; exact C.a1⟩, ⟨x2, words_all _ _ (by rw [rep_len]; omega), by rw [← e2]; exact C.a2⟩⟩
end Hi
namespace Hi
theorem starts_snoc (s : List Bool) (x : Bool) : starts (s ++ [x]) = starts s ++ if s ≠ [] ∧ s.getLastD false ≠ x then [s.length] else [] := by
  unfold starts
  rw [List.length_append, List.length_singleton, Nat.add_sub_cancel]
  by_cases h0 : s = []
  · subst h0; rfl
  · have hpos : 0 < s.length := List.length_pos_iff.mpr h0
    have e1 : List.range' 1 s.length = List.range' 1 (s.length - 1) ++ [s.length] := by
      have : s.length = (s.length - 1) + 1 := by omega
      rw [this, List.range'_concat]
      simp
      omega
    rw [e1, List.filter_append]
    congr 1
    · refine List.filter_congr fun i hi => ?_
      rw [List.mem_range'_1] at hi
      simp only [List.getD_eq_getElem?_getD]
      rw [List.getElem?_append_left (by omega), List.getElem?_append_left (by omega)]
    · have e2 : (s ++ [x]).getD s.length false = x := by simp [List.getD_eq_getElem?_getD]
      have e3 : (s ++ [x]).getD (s.length - 1) false = s.getLastD false := by
        simp only [List.getD_eq_getElem?_getD]
        rw [List.getElem?_append_left (by omega)]
        rw [List.getLastD_eq_getLast?, List.getLast?_eq_getElem?]
      rw [List.filter_cons, e2, e3]
      generalize s.getLastD false = y
      by_cases h : y = x
      · rw [if_neg (by simp [h]), if_neg (by simp [h])]; rfl
      · have hb : (x != y) = true := by simp; exact fun e => h e.symm
        rw [if_pos hb, if_pos ⟨h0, h⟩]; rfl
def gaps (k : Nat) (l : List Nat) : Bool := (List.range' 1 (l.length - 1)).all fun j => !decide (((l.getD j 0 : Nat) : Int) - ((l.getD (j - 1) 0 : Nat) : Int) < (k : Int))
theorem gaps_snoc {k : Nat} {l : List Nat} {m : Nat} (h : gaps k l = true) (hm : l = [] ∨ l.getLastD 0 + k ≤ m) : gaps k (l ++ [m]) = true := by
  unfold gaps at h ⊢
  rw [List.all_eq_true] at h ⊢
  intro j hj
  rw [List.length_append, List.length_singleton, List.mem_range'_1] at hj
  simp only [List.getD_eq_getElem?_getD]
  by_cases hl : j < l.length
  · have := h j (by rw [List.mem_range'_1]; omega)
    simp only [List.getD_eq_getElem?_getD] at this
    rw [List.getElem?_append_left (by omega), List.getElem?_append_left (by omega)]
    exact this
  · have e : j = l.length := by omega
    have hne : l ≠ [] := by intro z; rw [z] at hj; simp at hj; omega
    rcases hm with hm | hm
    · exact absurd hm hne
    · have e1 : (l ++ [m])[j]? = some m := by rw [e]; simp
      have e2 : (l ++ [m])[j - 1]? = l[l.length - 1]? := by rw [List.getElem?_append_left (by omega), e]
      have e3 : (l[l.length - 1]?).getD 0 = l.getLastD 0 := by rw [List.getLastD_eq_getLast?, List.getLast?_eq_getElem?]
      rw [e1, e2, e3]
      generalize l.getLastD 0 = y at hm
      simp
      omega
theorem cnt_drop {l : List Bool} {i j : Nat} (h : j ≤ i) : (l.drop i).countP id ≤ (l.drop j).countP id := by
  have : l.drop i = (l.drop j).drop (i - j) := by rw [List.drop_drop]; congr 1; omega
  rw [this]
  exact (List.drop_sublist _ _).countP_le
theorem wnd_snoc {l : List Bool} {p : Bool} {i n a : Nat} (hn : 1 ≤ n) (hi : i ≤ l.length) (h : ∀ i, i < l.length → (wnd l i n).countP id ≤ a) (hl : ((l ++ [p]).drop (l.length + 1 - n)).countP id ≤ a) : (wnd (l ++ [p]) i n).countP id ≤ a := by
  by_cases c : i + n ≤ l.length
  · have : wnd (l ++ [p]) i n = wnd l i n := by
      unfold wnd
      rw [List.drop_append_of_le_length (by omega), List.take_append_of_le_length (by rw [List.length_drop]; omega)]
    rw [this]
    exact h i (by omega)
  · have h1 : (wnd (l ++ [p]) i n).countP id ≤ ((l ++ [p]).drop i).countP id := (List.take_sublist _ _).countP_le
    exact Nat.le_trans h1 (Nat.le_trans (cnt_drop (by omega)) hl)
theorem last_quiet {l : List Bool} {n a : Nat} (hn : 1 ≤ n) (h : ∀ i, i < l.length → (wnd l i n).countP id ≤ a) : ((l ++ [false]).drop (l.length + 1 - n)).countP id ≤ a := by
  rw [List.drop_append_of_le_length (by omega), List.countP_append]
  have e0 : [false].countP id = 0 := rfl
  rw [e0, Nat.add_zero]
  by_cases c : l.length + 1 - n < l.length
  · have := h _ c
    unfold wnd at this
    rw [List.take_of_length_le (by rw [List.length_drop]; omega)] at this
    exact this
  · rw [List.drop_eq_nil_of_le (by omega)]
    exact Nat.zero_le _
structure Gr (a b n k : Nat) (s c : List Bool) (age : Nat) (cur : Bool) : Prop where
  len : s.length = c.length
  w : okW a b n s c = true
  st : gaps k (starts s) = true
  last : s ≠ [] → s.getLastD false = cur
  age : starts s = [] ∨ (starts s).getLastD 0 + age = s.length
theorem Gr.alw {a b n k : Nat} {s c : List Bool} {age : Nat} {cur : Bool} (h : Gr a b n k s c age cur) : alw a b n k s c = true := by
  unfold Hi.alw
  rw [h.w, Bool.true_and]
  exact h.st
theorem Gr.nil {a b n k age : Nat} {cur : Bool} : Gr a b n k [] [] age cur := ⟨rfl, rfl, rfl, fun h => absurd rfl h, .inl rfl⟩
theorem fp_snoc {s c : List Bool} (h : s.length = c.length) (x y : Bool) : fpL (s ++ [x]) (c ++ [y]) = fpL s c ++ [!x && y] := by rw [fp_app h]; rfl
theorem ff_snoc {s c : List Bool} (h : s.length = c.length) (x y : Bool) : ffL (s ++ [x]) (c ++ [y]) = ffL s c ++ [x && !y] := by rw [ff_app h]; rfl
theorem okW_each {a b n : Nat} {s c : List Bool} (h : okW a b n s c = true) : ∀ i, i < c.length → (wnd (fpL s c) i n).countP id ≤ a ∧ (wnd (ffL s c) i n).countP id ≤ b := by
  unfold okW letB at h
  rw [List.all_eq_true] at h
  intro i hi
  have := h i (List.mem_range.2 hi)
  rw [Bool.and_eq_true, decide_eq_true_eq, decide_eq_true_eq] at this
  exact this
theorem Gr.step {a b n k : Nat} {s c : List Bool} {age age' : Nat} {cur cur' e : Bool} (hn : 1 ≤ n) (h : Gr a b n k s c age cur) (hc : (cur' = cur ∧ age' = age) ∨ (s ≠ [] ∧ k ≤ age ∧ cur' = !cur ∧ age' = 0))
    (he : e = true → letB a b ((fpL s c ++ [!cur']).drop (s.length + 1 - n)) ((ffL s c ++ [cur']).drop (s.length + 1 - n)) = true) : Gr a b n k (s ++ [cur']) (c ++ [cur' == !e]) (age' + 1) cur' := by
  have hl := h.len
  have lp : (fpL s c).length = s.length := by unfold fpL; rw [List.length_zipWith]; omega
  have lf : (ffL s c).length = s.length := by unfold ffL; rw [List.length_zipWith]; omega
  have ev := okW_each h.w
  have ep : ∀ i, i < (fpL s c).length → (wnd (fpL s c) i n).countP id ≤ a := fun i hi => (ev i (by omega)).1
  have ef : ∀ i, i < (ffL s c).length → (wnd (ffL s c) i n).countP id ≤ b := fun i hi => (ev i (by omega)).2
  have key : ((fpL s c ++ [!cur' && (cur' == !e)]).drop ((fpL s c).length + 1 - n)).countP id ≤ a ∧ ((ffL s c ++ [cur' && !(cur' == !e)]).drop ((ffL s c).length + 1 - n)).countP id ≤ b := by
    rw [lp, lf]
    cases e with
    | false =>
      have e1 : (!cur' && (cur' == !false)) = false := by cases cur' <;> rfl
      have e2 : (cur' && !(cur' == !false)) = false := by cases cur' <;> rfl
      rw [e1, e2]
      have := last_quiet hn ep
      have := last_quiet hn ef
      rw [lp] at *
      rw [lf] at *
      exact ⟨by assumption, by assumption⟩
    | true =>
      have e1 : (!cur' && (cur' == !true)) = !cur' := by cases cur' <;> rfl
      have e2 : (cur' && !(cur' == !true)) = cur' := by cases cur' <;> rfl
      rw [e1, e2]
      have := he rfl
      unfold letB at this
      rw [Bool.and_eq_true, decide_eq_true_eq, decide_eq_true_eq] at this
      exact this
  refine ⟨by simp [hl], ?_, ?_, fun _ => by simp, ?_⟩
  · unfold okW letB
    rw [List.all_eq_true]
    intro i hi
    rw [List.mem_range, List.length_append, List.length_singleton] at hi
    rw [fp_snoc hl, ff_snoc hl, Bool.and_eq_true, decide_eq_true_eq, decide_eq_true_eq]
    exact ⟨wnd_snoc hn (by omega) ep key.1, wnd_snoc hn (by omega) ef key.2⟩
  · rw [starts_snoc]
    rcases hc with ⟨rfl, rfl⟩ | ⟨hs, hk, rfl, rfl⟩
    · rw [if_neg (fun q => q.2 (h.last q.1)), List.append_nil]
      exact h.st
    · rw [if_pos ⟨hs, by rw [h.last hs]; cases cur <;> simp⟩]
      refine gaps_snoc h.st ?_
      rcases h.age with q | q
      · exact .inl q
      · exact .inr (by omega)
  · rw [starts_snoc]
    rcases hc with ⟨rfl, rfl⟩ | ⟨hs, hk, rfl, rfl⟩
    · rw [if_neg (fun q => q.2 (h.last q.1)), List.append_nil]
      rcases h.age with q | q
      · exact .inl q
      · refine .inr ?_
        rw [List.length_append, List.length_singleton]
        omega
    · rw [if_pos ⟨hs, by rw [h.last hs]; cases cur <;> simp⟩]
      refine .inr ?_
      simp
end Hi
namespace Sr
open PySem hiding start
open L2
theorem whl_iter {c : M Bool} {b : M Fl} {A : Type} (f : A → Option A) (R : A → En → Prop) (hno : ∀ a e, R a e → f a = none → c e = .ok false e) (hgo : ∀ a a' e, R a e → f a = some a' → c e = .ok true e ∧ ∃ e', b e = .ok .nx e' ∧ R a' e') :
    ∀ (n m : Nat) (a : A) (e : En), n < m → R a e → f (Tb.iter f n a) = none → ∃ e', whl c b m e = .ok .nx e' ∧ R (Tb.iter f n a) e'
  | n, 0, a, e, h, _, _ => by omega
  | 0, m + 1, a, e, _, r, hd => by
    unfold Tb.iter at hd ⊢
    refine ⟨e, ?_, r⟩
    unfold whl bnd
    rw [hno a e r hd]
    rfl
  | n + 1, m + 1, a, e, h, r, hd => by
    unfold Tb.iter at hd ⊢
    cases q : f a with
    | none =>
      simp only [q] at hd ⊢
      refine ⟨e, ?_, r⟩
      unfold whl bnd
      rw [hno a e r q]
      rfl
    | some a' =>
      simp only [q] at hd ⊢
      obtain ⟨h1, e1, h2, r1⟩ := hgo a a' e r q
      obtain ⟨e2, h3, r2⟩ := whl_iter f R hno hgo n m a' e1 (by omega) r1 hd
      refine ⟨e2, ?_, r2⟩
      unfold whl bnd
      rw [h1]
      show lp b (whl c b m) e = _
      rw [lp_nx h2]; exact h3
theorem lcL_map {B : Type} {w : D → M Unit} {t : M Bool} {el : M D} {vs : List Nat} (g h : B → D) (E : En) : ∀ (xs : List B) (acc : List D), acc.length + xs.length ≤ 16777216 →
    (∀ x ∈ xs, ∃ e1 e2 e3, w (g x) E = .ok () e1 ∧ t e1 = .ok true e2 ∧ el e2 = .ok (h x) e3 ∧ wipE vs e3 = E) → lcL w t el vs (xs.map g) acc E = .ok (acc ++ xs.map h) E
  | [], acc, _, _ => by simp [lcL, Sr.ret]
  | x :: xs, acc, hl, hs => by
    obtain ⟨e1, e2, e3, h1, h2, h3, h4⟩ := hs x (by simp)
    rw [List.length_cons] at hl
    have ih := lcL_map g h E xs (acc ++ [h x]) (by simp; omega) fun y hy => hs y (by simp [hy])
    have hz : acc.length < sizeLine := by
      have e : sizeLine = 16777216 := by decide
      omega
    rw [List.map_cons, lcL, bnd_ok h1, bnd_ok h2, if_pos rfl, bnd_ok h3, if_pos hz]
    show lcL w t el vs (List.map g xs) (acc ++ [h x]) (wipE vs e3) = _
    rw [h4, ih]
    simp
theorem mLc_map {B : Type} {m : M (List D)} {w : D → M Unit} {t : M Bool} {el : M D} {vs : List Nat} {e e1 : En} {xs : List B} (g h : B → D) (hm : m e = .ok (xs.map g) e1) (hl : xs.length ≤ 16777216)
    (hs : ∀ x ∈ xs, ∃ a b c, w (g x) (wipE vs e1) = .ok () a ∧ t a = .ok true b ∧ el b = .ok (h x) c ∧ wipE vs c = wipE vs e1) : mLc vs m w t el e = .ok (.lst (xs.map h)) (rst vs e1 (wipE vs e1)) := by
  unfold mLc
  rw [bnd_ok hm]
  have := lcL_map g h (wipE vs e1) xs [] (by simpa using hl) hs
  simp only [this, List.nil_append]
section
variable {A κ : Type} [BEq A] [LawfulBEq A] [DecidableEq A] [DecidableEq κ]
def dixn (enc : A → κ) (n : Nat) (l : List A) : List (κ × D) := (l.zipIdx n).map fun q => (enc q.1, .int (q.2 : Nat))
abbrev dix (enc : A → κ) (l : List A) : List (κ × D) := dixn enc 0 l
def kn (enc : A → κ) (l : List A) : List (κ × D) := l.map fun x => (enc x, .bl true)
variable {enc : A → κ} (inj : ∀ x y, enc x = enc y → x = y)
include inj
theorem dixn_val (x : A) : ∀ (l : List A) (n : Nat), valD (dixn enc n l) (enc x) = if x ∈ l then some (.int ((n + l.idxOf x : Nat) : Int)) else none
  | [], n => by simp [dixn, valD]
  | y :: l, n => by
    have ih := dixn_val x l (n + 1)
    unfold dixn valD at ih ⊢
    rw [List.zipIdx_cons, List.map_cons, List.find?_cons]
    by_cases h : y = x
    · subst h
      simp
    · have h2 : ¬ enc y = enc x := fun z => h (inj _ _ z)
      have h3 : ¬ x = y := fun z => h z.symm
      simp only [h2, decide_false, ih, List.mem_cons, h3, false_or]
      split
      · have hi : (y :: l).idxOf x = l.idxOf x + 1 := by rw [List.idxOf_cons, show (y == x) = false from beq_eq_false_iff_ne.mpr h]; rfl
        rw [hi]
        congr 3
        omega
      · rfl
theorem dix_val {x : A} {l : List A} : valD (dix enc l) (enc x) = if x ∈ l then some (.int ((l.idxOf x : Nat) : Int)) else none := by
  have := dixn_val inj x l 0
  simpa using this
theorem dixn_any (x : A) : ∀ (l : List A) (n : Nat), ((dixn enc n l).any fun kv => decide (kv.1 = enc x)) = decide (x ∈ l)
  | [], n => by simp [dixn]
  | y :: l, n => by
    have ih := dixn_any x l (n + 1)
    unfold dixn at ih ⊢
    rw [List.zipIdx_cons, List.map_cons, List.any_cons, ih]
    by_cases h : y = x
    · subst h; simp
    · have h2 : ¬ enc y = enc x := fun z => h (inj _ _ z)
      have h3 : ¬ x = y := fun z => h z.symm
      simp [h2, h3]
theorem dix_put {x : A} {l : List A} (h : x ∉ l) : putG (dix enc l) (enc x) (.int (l.length : Nat)) = dix enc (l ++ [x]) := by
  unfold putG
  rw [dixn_any inj x l 0]
  simp only [h, decide_false, Bool.false_eq_true, if_false]
  unfold dix dixn
  rw [List.zipIdx_append]
  simp
theorem kn_val (x : A) : ∀ (l : List A), valD (kn enc l) (enc x) = if x ∈ l then some (.bl true) else none
  | [] => by simp [kn, valD]
  | y :: l => by
    have ih := kn_val x l
    unfold kn valD at ih ⊢
    rw [List.map_cons, List.find?_cons]
    by_cases h : y = x
    · subst h; simp
    · have h2 : ¬ enc y = enc x := fun z => h (inj _ _ z)
      have h3 : ¬ x = y := fun z => h z.symm
      simp only [h2, decide_false, ih, List.mem_cons, h3, false_or]
theorem kn_put {x : A} {l : List A} (h : x ∉ l) : putG (kn enc l) (enc x) (.bl true) = kn enc (l ++ [x]) := by
  have ha : ((kn enc l).any fun kv => decide (kv.1 = enc x)) = false := by
    rw [List.any_eq_false]
    intro kv hkv
    unfold kn at hkv
    rw [List.mem_map] at hkv
    obtain ⟨y, hy, rfl⟩ := hkv
    simp only [decide_eq_true_eq]
    intro z
    exact h (inj _ _ z ▸ hy)
  unfold putG
  rw [ha]
  simp [kn]
omit inj in
theorem dix_len {l : List A} : (dix enc l).length = l.length := by unfold dix dixn; simp
omit inj in
theorem kn_len {l : List A} : (kn enc l).length = l.length := by unfold kn; simp
end
abbrev encS (b : Bool) : D := .str (if b then "U" else "D")
def encR (r : Tb.Row) : D := .tup [encS r.1, .int (r.2.1 : Nat), .int (r.2.2 : Nat)]
def encT (t : Tb.Tab) : D := .tup (t.map encR)
def nats (l : List Nat) : List D := l.map fun x => .int (x : Nat)
def ik (x : Nat) : Key := .inl (x : Int)
theorem ik_inj : ∀ x y, ik x = ik y → x = y := fun x y h => by
  unfold ik at h
  have := Sum.inl.inj h
  omega
def ik3 (k : Tb.K3) : List Key := [ik k.1, ik k.2.1, ik k.2.2]
theorem ik3_inj : ∀ x y, ik3 x = ik3 y → x = y := fun x y h => by
  unfold ik3 at h
  simp only [List.cons.injEq, and_true] at h
  obtain ⟨h1, h2, h3⟩ := h
  have := ik_inj _ _ h1
  have := ik_inj _ _ h2
  have := ik_inj _ _ h3
  obtain ⟨a, b, c⟩ := x
  obtain ⟨a', b', c'⟩ := y
  simp_all
theorem atI_nat {A : Type} {l : List A} {i : Nat} (h : i < l.length) : L2.atI l (i : Int) = some l[i] := by
  simp [L2.atI, L2.ixN, h]
theorem nats_len (l : List Nat) : (nats l).length = l.length := by unfold nats; simp
theorem ix_nats {l : List Nat} {i : Nat} (h : i < l.length) : gIx (.lst (nats l)) (.int (i : Nat)) = some (.int (l.getD i 0 : Nat)) := by
  simp only [gIx]
  rw [atI_nat (by rw [nats_len]; exact h)]
  simp [nats, List.getD_eq_getElem?_getD, h]
theorem ix_tab {t : Tb.Tab} {i : Nat} (h : i < t.length) : gIx (encT t) (.int (i : Nat)) = some (encR (Tb.row t i)) := by
  simp only [encT, gIx]
  rw [atI_nat (by simp; exact h), Tb.row_eq h]
  simp
theorem nats_ints (l : List Nat) : dInts (nats l) = some (l.map fun (x : Nat) => (x : Int)) := by
  induction l with
  | nil => rfl
  | cons x l ih =>
    show (dInts (nats l)).map _ = _
    rw [ih]; rfl
theorem firstMet_fold (ns : List Int) : ∀ n, n ≤ ns.length → PyProof.Rows.firstMet (fun i => ns.getD i 0) n = (ns.take n).foldl PyProof.Rows.step_dedup []
  | 0, _ => by simp [PyProof.Rows.firstMet]
  | n + 1, h => by
    rw [PyProof.Rows.firstMet_succ, firstMet_fold ns n (by omega)]
    have e : ns.take (n + 1) = ns.take n ++ [ns[n]'(by omega)] := by rw [List.take_succ_eq_append_getElem]
    rw [e, List.foldl_append]
    simp [List.getD_eq_getElem?_getD, show n < ns.length by omega]
theorem distinct_nats (l : List Nat) : distinct (l.map fun (x : Nat) => (x : Int)) = Tb.dist l := by
  unfold distinct Tb.dist Tb.ded
  rw [firstMet_fold _ _ (Nat.le_refl _), List.take_length]
  have H : ∀ (l acc : List Nat), (l.map fun (x : Nat) => (x : Int)).foldl PyProof.Rows.step_dedup (acc.map fun (x : Nat) => (x : Int)) = (l.foldl Tb.addN acc).map fun (x : Nat) => (x : Int) := by
    intro l
    induction l with
    | nil => intro acc; rfl
    | cons x l ih =>
      intro acc
      rw [List.map_cons, List.foldl_cons, List.foldl_cons, ← ih]
      congr 1
      unfold PyProof.Rows.step_dedup Tb.addN
      have : ((acc.map fun (x : Nat) => (x : Int)).any (· == (x : Int))) = decide (x ∈ acc) := by
        rw [Bool.eq_iff_iff]
        simp only [List.any_eq_true, List.mem_map, beq_iff_eq, decide_eq_true_eq]
        constructor
        · rintro ⟨z, ⟨y, hy, rfl⟩, e⟩
          have : y = x := by omega
          exact this ▸ hy
        · intro hx
          exact ⟨x, ⟨x, hx, rfl⟩, rfl⟩
      rw [this]
      by_cases h : x ∈ acc <;> simp [h]
  have := H l []
  rw [List.map_nil] at this
  rw [this, List.length_map]
theorem lenSet_nats {l : List Nat} (h : l.length ≤ 4000) : gLenSet (.lst (nats l)) = some (.int (Tb.dist l : Nat)) := by
  simp only [gLenSet, nats_ints]
  rw [if_pos (by simpa using h), distinct_nats]
theorem enumL_tab (t : Tb.Tab) : enumL (t.map encR) = t.zipIdx.map fun q => .tup [.int (q.2 : Nat), encR q.1] := by
  unfold enumL
  rw [List.zipIdx_map, List.map_map]; rfl
theorem lcL_inv {w : D → M Unit} {t : M Bool} {el : M D} {vs : List Nat} (I : En → Prop) (P : D → Prop) : ∀ (ds acc : List D) (e : En), acc.length + ds.length ≤ 16777216 → (∀ d ∈ ds, ∀ e, I e → ∃ e1 e2 e3 y, w d e = .ok () e1 ∧ t e1 = .ok true e2 ∧ el e2 = .ok y e3 ∧ P y ∧ I (wipE vs e3)) → I e →
    ∃ ys e', lcL w t el vs ds acc e = .ok (acc ++ ys) e' ∧ ys.length = ds.length ∧ (∀ y ∈ ys, P y) ∧ I e'
  | [], acc, e, _, _, h => ⟨[], e, by simp [lcL, Sr.ret], rfl, by simp, h⟩
  | d :: ds, acc, e, hl, hs, h => by
    obtain ⟨e1, e2, e3, y, h1, h2, h3, h4, h5⟩ := hs d (by simp) e h
    rw [List.length_cons] at hl
    obtain ⟨ys, e', g1, g2, g3, g4⟩ := lcL_inv I P ds (acc ++ [y]) (wipE vs e3) (by simp; omega) (fun d hd => hs d (by simp [hd])) h5
    have hz : acc.length < sizeLine := by
      have e : sizeLine = 16777216 := by decide
      omega
    refine ⟨y :: ys, e', ?_, by simp [g2], fun z hz => ?_, g4⟩
    · rw [lcL, bnd_ok h1, bnd_ok h2, if_pos rfl, bnd_ok h3, if_pos hz]
      show lcL w t el vs ds (acc ++ [y]) (wipE vs e3) = _
      rw [g1]; simp
    · rcases List.mem_cons.mp hz with rfl | hz
      · exact h4
      · exact g3 z hz
def chk (w : List Bool) : Str := ⟨(w.map fun b => if b then 43 else 45).toArray⟩
def sts (w : List Bool) : Str := ⟨(w.map fun b => if b then 85 else 68).toArray⟩
theorem plus_eq : ("+" : Str) = ⟨#[43]⟩ := by decide
theorem minus_eq : ("-" : Str) = ⟨#[45]⟩ := by decide
theorem up_eq : ("U" : Str) = ⟨#[85]⟩ := by decide
theorem down_eq : ("D" : Str) = ⟨#[68]⟩ := by decide
theorem chk_len (w : List Bool) : (chk w).length = w.length := by unfold chk Str.length; simp
theorem sts_len (w : List Bool) : (sts w).length = w.length := by unfold sts Str.length; simp
theorem sts_app (u w : List Bool) : sts u ++ sts w = sts (u ++ w) := by
  show Str.append _ _ = _
  unfold Str.append sts
  simp
theorem chk_app (u w : List Bool) : chk u ++ chk w = chk (u ++ w) := by
  show Str.append _ _ = _
  unfold Str.append chk
  simp
theorem sts_one (b : Bool) : (if b then ("U" : Str) else ("D" : Str)) = sts [b] := by cases b <;> decide
theorem chk_one (b : Bool) : (if b then ("+" : Str) else ("-" : Str)) = chk [b] := by cases b <;> decide
theorem items_chk (w : List Bool) : ((chk w).cps.toList.map fun c => D.str ⟨#[c]⟩) = w.map fun b => D.str (chk [b]) := by
  unfold chk
  simp only [List.map_map]
  refine List.map_congr_left fun b _ => ?_
  cases b <;> rfl
theorem items_sts (w : List Bool) : ((sts w).cps.toList.map fun c => D.str ⟨#[c]⟩) = w.map fun b => D.str (sts [b]) := by
  unfold sts
  simp only [List.map_map]
  refine List.map_congr_left fun b _ => ?_
  cases b <;> rfl
theorem dStrs_map {A : Type} (g : A → Str) : ∀ l : List A, dStrs (l.map fun x => .str (g x)) = some (l.map g)
  | [] => rfl
  | x :: l => by rw [List.map_cons, dStrs, dStrs_map g l]; rfl
theorem join_sts (l : List Bool) : Txt.join ("" : Str) (l.map fun b => sts [b]) = sts l := by
  have e0 : ("" : Str) = ⟨#[]⟩ := by decide
  rw [e0]
  unfold Txt.join Builtin.Str.glued
  cases l with
  | nil => rfl
  | cons b l =>
    have H : ∀ (l u : List Bool), ((l.map fun b => sts [b]).foldl (fun acc p => acc ++ (#[] : Array Nat) ++ p.cps) (sts u).cps) = (sts (u ++ l)).cps := by
      intro l
      induction l with
      | nil => intro u; simp
      | cons c l ih =>
        intro u
        rw [List.map_cons, List.foldl_cons]
        have e : (sts u).cps ++ (#[] : Array Nat) ++ (sts [c]).cps = (sts (u ++ [c])).cps := by unfold sts; simp
        rw [e, ih]; simp
    simp only [List.map_cons, List.drop_succ_cons, List.drop_zero, List.headD_cons]
    rw [H l [b]]; rfl
theorem chk_eq_plus (b : Bool) : decide (chk [b] = ("+" : Str)) = b := by cases b <;> decide
def trace (t : Tb.Tab) (i : Nat) : List Bool → List Bool
  | [] => []
  | b :: w => (Tb.row t (Tb.nx t i b)).1 :: trace t (Tb.nx t i b) w
def told (t : Tb.Tab) (i : Nat) (w : List Bool) : List Bool := (Tb.row t i).1 :: trace t i w
theorem trace_len (t : Tb.Tab) : ∀ (w : List Bool) (i : Nat), (trace t i w).length = w.length
  | [], i => rfl
  | b :: w, i => by simp [trace, trace_len t w]
theorem trace_small {t : Tb.Tab} {s : Nat} (ok : Tb.Ok t) (hs : s < t.length) : ∀ (w : List Bool) {x : Nat}, x ∈ Tb.reach t s → trace (Tb.small t s) (Tb.ix t s x) w = trace t x w
  | [], x, hx => rfl
  | b :: w, x, hx => by
    have hc := (Tb.reach_spec ok hs).cl x hx b
    unfold trace
    rw [Tb.ix_nx ok hs hx b, trace_small ok hs w hc, Tb.small_row ok hs hc]
theorem told_small {t : Tb.Tab} {s : Nat} (ok : Tb.Ok t) (hs : s < t.length) (w : List Bool) : told (Tb.small t s) 0 w = told t s w := by
  have hm := Tb.start_mem ok hs
  have h := trace_small ok hs w hm
  have h2 := Tb.small_row ok hs hm
  rw [Tb.ix_start ok hs] at h h2
  unfold told
  rw [h, h2]
end Sr
namespace Lw
open PySem hiding start
open PySem.Spec L2 Sr
open PyProof.Rows hiding St
def top (i : Nat) : Stmt := PySem.Challenge.pw_statusrules_k18_histories_allowed.main.body.getD i (.Pass ⟨0, 0, 0, 0⟩)
def isl_int : List (Str × Bool) := [("Limits", false)]
def isB_int : D → Option Bool := gIsi tInt fun c => isl_int.lookup c
def isl_bool : List (Str × Bool) := [("Limits", false)]
def isB_bool : D → Option Bool := gIsi (tOnly .bool) fun c => isl_bool.lookup c
def isl_tuple : List (Str × Bool) := [("Limits", false)]
def isB_tuple : D → Option Bool := gIsi (tOnly .tuple) fun c => isl_tuple.lookup c
def isl_str : List (Str × Bool) := [("Limits", false)]
def isB_str : D → Option Bool := gIsi (tOnly .str) fun c => isl_str.lookup c
def isl_Limits : List (Str × Bool) := [("Limits", true)]
def isC_Limits : D → Option Bool := gIsi (fun _ => some false) fun c => isl_Limits.lookup c
def ctl_LimitsError : List (Str × Bool) := [("NumberError", false), ("LimitsError", true)]
def ct_LimitsError : Str → Option Bool := fun y => ctl_LimitsError.lookup y
def isE_ValueError : List (Str × Bool) := [("NumberError", true), ("LimitsError", true)]
def isE_NumberError : List (Str × Bool) := [("NumberError", true), ("LimitsError", false)]
abbrev st__law_pen : Stmt := top 27
def b__law_pen : M Fl :=
  (sRetO (mLst (mCons (mCal gMax2 (mCons (ret (.int 0)) (mCons (m2 gSub (mN 0) (m2 gPow (ret (.int 10)) (ret (.int 18)))) mNil))) (mCons (m2 gAdd (m2 gMod (mCal gInt1 (mCons (mN 0) mNil)) (ret (.int 2147483629))) (ret (.int 1))) (mCons (ret (.int 0)) mNil)))))
def f__law_pen : Fnc := mkF0 1 true b__law_pen
abbrev st__law_cell_at : Stmt := top 26
def b__law_cell_at : M Fl :=
  (sq (sIf (mT (m2 gLt (mN 1) (m1 gLen (mN 0)))) (sRet (m2 gIx (mN 0) (mN 1))) skp)
    (sRet (ret (.int 0))))
def f__law_cell_at : Fnc := mkF0 2 false b__law_cell_at
abbrev st__law_draw : Stmt := top 28
def b__law_draw : M Fl :=
  (sq (sIf (mT (m2 gGt (m2b gIx (mNB 0) (ret (.int 0))) (ret (.int 0)))) (sq (sSet 2 (m2 gMod (mCal gInt1 (mCons (m2b gIx (mNB 0) (ret (.int 0))) mNil)) (mN 1)))
    (sq (sPutI 0 (ret (.int 0)) (m2 gDiv (m2b gIx (mNB 0) (ret (.int 0))) (mN 1)))
    (sRet (mN 2)))) skp)
    (sq (sPutI 0 (ret (.int 2)) (m2 gAdd (m2b gIx (mNB 0) (ret (.int 2))) (ret (.int 1))))
    (sq (sPutI 0 (ret (.int 1)) (m2 gMod (mCal gInt1 (mCons (m2 gAdd (m2 gAdd (m2 gMul (m2b gIx (mNB 0) (ret (.int 1))) (ret (.int 48271))) (m2 gMul (ret (.int 1009)) (m2b gIx (mNB 0) (ret (.int 2))))) (ret (.int 7))) mNil)) (ret (.int 2147483647))))
    (sq (sSet 3 (m2 gMod (mCal gInt1 (mCons (m2 gAdd (m2 gAdd (m2 gMul (m2b gIx (mNB 0) (ret (.int 1))) (m2b gIx (mNB 0) (ret (.int 1)))) (m2 gMul (ret (.int 69621)) (m2b gIx (mNB 0) (ret (.int 1))))) (ret (.int 11))) mNil)) (ret (.int 2147483629))))
    (sq (sSet 3 (m2 gMod (mCal gInt1 (mCons (m2 gAdd (m2 gMul (mN 3) (mN 3)) (m2 gMul (ret (.int 40014)) (mN 3))) mNil)) (ret (.int 2147483587))))
    (sRet (m2 gMod (mCal gInt1 (mCons (m2 gDiv (mN 3) (ret (.int 16))) mNil)) (mN 1))))))))
def f__law_draw : Fnc := mkF1 4 false b__law_draw
abbrev st__law_numbers : Stmt := top 29
def b__law_numbers : M Fl :=
  (sq (sSet 2 (m2 gAdd (ret (.int 1)) (mC1 f__law_draw 0 [] (mCons (mN 1) mNil))))
    (sq (sSet 3 (mCal gMin2 (mCons (ret (.int 6)) (mCons (m2 gAdd (mN 2) (ret (.int 2))) mNil))))
    (sRet (mTup (mCons (mC1 f__law_draw 0 [] (mCons (mN 3) mNil)) (mCons (mC1 f__law_draw 0 [] (mCons (mN 3) mNil)) (mCons (mN 2) (mCons (m2 gAdd (ret (.int 1)) (mC1 f__law_draw 0 [] (mCons (ret (.int 4)) mNil))) mNil))))))))
def f__law_numbers : Fnc := mkF1 4 false b__law_numbers
abbrev st_is_integer : Stmt := top 9
def b_is_integer : M Fl :=
  (sRet (mAndV (mIsi isB_int (mN 0)) (mNotV (mIsi isB_bool (mN 0)))))
def f_is_integer : Fnc := mkF0 1 false b_is_integer
abbrev st_is_between : Stmt := top 10
def b_is_between : M Fl :=
  (sRet (mAndV (mC0 f_is_integer [] (mCons (mN 0) mNil)) (mChain gLe gLe (mN 1) (mN 0) (mN 2))))
def f_is_between : Fnc := mkF0 3 false b_is_between
abbrev st_LimitsU_initU : Stmt := inClass (top 19) 0
def l_LimitsU_initU_1 : M Fl :=
  (sIf (mNot (mT (mC0 f_is_between [] (mCons (mN 6) (mCons (mN 7) (mCons (mN 8) mNil)))))) (sRaise "NumberError") skp)
def b_LimitsU_initU : M Fl :=
  (sq (sSet 5 (mTup (mCons (mTup (mCons (mN 1) (mCons (ret (.int 0)) (mCons (ret (.int 5)) mNil)))) (mCons (mTup (mCons (mN 2) (mCons (ret (.int 0)) (mCons (ret (.int 5)) mNil)))) (mCons (mTup (mCons (mN 3) (mCons (ret (.int 1)) (mCons (ret (.int 5)) mNil)))) mNil)))))
    (sq (sFor (mItems (m2 gAdd (mN 5) (mTup (mCons (mTup (mCons (mN 4) (mCons (ret (.int 1)) (mCons (ret (.int 4)) mNil)))) mNil)))) (gT 3 (gsC (gN 6) (gsC (gN 7) (gsC (gN 8) gsN)))) l_LimitsU_initU_1)
    (sq (sAsg (mTup (mCons (mN 1) (mCons (mN 2) mNil))) (gT 2 (gsC (gA 0 "Limits" "most_passes") (gsC (gA 0 "Limits" "most_fails") gsN))))
    (sAsg (mTup (mCons (mN 3) (mCons (mN 4) mNil))) (gT 2 (gsC (gA 0 "Limits" "most_checks") (gsC (gA 0 "Limits" "least_stay") gsN)))))))
def f_LimitsU_initU : Fnc := mkF1 9 false b_LimitsU_initU
abbrev st__law_limits : Stmt := top 30
def b__law_limits : M Fl :=
  (sRet (mMk "Limits" f_LimitsU_initU (fun ds es => ds ++ es) (mCons (m2 gIx (mN 0) (ret (.int 0))) (mCons (m2 gIx (mN 0) (ret (.int 1))) (mCons (m2 gIx (mN 0) (ret (.int 2))) mNil))) (mCons (m2 gIx (mN 0) (ret (.int 3))) mNil)))
def f__law_limits : Fnc := mkF0 1 false b__law_limits
abbrev st__law_let : Stmt := top 31
def b__law_let : M Fl :=
  (sRet (mAndV (m2 gLe (mMt gCount (mN 1) (mCons (ret (.str "p")) mNil)) (m2 gIx (mN 0) (ret (.int 0)))) (m2 gLe (mMt gCount (mN 1) (mCons (ret (.str "f")) mNil)) (m2 gIx (mN 0) (ret (.int 1))))))
def f__law_let : Fnc := mkF0 2 false b__law_let
abbrev st__law_history : Stmt := top 32
def l__law_history_1 : M Fl :=
  (sq (sIf (mAnd (mT (m2 gGt (mN 9) (ret (.int 0)))) (mAnd (mT (m2 gGe (mN 6) (m2 gIx (mN 1) (ret (.int 3))))) (mT (m2 gEq (mC1 f__law_draw 0 [] (mCons (ret (.int 3)) mNil)) (ret (.int 0)))))) (sPar (mCons (mIf (mT (m2 gEq (mN 8) (ret (.str "U")))) (ret (.str "D")) (ret (.str "U"))) (mCons (ret (.int 0)) mNil)) (gsC (gN 8) (gsC (gN 6) gsN))) skp)
    (sq (sSet 10 (mIf (mT (m2 gEq (mN 8) (ret (.str "U")))) (ret (.str "f")) (ret (.str "p"))))
    (sq (sSet 11 (mSl (m2 gAdd (mN 5) (mN 10)) (mPart (m1 gNeg (m2 gIx (mN 1) (ret (.int 2))))) mNoP))
    (sq (sIf (mOr (mT (m2 gGt (mC1 f__law_draw 0 [] (mCons (m2 gAdd (ret (.int 2)) (m2 gMul (ret (.int 2)) (mN 7))) mNil)) (ret (.int 0)))) (mNot (mT (mC0 f__law_let [] (mCons (mN 1) (mCons (mN 11) mNil)))))) (sSet 10 (ret (.str "."))) skp)
    (sq (sSet 12 (m2 gEq (m2 gEq (mN 8) (ret (.str "U"))) (m2 gEq (mN 10) (ret (.str ".")))))
    (sq (sSet 4 (m2 gAdd (mN 4) (mIf (mT (mN 12)) (ret (.str "+")) (ret (.str "-")))))
    (sPar (mCons (m2 gAdd (mN 3) (mN 8)) (mCons (m2 gAdd (mN 5) (mN 10)) (mCons (m2 gAdd (mN 6) (ret (.int 1))) mNil))) (gsC (gN 3) (gsC (gN 5) (gsC (gN 6) gsN))))))))))
def b__law_history : M Fl :=
  (sq (sAsg (mTup (mCons (ret (.str "")) (mCons (ret (.str "")) (mCons (ret (.str "")) mNil)))) (gT 3 (gsC (gN 3) (gsC (gN 4) (gsC (gN 5) gsN)))))
    (sq (sPar (mCons (m2 gIx (mN 1) (ret (.int 3))) (mCons (mC1 f__law_draw 0 [] (mCons (ret (.int 2)) mNil)) (mCons (m2 gIx (ret (.str "UD")) (mC1 f__law_draw 0 [] (mCons (ret (.int 2)) mNil))) mNil))) (gsC (gN 6) (gsC (gN 7) (gsC (gN 8) gsN))))
    (sq (sFor (mRng (mCons (mN 2) mNil)) (gN 9) l__law_history_1)
    (sRet (mTup (mCons (mN 3) (mCons (mN 4) mNil)))))))
def f__law_history : Fnc := mkF1 13 false b__law_history
abbrev st__law_checks : Stmt := top 35
def l__law_checks_1 : M Fl :=
  (sIf (mAnd (mT (m2 gGt (mN 3) (ret (.int 0)))) (mAnd (mT (m2 gNe (mN 4) (ret (.str "")))) (mT (m2 gGt (mC1 f__law_draw 0 [] (mCons (m2 gAdd (ret (.int 2)) (mN 3)) mNil)) (ret (.int 0)))))) (sSet 4 (m2 gAdd (mN 4) (m2 gIx (mN 4) (m1 gNeg (ret (.int 1)))))) (sSet 4 (m2 gAdd (mN 4) (m2 gIx (ret (.str "+-")) (mC1 f__law_draw 0 [] (mCons (ret (.int 2)) mNil))))))
def b__law_checks : M Fl :=
  (sq (sPar (mCons (mC1 f__law_draw 0 [] (mCons (m2 gAdd (mN 1) (ret (.int 1))) mNil)) (mCons (mC1 f__law_draw 0 [] (mCons (ret (.int 3)) mNil)) (mCons (ret (.str "")) mNil))) (gsC (gN 2) (gsC (gN 3) (gsC (gN 4) gsN))))
    (sq (sFor (mRng (mCons (mN 2) mNil)) (gN 5) l__law_checks_1)
    (sRet (mN 4))))
def f__law_checks : Fnc := mkF1 6 false b__law_checks
abbrev st__law_pick : Stmt := top 36
def b__law_pick : M Fl :=
  (sRet (m2 gIx (mN 1) (mC1 f__law_draw 0 [] (mCons (m1 gLen (mN 1)) mNil))))
def f__law_pick : Fnc := mkF1 2 false b__law_pick
abbrev st__law_odd : Stmt := top 37
def b__law_odd : M Fl :=
  (sq (sSet 1 (mLst (mCons (ret .non) (mCons (ret (.bl true)) (mCons (ret (.bl false)) (mCons (m1 gNeg (ret (.int 1))) (mCons (ret (.int 0)) (mCons (ret (.int 1)) (mCons (ret (.int 2)) (mCons (ret (.int 7)) (mCons (m2 gPow (ret (.int 10)) (ret (.int 11))) (mCons (ret (.str "")) (mCons (ret (.str "U")) (mCons (ret (.str "D")) (mCons (ret (.str "+")) (mCons (ret (.str "-")) (mCons (ret (.str "UD")) (mCons (ret (.str "+-")) (mCons (mTup mNil) (mCons (mLst mNil) (mCons (ret (.dk [])) (mCons (mTup (mCons (ret (.int 0)) mNil)) (mCons (mLst (mCons (ret (.int 0)) mNil)) mNil)))))))))))))))))))))))
    (sq (sSet 1 (m2 gAdd (mN 1) (mLst (mCons (mDisp [((ret (.int 0)), (ret (.int 1)))]) (mCons (mTup (mCons (ret (.str "U")) (mCons (ret (.int 0)) (mCons (ret (.int 0)) mNil)))) (mCons (mTup (mCons (mTup (mCons (ret (.str "U")) (mCons (ret (.int 0)) (mCons (ret (.int 0)) mNil)))) mNil)) (mCons (mLst (mCons (mTup (mCons (ret (.str "U")) (mCons (ret (.int 0)) (mCons (ret (.int 0)) mNil)))) mNil)) (mCons (mTup (mCons (ret (.str "U")) (mCons (ret (.str "+")) mNil))) (mCons (mTup (mCons (ret (.str "")) (mCons (ret (.str "")) mNil))) (mCons (ret (.str "00U1")) (mCons (mTup (mCons (ret .non) mNil)) (mCons (ret (.str "?")) mNil))))))))))))
    (sRet (mC1 f__law_pick 0 [] (mCons (mN 1) mNil)))))
def f__law_odd : Fnc := mkF1 2 false b__law_odd
abbrev st__law_near : Stmt := top 40
def t__law_near_1 : M Bool :=
  mYes
def e__law_near_1 : M D :=
  (mIf (mT (m2 gEq (mN 9) (ret (.str "U")))) (ret (.str "D")) (ret (.str "U")))
def b__law_near : M Fl :=
  (sq (sAsg (mN 1) (gT 2 (gsC (gN 2) (gsC (gN 3) gsN))))
    (sq (sSet 4 (mC1 f__law_draw 0 [] (mCons (m2 gAdd (m1 gLen (mN 2)) (ret (.int 1))) mNil)))
    (sq (sPar (mCons (mC1 f__law_pick 0 [] (mCons (mLst (mCons (ret (.str "U")) (mCons (ret (.str "D")) (mCons (ret (.str "?")) (mCons (ret (.str "")) mNil))))) mNil)) (mCons (mC1 f__law_pick 0 [] (mCons (mLst (mCons (ret (.str "+")) (mCons (ret (.str "-")) (mCons (ret (.str " ")) (mCons (ret (.str "")) mNil))))) mNil)) mNil)) (gsC (gN 5) (gsC (gN 6) gsN)))
    (sq (sSetO 7 (mLst (mCons (mTup (mCons (m2 gAdd (m2 gAdd (mSl (mN 2) mNoP (mPart (mN 4))) (mN 5)) (mSl (mN 2) (mPart (m2 gAdd (mN 4) (ret (.int 1)))) mNoP)) (mCons (mN 3) mNil))) mNil)))
    (sq (sApp 7 (mTup (mCons (mN 2) (mCons (m2 gAdd (m2 gAdd (mSl (mN 3) mNoP (mPart (mN 4))) (mN 6)) (mSl (mN 3) (mPart (m2 gAdd (mN 4) (ret (.int 1)))) mNoP)) mNil))))
    (sq (sSet 7 (m2 gAdd (mN 7) (mLst (mCons (mTup (mCons (m1 gBack (mN 2)) (mCons (m1 gBack (mN 3)) mNil))) (mCons (mTup (mCons (m2 gAdd (mN 2) (mN 2)) (mCons (m2 gAdd (mN 3) (mN 3)) mNil))) mNil)))))
    (sq (sSet 7 (m2 gAdd (mN 7) (mLst (mCons (mTup (mCons (mN 3) (mCons (mN 2) mNil))) (mCons (mLst (mCons (mN 2) (mCons (mN 3) mNil))) (mCons (mTup (mCons (mN 2) (mCons (mN 3) (mCons (ret (.str "")) mNil)))) (mCons (mTup (mCons (mN 2) mNil)) mNil)))))))
    (sq (sSet 7 (m2 gAdd (mN 7) (mLst (mCons (mN 2) (mCons (mTup (mCons (mN 2) (mCons (m1 gListA (mN 3)) mNil))) (mCons (mTup (mCons (mSl (mN 2) (mPart (ret (.int 1))) mNoP) (mCons (mSl (mN 3) (mPart (ret (.int 1))) mNoP) mNil))) mNil))))))
    (sq (sSet 8 (mMt gJoin (ret (.str "")) (mCons (mLc [9] (mItems (mN 2)) (gN 9) t__law_near_1 e__law_near_1) mNil)))
    (sRet (m2 gAdd (mN 7) (mLst (mCons (mTup (mCons (mN 8) (mCons (mN 3) mNil))) (mCons (mTup (mCons (mSl (mN 2) mNoP (mPart (mN 4))) (mCons (mSl (mN 3) mNoP (mPart (mN 4))) mNil))) mNil))))))))))))))
def f__law_near : Fnc := mkF1 10 false b__law_near
abbrev st__law_is_history : Stmt := top 39
def b__law_is_history : M Fl :=
  (sq (sIf (mOr (mNot (mT (mIsi isB_tuple (mN 0)))) (mT (m2 gNe (m1 gLen (mN 0)) (ret (.int 2))))) (sRet (ret (.bl false))) skp)
    (sq (sIf (mOr (mNot (mT (mIsi isB_str (m2 gIx (mN 0) (ret (.int 0)))))) (mNot (mT (mIsi isB_str (m2 gIx (mN 0) (ret (.int 1))))))) (sRet (ret (.bl false))) skp)
    (sq (sIf (mT (m2 gNe (m1 gLen (m2 gIx (mN 0) (ret (.int 0)))) (m1 gLen (m2 gIx (mN 0) (ret (.int 1)))))) (sRet (ret (.bl false))) skp)
    (sRet (mAndV (m2 gEq (mMt gStrip (m2 gIx (mN 0) (ret (.int 0))) (mCons (ret (.str "UD")) mNil)) (ret (.str ""))) (m2 gEq (mMt gStrip (m2 gIx (mN 0) (ret (.int 1))) (mCons (ret (.str "+-")) mNil)) (ret (.str ""))))))))
def f__law_is_history : Fnc := mkF0 1 false b__law_is_history
abbrev st__law_flag : Stmt := top 33
def b__law_flag : M Fl :=
  (sRet (m2 gDg (mDisp [((ret (.str "U+")), (ret (.str "."))), ((ret (.str "U-")), (ret (.str "f"))), ((ret (.str "D+")), (ret (.str "p"))), ((ret (.str "D-")), (ret (.str ".")))]) (m2 gAdd (mN 0) (mN 1))))
def f__law_flag : Fnc := mkF0 2 false b__law_flag
abbrev st__law_allowed : Stmt := top 34
def t__law_allowed_1 : M Bool :=
  (mT (m2 gNe (m2 gIx (mN 1) (mN 4)) (m2 gIx (mN 1) (m2 gSub (mN 4) (ret (.int 1))))))
def e__law_allowed_1 : M D :=
  (mN 4)
def l__law_allowed_1 : M Fl :=
  (sSet 3 (m2 gAdd (mN 3) (mC0 f__law_flag [] (mCons (m2 gIx (mN 1) (mN 4)) (mCons (m2 gIx (mN 2) (mN 4)) mNil)))))
def l__law_allowed_2 : M Fl :=
  (sIf (mNot (mT (mC0 f__law_let [] (mCons (mN 0) (mCons (mSl (mN 3) (mPart (mN 4)) (mPart (m2 gAdd (mN 4) (m2 gIx (mN 0) (ret (.int 2)))))) mNil))))) (sRet (ret (.bl false))) skp)
def l__law_allowed_3 : M Fl :=
  (sIf (mT (m2 gLt (m2 gSub (m2 gIx (mN 5) (mN 4)) (m2 gIx (mN 5) (m2 gSub (mN 4) (ret (.int 1))))) (m2 gIx (mN 0) (ret (.int 3))))) (sRet (ret (.bl false))) skp)
def b__law_allowed : M Fl :=
  (sq (sSet 3 (ret (.str "")))
    (sq (sFor (mRng (mCons (m1 gLen (mN 2)) mNil)) (gN 4) l__law_allowed_1)
    (sq (sFor (mRng (mCons (m1 gLen (mN 3)) mNil)) (gN 4) l__law_allowed_2)
    (sq (sSet 5 (mLc [4] (mRng2 (mCons (ret (.int 1)) (mCons (m1 gLen (mN 1)) mNil))) (gN 4) t__law_allowed_1 e__law_allowed_1))
    (sq (sFor (mRng2 (mCons (ret (.int 1)) (mCons (m1 gLen (mN 5)) mNil))) (gN 4) l__law_allowed_3)
    (sRet (ret (.bl true))))))))
def f__law_allowed : Fnc := mkF0 6 false b__law_allowed
abbrev st__law_same : Stmt := top 38
def b__law_same : M Fl :=
  (sRet (m2 gEq (m1 gReprB (mN 0)) (m1 gReprB (mN 1))))
def f__law_same : Fnc := mkF0 2 false b__law_same
abbrev st_check_limits : Stmt := top 20
def b_check_limits : M Fl :=
  (sIf (mNot (mT (mIsi isC_Limits (mN 0)))) (sRaise "LimitsError") skp)
def f_check_limits : Fnc := mkF0 1 false b_check_limits
abbrev st_is_made_of : Stmt := top 11
def t_is_made_of_1 : M Bool :=
  mYes
def e_is_made_of_1 : M D :=
  (m2 gIn (mN 2) (mN 1))
def b_is_made_of : M Fl :=
  (sRet (mAndV (mIsi isB_str (mN 0)) (m1 gAll (mLc [2] (mItems (mN 0)) (gN 2) t_is_made_of_1 e_is_made_of_1))))
def f_is_made_of : Fnc := mkF0 3 false b_is_made_of
abbrev st_is_history : Stmt := top 22
def b_is_history : M Fl :=
  (sq (sIf (mOr (mNot (mT (mIsi isB_tuple (mN 0)))) (mT (m2 gNe (m1 gLen (mN 0)) (ret (.int 2))))) (sRet (ret (.bl false))) skp)
    (sq (sIf (mOr (mNot (mT (mC0 f_is_made_of [] (mCons (m2 gIx (mN 0) (ret (.int 0))) (mCons (m2 gAdd (ret (.str "U")) (ret (.str "D"))) mNil))))) (mNot (mT (mC0 f_is_made_of [] (mCons (m2 gIx (mN 0) (ret (.int 1))) (mCons (m2 gAdd (ret (.str "+")) (ret (.str "-"))) mNil)))))) (sRet (ret (.bl false))) skp)
    (sRet (m2 gEq (m1 gLen (m2 gIx (mN 0) (ret (.int 0)))) (m1 gLen (m2 gIx (mN 0) (ret (.int 1))))))))
def f_is_history : Fnc := mkF0 1 false b_is_history
abbrev st_are_stays_long : Stmt := top 23
def t_are_stays_long_1 : M Bool :=
  (mT (m2 gNe (m2 gIx (mN 1) (mN 3)) (m2 gIx (mN 1) (m2 gSub (mN 3) (ret (.int 1))))))
def e_are_stays_long_1 : M D :=
  (mN 3)
def t_are_stays_long_2 : M Bool :=
  mYes
def e_are_stays_long_2 : M D :=
  (m2 gGe (m2 gSub (mN 5) (mN 4)) (m1 (gFld "Limits" "least_stay") (mN 0)))
def b_are_stays_long : M Fl :=
  (sq (sSet 2 (mLc [3] (mRng2 (mCons (ret (.int 1)) (mCons (m1 gLen (mN 1)) mNil))) (gN 3) t_are_stays_long_1 e_are_stays_long_1))
    (sRet (m1 gAll (mLc [4, 5] (mZipA (mCons (mN 2) (mCons (mSl (mN 2) (mPart (ret (.int 1))) mNoP) mNil))) (gT 2 (gsC (gN 4) (gsC (gN 5) gsN))) t_are_stays_long_2 e_are_stays_long_2))))
def f_are_stays_long : Fnc := mkF0 6 false b_are_stays_long
abbrev st_flag_of : Stmt := top 21
def b_flag_of : M Fl :=
  (sq (sIf (mT (m2 gEq (m2 gEq (mN 0) (ret (.str "U"))) (m2 gEq (mN 1) (ret (.str "+"))))) (sRet (ret (.str "."))) skp)
    (sRet (mIf (mT (m2 gEq (mN 1) (ret (.str "+")))) (ret (.str "p")) (ret (.str "f")))))
def f_flag_of : Fnc := mkF0 2 false b_flag_of
abbrev st_Limits_let : Stmt := inClass (top 19) 8
def b_Limits_let : M Fl :=
  (sRet (mAndV (m2 gLe (mMt gCount (mN 1) (mCons (ret (.str "p")) mNil)) (m1 (gFld "Limits" "most_passes") (mN 0))) (m2 gLe (mMt gCount (mN 1) (mCons (ret (.str "f")) mNil)) (m1 (gFld "Limits" "most_fails") (mN 0)))))
def f_Limits_let : Fnc := mkF0 2 false b_Limits_let
abbrev st_is_allowed : Stmt := top 24
def t_is_allowed_1 : M Bool :=
  mYes
def e_is_allowed_1 : M D :=
  (mC0 f_flag_of [] (mCons (mN 3) (mCons (mN 4) mNil)))
def t_is_allowed_2 : M Bool :=
  mYes
def e_is_allowed_2 : M D :=
  (mMe "Limits" "let" f_Limits_let (mN 0) (mCons (mSl (mN 2) (mPart (mN 5)) (mPart (m2 gAdd (mN 5) (m1 (gFld "Limits" "most_checks") (mN 0))))) mNil))
def b_is_allowed : M Fl :=
  (sq (sDrop (mC0 f_check_limits [] (mCons (mN 0) mNil)))
    (sq (sIf (mOr (mNot (mT (mC0 f_is_history [] (mCons (mN 1) mNil)))) (mNot (mT (mC0 f_are_stays_long [] (mCons (mN 0) (mCons (m2 gIx (mN 1) (ret (.int 0))) mNil)))))) (sRet (ret (.bl false))) skp)
    (sq (sSet 2 (mMt gJoin (ret (.str "")) (mCons (mLc [3, 4] (mZipA (mCons (m2 gIx (mN 1) (ret (.int 0))) (mCons (m2 gIx (mN 1) (ret (.int 1))) mNil))) (gT 2 (gsC (gN 3) (gsC (gN 4) gsN))) t_is_allowed_1 e_is_allowed_1) mNil)))
    (sRet (m1 gAll (mLc [5] (mRng (mCons (m1 gLen (mN 2)) mNil)) (gN 5) t_is_allowed_2 e_is_allowed_2))))))
def f_is_allowed : Fnc := mkF0 6 false b_is_allowed
abbrev st__law_refused : Stmt := top 41
def u__law_refused_1 (ex : Ex) : M Fl :=
  (sRet (mAndV (mIsE isE_ValueError ex) (mNotV (mIsE isE_NumberError ex))))
def b__law_refused : M Fl :=
  (sq (sTry 2 ct_LimitsError (sDrop (mC0 f_is_allowed [] (mCons (mN 0) (mCons (mN 1) mNil)))) u__law_refused_1)
    (sRet (ret (.bl false))))
def f__law_refused : Fnc := mkF0 3 false b__law_refused
abbrev st_law : Stmt := top 42
def t_law_1 : M Bool :=
  mYes
def e_law_1 : M D :=
  (m2 gIx (ret (.str "UD")) (mC1 f__law_draw 2 [] (mCons (ret (.int 2)) mNil)))
def t_law_2 : M Bool :=
  mYes
def e_law_2 : M D :=
  (mC0 f__law_allowed [] (mCons (mN 3) (mCons (m2 gIx (mN 14) (ret (.int 0))) (mCons (m2 gIx (mN 14) (ret (.int 1))) mNil))))
def l_law_1 : M Fl :=
  (sq (sSet 10 (m1 gReprB (mN 9)))
    (sq (sSet 11 (mAndV (mC0 f__law_is_history [] (mCons (mN 9) mNil)) (mC0 f__law_allowed [] (mCons (mN 3) (mCons (m2 gIx (mN 9) (ret (.int 0))) (mCons (m2 gIx (mN 9) (ret (.int 1))) mNil))))))
    (sIf (mOr (mNot (mT (mC0 f__law_same [] (mCons (mC0 f_is_allowed [] (mCons (mN 4) (mCons (mN 9) mNil))) (mCons (mN 11) mNil))))) (mT (m2 gNe (m1 gReprB (mN 9)) (mN 10)))) (sRet (ret (.bl false))) skp)))
def l_law_2 : M Fl :=
  (sIf (mOr (mNot (mT (mC0 f__law_refused [] (mCons (mN 12) (mCons (m2b gIx (mNB 5) (ret (.int 0))) mNil))))) (mNot (mT (mC0 f__law_refused [] (mCons (mN 12) (mCons (ret .non) mNil)))))) (sRet (ret (.bl false))) skp)
def l_law_3 : M Fl :=
  (sq (sSetO 2 (mC0 f__law_pen [] (mCons (mC0 f__law_cell_at [] (mCons (mN 0) (mCons (mN 1) mNil))) mNil)))
    (sq (sSet 3 (mC1 f__law_numbers 2 [] (mCons (ret (.int 5)) mNil)))
    (sq (sSet 4 (mC0 f__law_limits [] (mCons (mN 3) mNil)))
    (sq (sSetO 5 (mLst (mCons (mC1 f__law_history 2 [] (mCons (mN 3) (mCons (mC1 f__law_draw 2 [] (mCons (ret (.int 13)) mNil)) mNil))) (mCons (mTup (mCons (ret (.str "")) (mCons (ret (.str "")) mNil))) mNil))))
    (sq (sApp 5 (mC1 f__law_history 2 [] (mCons (mN 3) (mCons (mC1 f__law_draw 2 [] (mCons (ret (.int 61)) mNil)) mNil))))
    (sq (sSet 6 (mC1 f__law_checks 2 [] (mCons (ret (.int 9)) mNil)))
    (sq (sSet 7 (mMt gJoin (ret (.str "")) (mCons (mLc [13] (mItems (mN 6)) (gN 13) t_law_1 e_law_1) mNil)))
    (sq (sSet 8 (m2 gAdd (mN 5) (mLst (mCons (mC1 f__law_odd 2 [] mNil) (mCons (mTup (mCons (mN 7) (mCons (mN 6) mNil))) (mCons (mTup (mCons (m2 gMulA (m2 gIx (m2b gIx (mNB 5) (ret (.int 2))) (ret (.int 0))) (ret (.int 5))) (mCons (m2 gMulA (m2 gIx (m2b gIx (mNB 5) (ret (.int 2))) (ret (.int 1))) (ret (.int 5))) mNil))) mNil))))))
    (sq (sFor (mItems (m2 gAdd (m2 gAdd (mN 8) (mC1 f__law_near 2 [] (mCons (m2b gIx (mNB 5) (ret (.int 0))) mNil))) (mC1 f__law_near 2 [] (mCons (m2b gIx (mNB 5) (ret (.int 2))) mNil)))) (gN 9) l_law_1)
    (sq (sIf (mT (m2 gNe (mLc [14] (mItems (mN 5)) (gN 14) t_law_2 e_law_2) (m2 gMulA (mLst (mCons (ret (.bl true)) mNil)) (ret (.int 3))))) (sRet (ret (.bl false))) skp)
    (sFor (mItems (mLst (mCons (mC1 f__law_odd 2 [] mNil) (mCons (ret .non) (mCons (mN 3) mNil))))) (gN 12) l_law_2)))))))))))
def b_law : M Fl :=
  (sq (sFor (mRng (mCons (mCal gMax2 (mCons (ret (.int 1)) (mCons (mCal gMin2 (mCons (m1 gLen (mN 0)) (mCons (ret (.int 3)) mNil))) mNil))) mNil)) (gN 1) l_law_3)
    (sRet (ret (.bl true))))
def f_law : Fnc := mkF0 15 false b_law
abbrev st_Limits_settled : Stmt := inClass (top 19) 4
abbrev st_Limits_span : Stmt := inClass (top 19) 3
end Lw
namespace Lw
open PySem hiding start
open L2 Sr
open Hi (rep)
theorem s_pen (c : Int) : ∃ o, f__law_pen .non [.int c] = .ok o .non ∧ PenOk o := by
  refine ⟨.lst [.int (if c - 10 ^ 18 > 0 then c - 10 ^ 18 else 0), .int (c % 2147483629 + 1), .int 0], ?_, _, _, _, rfl, ?_, ?_, ?_⟩
  · have h : cPow 10 18 = true := by decide
    simp [f__law_pen, b__law_pen, h, sizeLine, mkF0, mkF1, fin0, fin1, st0, st1, bnd, Sr.ret, opt, mN, mNB, mB, der, m1, m2, m2b, m2r, mT, asB, mChain, mAnd, mOr, mNot, mAndV, mOrV, mNotV, mIf, mNil, mCons, mTup, mLst, mIsN, mNotN, Sr.isNon, mCal, mCal1, mIsi, mFldB, gFld, mC0, mC1, ap0, ap1, chkO, chkL, putL, mMk, apM, skp, sq, sDrop, sRet, sRetO, sIf, sSet, sSetO, sAsg, sPar, gN, gsN, gsC, gT, gA, sApp, sPutI, sNever, mItems, dItems, mRng, mRng2, gRng, gRng2, sFor, turn, gI, gI0, gLt, gLe, gGt, gGe, gAdd, gAddI, gAddS, gAddT, gAddL, Sr.gSub, gMul, gMulI, gDiv, gMod, gPow, gNeg, gEq, gNe, dEq, eqS, gLen, gInt1, gMax2, gMin2, gAbs, gIx, gLtT, dInts, putD, gIsi, dKind, tInt, tOnly, List.map_cons, List.map_nil, List.length_cons, List.length_nil, List.cons_append, List.nil_append, List.getElem?_cons_zero, List.getElem?_cons_succ, List.set_cons_zero, List.set_cons_succ, List.replicate, Option.some_or, Option.none_or, Option.map_some, Option.map_none, Option.bind_some, Option.bind_none]
  · split <;> omega
  · omega
  · omega
theorem s_draw (o : D) (many : Int) (hv : PenOk o) (h0 : 0 < many) (h1 : many < 1073741824) : ∃ r o', f__law_draw o [.int many] = .ok (.int r) o' ∧ 0 ≤ r ∧ r < many ∧ PenOk o' := by
  obtain ⟨a, b, c, rfl, ha, hb, hb2⟩ := hv
  have hd : ∀ x, cDiv x many = true := fun x => by unfold cDiv; simp; omega
  by_cases h : 0 < a
  · refine ⟨a % many, .lst [.int (a / many), .int b, .int c], ?_, Int.emod_nonneg _ (by omega), Int.emod_lt_of_pos _ h0, _, _, _, rfl, Int.ediv_nonneg ha (by omega), hb, hb2⟩
    simp [f__law_draw, b__law_draw, h, h0, hd, atI, ixN, mkF0, mkF1, fin0, fin1, st0, st1, bnd, Sr.ret, opt, mN, mNB, mB, der, m1, m2, m2b, m2r, mT, asB, mChain, mAnd, mOr, mNot, mAndV, mOrV, mNotV, mIf, mNil, mCons, mTup, mLst, mIsN, mNotN, Sr.isNon, mCal, mCal1, mIsi, mFldB, gFld, mC0, mC1, ap0, ap1, chkO, chkL, putL, mMk, apM, skp, sq, sDrop, sRet, sRetO, sIf, sSet, sSetO, sAsg, sPar, gN, gsN, gsC, gT, gA, sApp, sPutI, sNever, mItems, dItems, mRng, mRng2, gRng, gRng2, sFor, turn, gI, gI0, gLt, gLe, gGt, gGe, gAdd, gAddI, gAddS, gAddT, gAddL, Sr.gSub, gMul, gMulI, gDiv, gMod, gPow, gNeg, gEq, gNe, dEq, eqS, gLen, gInt1, gMax2, gMin2, gAbs, gIx, gLtT, dInts, putD, gIsi, dKind, tInt, tOnly, List.map_cons, List.map_nil, List.length_cons, List.length_nil, List.cons_append, List.nil_append, List.getElem?_cons_zero, List.getElem?_cons_succ, List.set_cons_zero, List.set_cons_succ, List.replicate, Option.some_or, Option.none_or, Option.map_some, Option.map_none, Option.bind_some, Option.bind_none]
  · generalize hb' : (b * 48271 + 1009 * (c + 1) + 7) % 2147483647 = b'
    have e1 : 0 ≤ b' ∧ b' < 2147483647 := by omega
    generalize hm : (b' * b' + 69621 * b' + 11) % 2147483629 = m
    have e2 : 0 ≤ m ∧ m < 2147483629 := by omega
    have c1 : cMul b 48271 = true := cmul_l (by omega) (by omega)
    have c2 : cMul 1009 (c + 1) = true := cmul_l (by omega) (by omega)
    have c3 : cMul b' b' = true := cmul_l (by omega) (by omega)
    have c4 : cMul 69621 b' = true := cmul_l (by omega) (by omega)
    have c5 : cMul m m = true := cmul_l (by omega) (by omega)
    have c6 : cMul 40014 m = true := cmul_l (by omega) (by omega)
    have c7 : ∀ x, cDiv x 16 = true := fun x => by unfold cDiv; simp
    refine ⟨((m * m + 40014 * m) % 2147483587 / 16) % many, .lst [.int a, .int b', .int (c + 1)], ?_, Int.emod_nonneg _ (by omega), Int.emod_lt_of_pos _ h0, _, _, _, rfl, ha, by omega, by omega⟩
    simp [f__law_draw, b__law_draw, h, h0, hd, hb', hm, c1, c2, c3, c4, c5, c6, c7, atI, ixN, mkF0, mkF1, fin0, fin1, st0, st1, bnd, Sr.ret, opt, mN, mNB, mB, der, m1, m2, m2b, m2r, mT, asB, mChain, mAnd, mOr, mNot, mAndV, mOrV, mNotV, mIf, mNil, mCons, mTup, mLst, mIsN, mNotN, Sr.isNon, mCal, mCal1, mIsi, mFldB, gFld, mC0, mC1, ap0, ap1, chkO, chkL, putL, mMk, apM, skp, sq, sDrop, sRet, sRetO, sIf, sSet, sSetO, sAsg, sPar, gN, gsN, gsC, gT, gA, sApp, sPutI, sNever, mItems, dItems, mRng, mRng2, gRng, gRng2, sFor, turn, gI, gI0, gLt, gLe, gGt, gGe, gAdd, gAddI, gAddS, gAddT, gAddL, Sr.gSub, gMul, gMulI, gDiv, gMod, gPow, gNeg, gEq, gNe, dEq, eqS, gLen, gInt1, gMax2, gMin2, gAbs, gIx, gLtT, dInts, putD, gIsi, dKind, tInt, tOnly, List.map_cons, List.map_nil, List.length_cons, List.length_nil, List.cons_append, List.nil_append, List.getElem?_cons_zero, List.getElem?_cons_succ, List.set_cons_zero, List.set_cons_succ, List.replicate, Option.some_or, Option.none_or, Option.map_some, Option.map_none, Option.bind_some, Option.bind_none]
theorem s_cell (ns : List Int) (k : Int) (hk : 0 ≤ k) : ∃ c, f__law_cell_at .non [.scr ns, .int k] = .ok (.int c) .non := by
  by_cases h : k < ns.length
  · have hi : k.toNat < ns.length := by omega
    refine ⟨ns[k.toNat], ?_⟩
    simp [f__law_cell_at, b__law_cell_at, h, hk, hi, atI, ixN, mkF0, mkF1, fin0, fin1, st0, st1, bnd, Sr.ret, opt, mN, mNB, mB, der, m1, m2, m2b, m2r, mT, asB, mChain, mAnd, mOr, mNot, mAndV, mOrV, mNotV, mIf, mNil, mCons, mTup, mLst, mIsN, mNotN, Sr.isNon, mCal, mCal1, mIsi, mFldB, gFld, mC0, mC1, ap0, ap1, chkO, chkL, putL, mMk, apM, skp, sq, sDrop, sRet, sRetO, sIf, sSet, sSetO, sAsg, sPar, gN, gsN, gsC, gT, gA, sApp, sPutI, sNever, mItems, dItems, mRng, mRng2, gRng, gRng2, sFor, turn, gI, gI0, gLt, gLe, gGt, gGe, gAdd, gAddI, gAddS, gAddT, gAddL, Sr.gSub, gMul, gMulI, gDiv, gMod, gPow, gNeg, gEq, gNe, dEq, eqS, gLen, gInt1, gMax2, gMin2, gAbs, gIx, gLtT, dInts, putD, gIsi, dKind, tInt, tOnly, List.map_cons, List.map_nil, List.length_cons, List.length_nil, List.cons_append, List.nil_append, List.getElem?_cons_zero, List.getElem?_cons_succ, List.set_cons_zero, List.set_cons_succ, List.replicate, Option.some_or, Option.none_or, Option.map_some, Option.map_none, Option.bind_some, Option.bind_none]
  · refine ⟨0, ?_⟩
    simp [f__law_cell_at, b__law_cell_at, h, mkF0, mkF1, fin0, fin1, st0, st1, bnd, Sr.ret, opt, mN, mNB, mB, der, m1, m2, m2b, m2r, mT, asB, mChain, mAnd, mOr, mNot, mAndV, mOrV, mNotV, mIf, mNil, mCons, mTup, mLst, mIsN, mNotN, Sr.isNon, mCal, mCal1, mIsi, mFldB, gFld, mC0, mC1, ap0, ap1, chkO, chkL, putL, mMk, apM, skp, sq, sDrop, sRet, sRetO, sIf, sSet, sSetO, sAsg, sPar, gN, gsN, gsC, gT, gA, sApp, sPutI, sNever, mItems, dItems, mRng, mRng2, gRng, gRng2, sFor, turn, gI, gI0, gLt, gLe, gGt, gGe, gAdd, gAddI, gAddS, gAddT, gAddL, Sr.gSub, gMul, gMulI, gDiv, gMod, gPow, gNeg, gEq, gNe, dEq, eqS, gLen, gInt1, gMax2, gMin2, gAbs, gIx, gLtT, dInts, putD, gIsi, dKind, tInt, tOnly, List.map_cons, List.map_nil, List.length_cons, List.length_nil, List.cons_append, List.nil_append, List.getElem?_cons_zero, List.getElem?_cons_succ, List.set_cons_zero, List.set_cons_succ, List.replicate, Option.some_or, Option.none_or, Option.map_some, Option.map_none, Option.bind_some, Option.bind_none]
theorem s_numbers (o : D) (hv : PenOk o) : ∃ a b c d o', f__law_numbers o [.int 5] = .ok (.tup [.int a, .int b, .int c, .int d]) o' ∧ (0 ≤ a ∧ a ≤ 5) ∧ (0 ≤ b ∧ b ≤ 5) ∧ (1 ≤ c ∧ c ≤ 5) ∧ (1 ≤ d ∧ d ≤ 4) ∧ PenOk o' := by
  obtain ⟨r1, o1, e1, h1, h1', v1⟩ := s_draw o 5 hv (by omega) (by omega)
  obtain ⟨r2, o2, e2, h2, h2', v2⟩ := s_draw o1 (if 1 + r1 + 2 < 6 then 1 + r1 + 2 else 6) v1 (by split <;> omega) (by split <;> omega)
  obtain ⟨r3, o3, e3, h3, h3', v3⟩ := s_draw o2 (if 1 + r1 + 2 < 6 then 1 + r1 + 2 else 6) v2 (by split <;> omega) (by split <;> omega)
  obtain ⟨r4, o4, e4, h4, h4', v4⟩ := s_draw o3 4 v3 (by omega) (by omega)
  refine ⟨r2, r3, 1 + r1, 1 + r4, o4, ?_, by split at h2' <;> omega, by split at h3' <;> omega, by omega, by omega, v4⟩
  simp [f__law_numbers, b__law_numbers, e1, e2, e3, e4, sizeLine, mkF0, mkF1, fin0, fin1, st0, st1, bnd, Sr.ret, opt, mN, mNB, mB, der, m1, m2, m2b, m2r, mT, asB, mChain, mAnd, mOr, mNot, mAndV, mOrV, mNotV, mIf, mNil, mCons, mTup, mLst, mIsN, mNotN, Sr.isNon, mCal, mCal1, mIsi, mFldB, gFld, mC0, mC1, ap0, ap1, chkO, chkL, putL, mMk, apM, skp, sq, sDrop, sRet, sRetO, sIf, sSet, sSetO, sAsg, sPar, gN, gsN, gsC, gT, gA, sApp, sPutI, sNever, mItems, dItems, mRng, mRng2, gRng, gRng2, sFor, turn, gI, gI0, gLt, gLe, gGt, gGe, gAdd, gAddI, gAddS, gAddT, gAddL, Sr.gSub, gMul, gMulI, gDiv, gMod, gPow, gNeg, gEq, gNe, dEq, eqS, gLen, gInt1, gMax2, gMin2, gAbs, gIx, gLtT, dInts, putD, gIsi, dKind, tInt, tOnly, List.map_cons, List.map_nil, List.length_cons, List.length_nil, List.cons_append, List.nil_append, List.getElem?_cons_zero, List.getElem?_cons_succ, List.set_cons_zero, List.set_cons_succ, List.replicate, Option.some_or, Option.none_or, Option.map_some, Option.map_none, Option.bind_some, Option.bind_none]
theorem s_pick (o : D) (ds : List D) (hv : PenOk o) (h0 : 0 < ds.length) (h1 : ds.length < 100) : ∃ d o', f__law_pick o [.lst ds] = .ok d o' ∧ d ∈ ds ∧ PenOk o' := by
  obtain ⟨r, o1, e1, h2, h2', v1⟩ := s_draw o (ds.length : Int) hv (by omega) (by omega)
  have hi : r.toNat < ds.length := by omega
  refine ⟨ds[r.toNat], o1, ?_, List.getElem_mem hi, v1⟩
  simp [f__law_pick, b__law_pick, e1, atI, ixN, h2, h2', hi, mkF0, mkF1, fin0, fin1, st0, st1, bnd, Sr.ret, opt, mN, mNB, mB, der, m1, m2, m2b, m2r, mT, asB, mChain, mAnd, mOr, mNot, mAndV, mOrV, mNotV, mIf, mNil, mCons, mTup, mLst, mIsN, mNotN, Sr.isNon, mCal, mCal1, mIsi, mFldB, gFld, mC0, mC1, ap0, ap1, chkO, chkL, putL, mMk, apM, skp, sq, sDrop, sRet, sRetO, sIf, sSet, sSetO, sAsg, sPar, gN, gsN, gsC, gT, gA, sApp, sPutI, sNever, mItems, dItems, mRng, mRng2, gRng, gRng2, sFor, turn, gI, gI0, gLt, gLe, gGt, gGe, gAdd, gAddI, gAddS, gAddT, gAddL, Sr.gSub, gMul, gMulI, gDiv, gMod, gPow, gNeg, gEq, gNe, dEq, eqS, gLen, gInt1, gMax2, gMin2, gAbs, gIx, gLtT, dInts, putD, gIsi, dKind, tInt, tOnly, List.map_cons, List.map_nil, List.length_cons, List.length_nil, List.cons_append, List.nil_append, List.getElem?_cons_zero, List.getElem?_cons_succ, List.set_cons_zero, List.set_cons_succ, List.replicate, Option.some_or, Option.none_or, Option.map_some, Option.map_none, Option.bind_some, Option.bind_none]
theorem s_is_integer_int (a : Int) : f_is_integer .non [.int a] = .ok (.bl true) .non := rfl
theorem s_is_between (a lo hi : Int) : f_is_between .non [.int a, .int lo, .int hi] = .ok (.bl (decide (lo ≤ a) && decide (a ≤ hi))) .non := by
  by_cases h : lo ≤ a <;> simp [f_is_between, b_is_between, s_is_integer_int, h, mkF0, mkF1, fin0, fin1, st0, st1, bnd, Sr.ret, opt, mN, mNB, mB, der, m1, m2, m2b, m2r, mT, asB, mChain, mAnd, mOr, mNot, mAndV, mOrV, mNotV, mIf, mNil, mCons, mTup, mLst, mIsN, mNotN, Sr.isNon, mCal, mCal1, mIsi, mFldB, gFld, mC0, mC1, ap0, ap1, chkO, chkL, putL, mMk, apM, skp, sq, sDrop, sRet, sRetO, sIf, sSet, sSetO, sAsg, sPar, gN, gsN, gsC, gT, gA, sApp, sPutI, sNever, mItems, dItems, mRng, mRng2, gRng, gRng2, sFor, turn, gI, gI0, gLt, gLe, gGt, gGe, gAdd, gAddI, gAddS, gAddT, gAddL, Sr.gSub, gMul, gMulI, gDiv, gMod, gPow, gNeg, gEq, gNe, dEq, eqS, gLen, gInt1, gMax2, gMin2, gAbs, gIx, gLtT, dInts, putD, gIsi, dKind, tInt, tOnly, List.map_cons, List.map_nil, List.length_cons, List.length_nil, List.cons_append, List.nil_append, List.getElem?_cons_zero, List.getElem?_cons_succ, List.set_cons_zero, List.set_cons_succ, List.replicate, Option.some_or, Option.none_or, Option.map_some, Option.map_none, Option.bind_some, Option.bind_none]
theorem s_between {a lo hi : Int} (h1 : lo ≤ a) (h2 : a ≤ hi) : f_is_between .non [.int a, .int lo, .int hi] = .ok (.bl true) .non := by
  rw [s_is_between, decide_eq_true h1, decide_eq_true h2]; rfl
abbrev lim (a b c d : Int) : D := .obj "Limits" [("most_passes", .int a), ("most_fails", .int b), ("most_checks", .int c), ("least_stay", .int d)]
theorem s_init (a b c d : Int) (h1 : 0 ≤ a ∧ a ≤ 5) (h2 : 0 ≤ b ∧ b ≤ 5) (h3 : 1 ≤ c ∧ c ≤ 5) (h4 : 1 ≤ d ∧ d ≤ 4) : f_LimitsU_initU (.obj "Limits" []) [.int a, .int b, .int c, .int d] = .ok .non (lim a b c d) := by
  have n1 : ¬ (("most_passes" : Str) = "most_fails") := by decide
  have n2 : ¬ (("most_passes" : Str) = "most_checks") := by decide
  have n3 : ¬ (("most_fails" : Str) = "most_checks") := by decide
  have n4 : ¬ (("most_passes" : Str) = "least_stay") := by decide
  have n5 : ¬ (("most_fails" : Str) = "least_stay") := by decide
  have n6 : ¬ (("most_checks" : Str) = "least_stay") := by decide
  simp [f_LimitsU_initU, b_LimitsU_initU, l_LimitsU_initU_1, s_between h1.1 h1.2, s_between h2.1 h2.2, s_between h3.1 h3.2, s_between h4.1 h4.2, forL, lp, n1, n2, n3, n4, n5, n6, sizeLine, mkF0, mkF1, fin0, fin1, st0, st1, bnd, Sr.ret, opt, mN, mNB, mB, der, m1, m2, m2b, m2r, mT, asB, mChain, mAnd, mOr, mNot, mAndV, mOrV, mNotV, mIf, mNil, mCons, mTup, mLst, mIsN, mNotN, Sr.isNon, mCal, mCal1, mIsi, mFldB, gFld, mC0, mC1, ap0, ap1, chkO, chkL, putL, mMk, apM, skp, sq, sDrop, sRet, sRetO, sIf, sSet, sSetO, sAsg, sPar, gN, gsN, gsC, gT, gA, sApp, sPutI, sNever, mItems, dItems, mRng, mRng2, gRng, gRng2, sFor, turn, gI, gI0, gLt, gLe, gGt, gGe, gAdd, gAddI, gAddS, gAddT, gAddL, Sr.gSub, gMul, gMulI, gDiv, gMod, gPow, gNeg, gEq, gNe, dEq, eqS, gLen, gInt1, gMax2, gMin2, gAbs, gIx, gLtT, dInts, putD, gIsi, dKind, tInt, tOnly, List.map_cons, List.map_nil, List.length_cons, List.length_nil, List.cons_append, List.nil_append, List.getElem?_cons_zero, List.getElem?_cons_succ, List.set_cons_zero, List.set_cons_succ, List.replicate, Option.some_or, Option.none_or, Option.map_some, Option.map_none, Option.bind_some, Option.bind_none]
theorem s_limits (a b c d : Int) (h1 : 0 ≤ a ∧ a ≤ 5) (h2 : 0 ≤ b ∧ b ≤ 5) (h3 : 1 ≤ c ∧ c ≤ 5) (h4 : 1 ≤ d ∧ d ≤ 4) : f__law_limits .non [.tup [.int a, .int b, .int c, .int d]] = .ok (lim a b c d) .non := by
  simp [f__law_limits, b__law_limits, s_init a b c d h1 h2 h3 h4, atI, ixN, mkF0, mkF1, fin0, fin1, st0, st1, bnd, Sr.ret, opt, mN, mNB, mB, der, m1, m2, m2b, m2r, mT, asB, mChain, mAnd, mOr, mNot, mAndV, mOrV, mNotV, mIf, mNil, mCons, mTup, mLst, mIsN, mNotN, Sr.isNon, mCal, mCal1, mIsi, mFldB, gFld, mC0, mC1, ap0, ap1, chkO, chkL, putL, mMk, apM, skp, sq, sDrop, sRet, sRetO, sIf, sSet, sSetO, sAsg, sPar, gN, gsN, gsC, gT, gA, sApp, sPutI, sNever, mItems, dItems, mRng, mRng2, gRng, gRng2, sFor, turn, gI, gI0, gLt, gLe, gGt, gGe, gAdd, gAddI, gAddS, gAddT, gAddL, Sr.gSub, gMul, gMulI, gDiv, gMod, gPow, gNeg, gEq, gNe, dEq, eqS, gLen, gInt1, gMax2, gMin2, gAbs, gIx, gLtT, dInts, putD, gIsi, dKind, tInt, tOnly, List.map_cons, List.map_nil, List.length_cons, List.length_nil, List.cons_append, List.nil_append, List.getElem?_cons_zero, List.getElem?_cons_succ, List.set_cons_zero, List.set_cons_succ, List.replicate, Option.some_or, Option.none_or, Option.map_some, Option.map_none, Option.bind_some, Option.bind_none]
theorem rngI (W : Int) (h0 : 0 ≤ W) (h1 : W < 1000000) : gRng [.int W] = some ((irng 0 W).map D.int) := by
  have hok : okR W = true := by unfold okR; simp; omega
  simp only [gRng, hok, if_true]; rw [rngL_eq]
theorem forL_stop {A : Type} {w : D → M Unit} {b : M Fl} (enc : A → D) (P : A → Bool) (r : D) (env : Sl → En) : ∀ (xs : List A), (∀ x ∈ xs, ∀ j, turn w b (enc x) (env j) = .ok (if P x then .nx else .rt r) (env (.val (enc x)))) → ∀ j, ∃ j', forL w b (xs.map enc) (env j) = .ok (if xs.all P then .nx else .rt r) (env j')
  | [], _, j => ⟨j, by simp [forL, skp, Sr.ret]⟩
  | x :: xs, h, j => by
    have hx := h x (by simp) j
    rw [List.map_cons, List.all_cons]
    cases hp : P x with
    | true =>
      rw [hp] at hx
      obtain ⟨j', e⟩ := forL_stop enc P r env xs (fun y hy => h y (by simp [hy])) (.val (enc x))
      exact ⟨j', by rw [forL_cons_nx hx]; simpa using e⟩
    | false =>
      rw [hp] at hx
      exact ⟨_, by rw [forL_cons_rt hx]; rfl⟩
def S (l : List Nat) : Str := ⟨l.toArray⟩
theorem S_len (l : List Nat) : (S l).length = l.length := by unfold S Str.length; simp
theorem S_app (a b : List Nat) : S a ++ S b = S (a ++ b) := by
  show (⟨a.toArray ++ b.toArray⟩ : Str) = _
  unfold S; simp
theorem chk_S (w : List Bool) : chk w = S (w.map fun b => if b then 43 else 45) := rfl
theorem sts_S (w : List Bool) : sts w = S (w.map fun b => if b then 85 else 68) := rfl
theorem sz {n : Nat} (h : n ≤ 100000) : n ≤ sizeLine := by
  have e : sizeLine = 16777216 := by decide
  omega
theorem len_S (l : List Nat) (h : l.length ≤ 100000) : gLen (.str (S l)) = some (.int (l.length : Nat)) := by
  simp only [gLen]
  rw [if_pos (by rw [S_len]; exact sz h), S_len]
theorem add_S (a b : List Nat) (h : a.length + b.length ≤ 100000) : gAdd (.str (S a)) (.str (S b)) = some (.str (S (a ++ b))) := by
  have hz : a.length + b.length ≤ 16777216 := by omega
  simp [gAdd, gAddI, gI0, gAddS, S_len, S_app, sizeLine, hz]
theorem cut_S (l : List Nat) (i j : Nat) (hi : i ≤ l.length) (hij : i ≤ j) (hl : l.length ≤ 100000) : gSl (.str (S l)) (some (i : Int)) (some (j : Int)) = some (.str (S ((l.drop i).take (j - i)))) := by
  simp only [gSl]
  rw [if_pos (by rw [S_len]; exact sz hl)]
  congr 2
  unfold cutS
  rw [S_len]
  have e1 : HT.sIx l.length 0 (some (i : Int)) = i := by
    simp only [HT.sIx]
    split <;> omega
  have e2 : HT.sIx l.length l.length (some (j : Int)) = min j l.length := by
    simp only [HT.sIx]
    split <;> omega
  rw [e1, e2]
  unfold S
  congr 2
  by_cases c : j ≤ l.length
  · rw [Nat.min_eq_left c]
  · rw [Nat.min_eq_right (by omega)]
    rw [List.take_of_length_le (by rw [List.length_drop]; exact Nat.le_refl _), List.take_of_length_le (by rw [List.length_drop]; omega)]
theorem ix_S (l : List Nat) (i : Nat) (h : i < l.length) (hl : l.length ≤ 100000) : gIx (.str (S l)) (.int (i : Nat)) = some (.str (S [l[i]])) := by
  simp only [gIx]
  rw [if_pos (by rw [S_len]; exact sz hl)]
  have e : (S l).cps.toList = l := rfl
  rw [e, atI_nat h]
  rfl
theorem cnt_S (l : List Nat) (c : Nat) : gCount (S l) [.str (S [c])] = some (.int ((l.countP (· == c) : Nat) : Int)) := by
  have h : gCount (S l) [.str (S [c])] = some (.int (Txt.count (S l) (S [c]))) := rfl
  have e : Txt.count (S l) (S [c]) = PyProof.Rows.cnt c l := PyProof.Rows.count_cnt (S l) c
  rw [h, e]
  congr 2
  clear h e
  induction l with
  | nil => rfl
  | cons b l ih =>
    rw [PyProof.Rows.cnt_cons, ih, List.countP_cons]
    by_cases c1 : b = c
    · subst c1; simp; omega
    · simp [c1]
def fcd (s c : Bool) : Nat := if s == c then 46 else if c then 112 else 102
def cds (s c : List Bool) : List Nat := List.zipWith fcd s c
theorem s_flag (s c : Bool) : f__law_flag .non [.str (sts [s]), .str (chk [c])] = .ok (.str (S [fcd s c])) .non := by cases s <;> cases c <;> kernel_rfl
theorem cds_p (s c : List Bool) : (cds s c).map (· == 112) = Hi.fpL s c := by
  unfold cds Hi.fpL
  rw [List.map_zipWith]
  congr 1
  funext s c
  cases s <;> cases c <;> rfl
theorem cds_f (s c : List Bool) : (cds s c).map (· == 102) = Hi.ffL s c := by
  unfold cds Hi.ffL
  rw [List.map_zipWith]
  congr 1
  funext s c
  cases s <;> cases c <;> rfl
theorem cnt_map (l : List Nat) (c : Nat) : l.countP (· == c) = (l.map (· == c)).countP id := by
  rw [List.countP_map]; rfl
def nums (a b n k : Int) : D := .tup [.int a, .int b, .int n, .int k]
theorem v_let (N Z : D) (z : Str) (a b x y : Int) (g0 : gIx N (.int 0) = some (.int a)) (g1 : gIx N (.int 1) = some (.int b)) (c1 : gCount z [.str "p"] = some (.int x)) (c2 : gCount z [.str "f"] = some (.int y)) : f__law_let .non [N, .str z] = .ok (.bl (decide (x ≤ a) && decide (y ≤ b))) .non := by
  have h1 : gLe (.int x) (.int a) = some (.bl (decide (x ≤ a))) := rfl
  have h2 : gLe (.int y) (.int b) = some (.bl (decide (y ≤ b))) := rfl
  generalize decide (x ≤ a) = p at *
  generalize decide (y ≤ b) = q at *
  cases p <;> simp [f__law_let, b__law_let, mMt, asS, g0, g1, c1, c2, h1, h2, mkF0, mkF1, fin0, fin1, st0, st1, bnd, Sr.ret, opt, mN, mNB, mB, der, m1, m2, m2b, m2r, mT, asB, mChain, mAnd, mOr, mNot, mAndV, mOrV, mNotV, mIf, mNil, mCons, mTup, mLst, mIsN, mNotN, Sr.isNon, mCal, mCal1, mIsi, mFldB, gFld, mC0, mC1, ap0, ap1, chkO, chkL, putL, mMk, apM, skp, sq, sDrop, sRet, sRetO, sIf, sSet, sSetO, sAsg, sPar, gN, gsN, gsC, gT, gA, sApp, sPutI, sNever, mItems, dItems, mRng, mRng2, gRng, gRng2, sFor, turn, gI, gI0, gLt, gGt, gGe, gAdd, gAddI, gAddS, gAddT, gAddL, Sr.gSub, gMul, gMulI, gDiv, gMod, gPow, gNeg, gEq, gNe, dEq, eqS, gLen, gInt1, gMax2, gMin2, gAbs, gLtT, dInts, putD, gIsi, dKind, tInt, tOnly, List.map_cons, List.map_nil, List.length_cons, List.length_nil, List.cons_append, List.nil_append, List.getElem?_cons_zero, List.getElem?_cons_succ, List.set_cons_zero, List.set_cons_succ, List.replicate, Option.some_or, Option.none_or, Option.map_some, Option.map_none, Option.bind_some, Option.bind_none]
theorem s_let (a b n k : Nat) (l : List Nat) : f__law_let .non [nums a b n k, .str (S l)] = .ok (.bl (Hi.letB a b (l.map (· == 112)) (l.map (· == 102)))) .non := by
  have c1 := cnt_S l 112
  have c2 := cnt_S l 102
  have e1 : S [112] = ("p" : Str) := by decide
  have e2 : S [102] = ("f" : Str) := by decide
  rw [e1] at c1
  rw [e2] at c2
  rw [v_let _ .non _ (a : Nat) (b : Nat) _ _ rfl rfl c1 c2]
  unfold Hi.letB
  rw [← cnt_map, ← cnt_map]
  congr 3
  · rw [decide_eq_decide]; omega
  · rw [decide_eq_decide]; omega
theorem t_al1 (N : D) (i : Int) (zs zc zf z1 z2 z3 z4 : Str) (a5 j4 : Sl) (g1 : gIx (.str zs) (.int i) = some (.str z1)) (g2 : gIx (.str zc) (.int i) = some (.str z2)) (h : f__law_flag .non [.str z1, .str z2] = .ok (.str z3) .non) (ha : gAdd (.str zf) (.str z3) = some (.str z4)) :
    turn (gN 4) l__law_allowed_1 (.int i) [.val N, .val (.str zs), .val (.str zc), .val (.str zf), j4, a5] = .ok .nx [.val N, .val (.str zs), .val (.str zc), .val (.str z4), .val (.int i), a5] := by
  simp [l__law_allowed_1, g1, g2, h, ha, mkF0, mkF1, fin0, fin1, st0, st1, bnd, Sr.ret, opt, mN, mNB, mB, der, m1, m2, m2b, m2r, mT, asB, mChain, mAnd, mOr, mNot, mAndV, mOrV, mNotV, mIf, mNil, mCons, mTup, mLst, mIsN, mNotN, Sr.isNon, mCal, mCal1, mIsi, mFldB, gFld, mC0, mC1, ap0, ap1, chkO, chkL, putL, mMk, apM, skp, sq, sDrop, sRet, sRetO, sIf, sSet, sSetO, sAsg, sPar, gN, gsN, gsC, gT, gA, sApp, sPutI, sNever, mItems, dItems, mRng, mRng2, gRng, gRng2, sFor, turn, gI, gI0, gLt, gLe, gGt, gGe, gAddI, gAddS, gAddT, gAddL, Sr.gSub, gMul, gMulI, gDiv, gMod, gPow, gNeg, gEq, gNe, dEq, eqS, gLen, gInt1, gMax2, gMin2, gAbs, gLtT, dInts, putD, gIsi, dKind, tInt, tOnly, List.map_cons, List.map_nil, List.length_cons, List.length_nil, List.cons_append, List.nil_append, List.getElem?_cons_zero, List.getElem?_cons_succ, List.set_cons_zero, List.set_cons_succ, List.replicate, Option.some_or, Option.none_or, Option.map_some, Option.map_none, Option.bind_some, Option.bind_none]
theorem f_al1 (N : D) (s c : List Bool) (hl : s.length = c.length) (hc : c.length ≤ 1000) (a5 : Sl) : ∀ (m i : Nat) (j4 : Sl), i + m = c.length → ∃ k4, forL (gN 4) l__law_allowed_1 ((List.range' i m).map fun (a : Nat) => .int ((a : Nat) : Int)) [.val N, .val (.str (sts s)), .val (.str (chk c)), .val (.str (S ((cds s c).take i))), j4, a5] = .ok .nx [.val N, .val (.str (sts s)), .val (.str (chk c)), .val (.str (S ((cds s c).take (i + m)))), k4, a5]
  | 0, i, j4, h => ⟨j4, by simp [forL, skp, Sr.ret]⟩
  | m + 1, i, j4, h => by
    have hi : i < c.length := by omega
    have lc : (cds s c).length = c.length := by unfold cds; rw [List.length_zipWith, hl]; omega
    have g1 := ix_S (s.map fun b => if b then 85 else 68) i (by simp; omega) (by simp; omega)
    have g2 := ix_S (c.map fun b => if b then 43 else 45) i (by simp; omega) (by simp; omega)
    rw [← sts_S] at g1
    rw [← chk_S] at g2
    have e1 : S [(s.map fun b => if b then 85 else 68)[i]'(by simp; omega)] = sts [s[i]'(by omega)] := by rw [List.getElem_map]; rfl
    have e2 : S [(c.map fun b => if b then 43 else 45)[i]'(by simp; omega)] = chk [c[i]] := by rw [List.getElem_map]; rfl
    rw [e1] at g1
    rw [e2] at g2
    have ha := add_S ((cds s c).take i) [fcd (s[i]'(by omega)) c[i]] (by rw [List.length_take]; simp; omega)
    have et : (cds s c).take i ++ [fcd (s[i]'(by omega)) c[i]] = (cds s c).take (i + 1) := by
      rw [List.take_succ_eq_append_getElem (by omega)]
      congr 2
      unfold cds
      rw [List.getElem_zipWith]
    rw [et] at ha
    have ht := t_al1 N (i : Nat) _ _ _ _ _ _ _ a5 j4 g1 g2 (s_flag _ _) ha
    obtain ⟨k4, e⟩ := f_al1 N s c hl hc a5 m (i + 1) (.val (.int ((i : Nat) : Int))) (by omega)
    refine ⟨k4, ?_⟩
    rw [List.range'_succ, List.map_cons, forL_cons_nx ht, e]
    rw [show i + 1 + m = i + (m + 1) by omega]
theorem t_al2 (N n : D) (i m : Int) (a1 a2 a5 j4 : Sl) (zf z : Str) (P : Bool) (g : gIx N (.int 2) = some (.int m)) (hs : gSl (.str zf) (some i) (some (i + m)) = some (.str z)) (h : f__law_let .non [N, .str z] = .ok (.bl P) .non) :
    turn (gN 4) l__law_allowed_2 (.int i) [.val N, a1, a2, .val (.str zf), j4, a5] = .ok (if P then .nx else .rt (.bl false)) [.val N, a1, a2, .val (.str zf), .val (.int i), a5] := by
  have ha : gAdd (.int i) (.int m) = some (.int (i + m)) := rfl
  cases P <;> simp [l__law_allowed_2, mSl, mPart, asI, g, ha, hs, h, mkF0, mkF1, fin0, fin1, st0, st1, bnd, Sr.ret, opt, mN, mNB, mB, der, m1, m2, m2b, m2r, mT, asB, mChain, mAnd, mOr, mNot, mAndV, mOrV, mNotV, mIf, mNil, mCons, mTup, mLst, mIsN, mNotN, Sr.isNon, mCal, mCal1, mIsi, mFldB, gFld, mC0, mC1, ap0, ap1, chkO, chkL, putL, mMk, apM, skp, sq, sDrop, sRet, sRetO, sIf, sSet, sSetO, sAsg, sPar, gN, gsN, gsC, gT, gA, sApp, sPutI, sNever, mItems, dItems, mRng, mRng2, gRng, gRng2, sFor, turn, gI, gI0, gLt, gLe, gGt, gGe, gAddI, gAddS, gAddT, gAddL, Sr.gSub, gMul, gMulI, gDiv, gMod, gPow, gNeg, gEq, gNe, dEq, eqS, gLen, gInt1, gMax2, gMin2, gAbs, gLtT, dInts, putD, gIsi, dKind, tInt, tOnly, List.map_cons, List.map_nil, List.length_cons, List.length_nil, List.cons_append, List.nil_append, List.getElem?_cons_zero, List.getElem?_cons_succ, List.set_cons_zero, List.set_cons_succ, List.replicate, Option.some_or, Option.none_or, Option.map_some, Option.map_none, Option.bind_some, Option.bind_none]
theorem f_al2 (a b n k : Nat) (s c : List Bool) (hl : s.length = c.length) (hc : c.length ≤ 1000) (a1 a2 a5 j4 : Sl) : ∃ k4, forL (gN 4) l__law_allowed_2 ((List.range c.length).map fun (a : Nat) => .int ((a : Nat) : Int)) [.val (nums a b n k), a1, a2, .val (.str (S (cds s c))), j4, a5] = .ok (if Hi.okW a b n s c then .nx else .rt (.bl false)) [.val (nums a b n k), a1, a2, .val (.str (S (cds s c))), k4, a5] := by
  have lc : (cds s c).length = c.length := by unfold cds; rw [List.length_zipWith, hl]; omega
  refine forL_stop (fun (a : Nat) => D.int ((a : Nat) : Int)) (fun i => Hi.letB a b (Hi.wnd (Hi.fpL s c) i n) (Hi.wnd (Hi.ffL s c) i n)) (.bl false) (fun j => [.val (nums a b n k), a1, a2, .val (.str (S (cds s c))), j, a5]) (List.range c.length) (fun i hi j => ?_) j4
  rw [List.mem_range] at hi
  have hs := cut_S (cds s c) i (i + n) (by omega) (by omega) (by omega)
  rw [Int.natCast_add, Nat.add_sub_cancel_left] at hs
  have hlt := s_let a b n k (((cds s c).drop i).take n)
  have e1 : (((cds s c).drop i).take n).map (· == 112) = Hi.wnd (Hi.fpL s c) i n := by
    rw [List.map_take, List.map_drop, cds_p]; rfl
  have e2 : (((cds s c).drop i).take n).map (· == 102) = Hi.wnd (Hi.ffL s c) i n := by
    rw [List.map_take, List.map_drop, cds_f]; rfl
  rw [e1, e2] at hlt
  exact t_al2 _ .non (i : Nat) (n : Nat) a1 a2 a5 j _ _ _ rfl hs hlt
theorem mLc_of {m : M (List D)} {w : D → M Unit} {t : M Bool} {el : M D} {vs : List Nat} {e e1 e2 : En} {ds ys : List D} (hm : m e = .ok ds e1) (h : lcL w t el vs ds [] (wipE vs e1) = .ok ys e2) : mLc vs m w t el e = .ok (.lst ys) (rst vs e1 e2) := by
  unfold mLc
  rw [bnd_ok hm]
  simp only [h]
theorem lcL_filter {B : Type} {w : D → M Unit} {t : M Bool} {el : M D} {vs : List Nat} (g h : B → D) (P : B → Bool) (E : En) : ∀ (xs : List B) (acc : List D), acc.length + xs.length ≤ 16777216 →
    (∀ x ∈ xs, ∃ e1 e2, w (g x) E = .ok () e1 ∧ t e1 = .ok (P x) e2 ∧ (P x = false → wipE vs e2 = E) ∧ (P x = true → ∃ e3, el e2 = .ok (h x) e3 ∧ wipE vs e3 = E)) → lcL w t el vs (xs.map g) acc E = .ok (acc ++ (xs.filter P).map h) E
  | [], acc, _, _ => by simp [lcL, Sr.ret]
  | x :: xs, acc, hl, hs => by
    obtain ⟨e1, e2, h1, h2, h3, h4⟩ := hs x (by simp)
    rw [List.length_cons] at hl
    rw [List.map_cons, lcL, bnd_ok h1, bnd_ok h2, List.filter_cons]
    cases hP : P x with
    | false =>
      rw [if_neg (by simp), if_neg (by simp)]
      show lcL w t el vs (List.map g xs) acc (wipE vs e2) = _
      rw [h3 hP]
      exact lcL_filter g h P E xs acc (by omega) fun y hy => hs y (by simp [hy])
    | true =>
      obtain ⟨e3, h5, h6⟩ := h4 hP
      have hz : acc.length < sizeLine := by
        have e : sizeLine = 16777216 := by decide
        omega
      rw [if_pos rfl, if_pos rfl, bnd_ok h5, if_pos hz]
      show lcL w t el vs (List.map g xs) (acc ++ [h x]) (wipE vs e3) = _
      rw [h6, lcL_filter g h P E xs (acc ++ [h x]) (by simp; omega) fun y hy => hs y (by simp [hy])]
      simp
theorem rng_nats (m : Nat) (hm : m ≤ 100000) : gRng [.int ((m : Nat) : Int)] = some ((List.range m).map fun (a : Nat) => .int ((a : Nat) : Int)) := by
  rw [rngI _ (by omega) (by omega)]
  unfold irng
  rw [List.map_map]
  have e : ((m : Int) - 0).toNat = m := by omega
  rw [e]
  congr 1
  refine List.map_congr_left fun i _ => ?_
  simp only [Function.comp, Int.zero_add]
theorem rng1I (W : Int) (h0 : 0 ≤ W) (h1 : W < 1000000) : gRng2 [.int 1, .int W] = some ((irng 1 W).map D.int) := by
  have e1 : okR 1 = true := by decide
  have e2 : okR W = true := by unfold okR; simp; omega
  simp only [gRng2, e1, e2, Bool.and_self, if_true]; rw [rngL_eq]
theorem rng1_nats (m : Nat) (hm : m ≤ 100000) : gRng2 [.int 1, .int ((m : Nat) : Int)] = some ((List.range' 1 (m - 1)).map fun (a : Nat) => .int ((a : Nat) : Int)) := by
  rw [rng1I _ (by omega) (by omega)]
  unfold irng
  have e : ((m : Int) - 1).toNat = m - 1 := by omega
  rw [e, List.range'_eq_map_range, List.map_map, List.map_map]
  congr 1
theorem ne_sts1 (x y : Bool) : gNe (.str (sts [x])) (.str (sts [y])) = some (.bl (x != y)) := by cases x <;> cases y <;> kernel_rfl
theorem ix_sts1 (s : List Bool) (i : Nat) (h : i < s.length) (hl : s.length ≤ 1000) : gIx (.str (sts s)) (.int (i : Nat)) = some (.str (sts [s.getD i false])) := by
  have g1 := ix_S (s.map fun b => if b then 85 else 68) i (by simp; omega) (by simp; omega)
  rw [← sts_S] at g1
  rw [g1, List.getElem_map, List.getD_eq_getElem?_getD, List.getElem?_eq_getElem h]
  rfl
theorem t_st (Z : D) (i j : Int) (z1 z2 : Str) (b : Bool) (a0 a2 a3 a5 : Sl) (hj : gSub (.int i) (.int 1) = some (.int j)) (g1 : gIx Z (.int i) = some (.str z1)) (g2 : gIx Z (.int j) = some (.str z2)) (h : gNe (.str z1) (.str z2) = some (.bl b)) : t__law_allowed_1 [a0, .val Z, a2, a3, .val (.int i), a5] = .ok b [a0, .val Z, a2, a3, .val (.int i), a5] := by
  simp [t__law_allowed_1, hj, g1, g2, h, mkF0, mkF1, fin0, fin1, st0, st1, bnd, Sr.ret, opt, mN, mNB, mB, der, m1, m2, m2b, m2r, mT, asB, mChain, mAnd, mOr, mNot, mAndV, mOrV, mNotV, mIf, mNil, mCons, mTup, mLst, mIsN, mNotN, Sr.isNon, mCal, mCal1, mIsi, mFldB, gFld, mC0, mC1, ap0, ap1, chkO, chkL, putL, mMk, apM, skp, sq, sDrop, sRet, sRetO, sIf, sSet, sSetO, sAsg, sPar, gN, gsN, gsC, gT, gA, sApp, sPutI, sNever, mItems, dItems, mRng, mRng2, gRng, gRng2, sFor, turn, gI, gI0, gLt, gLe, gGt, gGe, gAdd, gAddI, gAddS, gAddT, gAddL, gMul, gMulI, gDiv, gMod, gPow, gNeg, gEq, dEq, eqS, gLen, gInt1, gMax2, gMin2, gAbs, gLtT, dInts, putD, gIsi, dKind, tInt, tOnly, List.map_cons, List.map_nil, List.length_cons, List.length_nil, List.cons_append, List.nil_append, List.getElem?_cons_zero, List.getElem?_cons_succ, List.set_cons_zero, List.set_cons_succ, List.replicate, Option.some_or, Option.none_or, Option.map_some, Option.map_none, Option.bind_some, Option.bind_none]
theorem m_rng1 (N Z : D) (w : Int) (r : List D) (a2 a3 j4 : Sl) (hg : gLen Z = some (.int w)) (hr : gRng2 [.int 1, .int w] = some r) : mRng2 (mCons (ret (.int 1)) (mCons (m1 gLen (mN 1)) mNil)) [.val N, .val Z, a2, a3, j4, .no] = .ok r [.val N, .val Z, a2, a3, j4, .no] := by
  simp [mRng2, mCons, mNil, m1, mN, bnd, opt, Sr.ret, hg, hr]
theorem r_rst (N Z : D) (a2 a3 j4 a5 : Sl) : ∃ k4, rst [4] [.val N, .val Z, a2, a3, j4, a5] [.val N, .val Z, a2, a3, .no, a5] = [.val N, .val Z, a2, a3, k4, a5] := ⟨_, rfl⟩
theorem s_starts (N : D) (s : List Bool) (hs : s.length ≤ 1000) (a2 a3 j4 : Sl) : ∃ k4, mLc [4] (mRng2 (mCons (ret (.int 1)) (mCons (m1 gLen (mN 1)) mNil))) (gN 4) t__law_allowed_1 e__law_allowed_1 [.val N, .val (.str (sts s)), a2, a3, j4, .no] = .ok (.lst (nats (Hi.starts s))) [.val N, .val (.str (sts s)), a2, a3, k4, .no] := by
  have hg : gLen (.str (sts s)) = some (.int (s.length : Nat)) := by
    have := len_S (s.map fun b => if b then 85 else 68) (by rw [List.length_map]; omega)
    rw [← sts_S, List.length_map] at this
    exact this
  have hr := rng1_nats s.length (by omega)
  have hm := m_rng1 N (.str (sts s)) _ _ a2 a3 j4 hg hr
  have hf := lcL_filter (w := gN 4) (t := t__law_allowed_1) (el := e__law_allowed_1) (vs := [4]) (fun (a : Nat) => D.int ((a : Nat) : Int)) (fun (a : Nat) => D.int ((a : Nat) : Int)) (fun i => s.getD i false != s.getD (i - 1) false) [.val N, .val (.str (sts s)), a2, a3, .no, .no] (List.range' 1 (s.length - 1)) [] (by rw [List.length_range']; simp; omega) (fun i hi => by
    rw [List.mem_range'_1] at hi
    have g1 := ix_sts1 s i (by omega) hs
    have g2 := ix_sts1 s (i - 1) (by omega) hs
    have hj : gSub (.int ((i : Nat) : Int)) (.int 1) = some (.int ((i - 1 : Nat) : Int)) := by
      have : ((i - 1 : Nat) : Int) = (i : Int) - 1 := by omega
      rw [this]; rfl
    exact ⟨_, _, rfl, t_st _ (i : Nat) ((i - 1 : Nat) : Int) _ _ _ _ _ _ _ hj g1 g2 (ne_sts1 _ _), fun _ => rfl, fun _ => ⟨_, rfl, rfl⟩⟩)
  rw [List.nil_append] at hf
  obtain ⟨k4, hk⟩ := r_rst N (.str (sts s)) a2 a3 j4 .no
  refine ⟨k4, ?_⟩
  rw [mLc_of (vs := [4]) hm hf, hk]
  rfl
theorem ix_nats (l : List Nat) (i : Nat) (h : i < l.length) : gIx (.lst (nats l)) (.int (i : Nat)) = some (.int ((l.getD i 0 : Nat) : Int)) := by
  simp only [gIx]
  rw [Sr.atI_nat (by unfold nats; rw [List.length_map]; exact h)]
  unfold nats
  rw [List.getElem_map, List.getD_eq_getElem?_getD, List.getElem?_eq_getElem h]
  rfl
theorem t_al3 (N L : D) (i j x y k : Int) (P : Bool) (a1 a2 a3 j4 : Sl) (hj : gSub (.int i) (.int 1) = some (.int j)) (g1 : gIx L (.int i) = some (.int x)) (g2 : gIx L (.int j) = some (.int y)) (g3 : gIx N (.int 3) = some (.int k)) (hP : P = !decide (x - y < k)) :
    turn (gN 4) l__law_allowed_3 (.int i) [.val N, a1, a2, a3, j4, .val L] = .ok (if P then .nx else .rt (.bl false)) [.val N, a1, a2, a3, .val (.int i), .val L] := by
  have hs : gSub (.int x) (.int y) = some (.int (x - y)) := rfl
  have hl : gLt (.int (x - y)) (.int k) = some (.bl (decide (x - y < k))) := rfl
  subst hP
  generalize decide (x - y < k) = q at *
  cases q <;> simp [l__law_allowed_3, hj, g1, g2, g3, hs, hl, mkF0, mkF1, fin0, fin1, st0, st1, bnd, Sr.ret, opt, mN, mNB, mB, der, m1, m2, m2b, m2r, mT, asB, mChain, mAnd, mOr, mNot, mAndV, mOrV, mNotV, mIf, mNil, mCons, mTup, mLst, mIsN, mNotN, Sr.isNon, mCal, mCal1, mIsi, mFldB, gFld, mC0, mC1, ap0, ap1, chkO, chkL, putL, mMk, apM, skp, sq, sDrop, sRet, sRetO, sIf, sSet, sSetO, sAsg, sPar, gN, gsN, gsC, gT, gA, sApp, sPutI, sNever, mItems, dItems, mRng, mRng2, gRng, gRng2, sFor, turn, gI, gI0, gLe, gGt, gGe, gAdd, gAddI, gAddS, gAddT, gAddL, gMul, gMulI, gDiv, gMod, gPow, gNeg, gEq, gNe, dEq, eqS, gLen, gInt1, gMax2, gMin2, gAbs, gLtT, dInts, putD, gIsi, dKind, tInt, tOnly, List.map_cons, List.map_nil, List.length_cons, List.length_nil, List.cons_append, List.nil_append, List.getElem?_cons_zero, List.getElem?_cons_succ, List.set_cons_zero, List.set_cons_succ, List.replicate, Option.some_or, Option.none_or, Option.map_some, Option.map_none, Option.bind_some, Option.bind_none]
theorem f_al3 (a b n k : Nat) (s : List Bool) (hs : s.length ≤ 1000) (a1 a2 a3 j4 : Sl) : ∃ k4, forL (gN 4) l__law_allowed_3 ((List.range' 1 ((Hi.starts s).length - 1)).map fun (a : Nat) => .int ((a : Nat) : Int)) [.val (nums a b n k), a1, a2, a3, j4, .val (.lst (nats (Hi.starts s)))] = .ok (if Hi.okS k s then .nx else .rt (.bl false)) [.val (nums a b n k), a1, a2, a3, k4, .val (.lst (nats (Hi.starts s)))] := by
  refine forL_stop (fun (a : Nat) => D.int ((a : Nat) : Int)) (fun j => !decide ((((Hi.starts s).getD j 0 : Nat) : Int) - (((Hi.starts s).getD (j - 1) 0 : Nat) : Int) < (k : Int))) (.bl false) (fun j => [.val (nums a b n k), a1, a2, a3, j, .val (.lst (nats (Hi.starts s)))]) _ (fun i hi j => ?_) j4
  rw [List.mem_range'_1] at hi
  have hj : gSub (.int ((i : Nat) : Int)) (.int 1) = some (.int ((i - 1 : Nat) : Int)) := by
    have : ((i - 1 : Nat) : Int) = (i : Int) - 1 := by omega
    rw [this]; rfl
  exact t_al3 _ _ (i : Nat) ((i - 1 : Nat) : Int) _ _ (k : Nat) _ _ _ _ _ hj (ix_nats _ i (by omega)) (ix_nats _ (i - 1) (by omega)) rfl rfl
theorem b_al (N L Z C : D) (zf : Str) (n1 n2 n3 : Int) (r1 r2 r3 : List D) (W Q : Bool) (j4 k4 k5 k6 : Sl) (l1 : gLen C = some (.int n1)) (h1 : gRng [.int n1] = some r1) (l2 : gLen (.str zf) = some (.int n2)) (h2 : gRng [.int n2] = some r2) (l3 : gLen L = some (.int n3)) (h3 : gRng2 [.int 1, .int n3] = some r3)
    (X1 X2 X3 : List D → M Fl) (Y : M D) (e1 : forL (gN 4) l__law_allowed_1 = X1) (e2 : forL (gN 4) l__law_allowed_2 = X2) (e3 : forL (gN 4) l__law_allowed_3 = X3) (e4 : mLc [4] (mRng2 (mCons (ret (.int 1)) (mCons (m1 gLen (mN 1)) mNil))) (gN 4) t__law_allowed_1 e__law_allowed_1 = Y)
    (f1 : X1 r1 [.val N, .val Z, .val C, .val (.str ""), .no, .no] = .ok .nx [.val N, .val Z, .val C, .val (.str zf), j4, .no]) (f2 : X2 r2 [.val N, .val Z, .val C, .val (.str zf), j4, .no] = .ok (if W then .nx else .rt (.bl false)) [.val N, .val Z, .val C, .val (.str zf), k4, .no])
    (f4 : Y [.val N, .val Z, .val C, .val (.str zf), k4, .no] = .ok L [.val N, .val Z, .val C, .val (.str zf), k6, .no]) (f3 : X3 r3 [.val N, .val Z, .val C, .val (.str zf), k6, .val L] = .ok (if Q then .nx else .rt (.bl false)) [.val N, .val Z, .val C, .val (.str zf), k5, .val L]) : f__law_allowed .non [N, Z, C] = .ok (.bl (W && Q)) .non := by
  simp only [f__law_allowed, b__law_allowed, sFor, e1, e2, e3, e4]
  cases W with
  | false => simp at f2; simp [l1, h1, l2, h2, f1, f2, mkF0, mkF1, fin0, fin1, st0, st1, bnd, Sr.ret, opt, mN, mNB, mB, der, m1, m2, m2b, m2r, mT, asB, mChain, mAnd, mOr, mNot, mAndV, mOrV, mNotV, mIf, mNil, mCons, mTup, mLst, mIsN, mNotN, Sr.isNon, mCal, mCal1, mIsi, mFldB, gFld, mC0, mC1, ap0, ap1, chkO, chkL, putL, mMk, apM, skp, sq, sDrop, sRet, sRetO, sIf, sSet, sSetO, sAsg, sPar, gN, gsN, gsC, gT, gA, sApp, sPutI, sNever, mItems, dItems, mRng, mRng2, turn, gI, gI0, gLt, gLe, gGt, gGe, gAdd, gAddI, gAddS, gAddT, gAddL, Sr.gSub, gMul, gMulI, gDiv, gMod, gPow, gNeg, gEq, gNe, dEq, eqS, gInt1, gMax2, gMin2, gAbs, gIx, gLtT, dInts, putD, gIsi, dKind, tInt, tOnly, List.map_cons, List.map_nil, List.length_cons, List.length_nil, List.cons_append, List.nil_append, List.getElem?_cons_zero, List.getElem?_cons_succ, List.set_cons_zero, List.set_cons_succ, List.replicate, Option.some_or, Option.none_or, Option.map_some, Option.map_none, Option.bind_some, Option.bind_none]
  | true => cases Q <;> simp at f2 f3 <;> simp [l1, h1, l2, h2, l3, h3, f1, f2, f3, f4, mkF0, mkF1, fin0, fin1, st0, st1, bnd, Sr.ret, opt, mN, mNB, mB, der, m1, m2, m2b, m2r, mT, asB, mChain, mAnd, mOr, mNot, mAndV, mOrV, mNotV, mIf, mNil, mCons, mTup, mLst, mIsN, mNotN, Sr.isNon, mCal, mCal1, mIsi, mFldB, gFld, mC0, mC1, ap0, ap1, chkO, chkL, putL, mMk, apM, skp, sq, sDrop, sRet, sRetO, sIf, sSet, sSetO, sAsg, sPar, gN, gsN, gsC, gT, gA, sApp, sPutI, sNever, mItems, dItems, mRng, mRng2, turn, gI, gI0, gLt, gLe, gGt, gGe, gAdd, gAddI, gAddS, gAddT, gAddL, Sr.gSub, gMul, gMulI, gDiv, gMod, gPow, gNeg, gEq, gNe, dEq, eqS, gInt1, gMax2, gMin2, gAbs, gIx, gLtT, dInts, putD, gIsi, dKind, tInt, tOnly, List.map_cons, List.map_nil, List.length_cons, List.length_nil, List.cons_append, List.nil_append, List.getElem?_cons_zero, List.getElem?_cons_succ, List.set_cons_zero, List.set_cons_succ, List.replicate, Option.some_or, Option.none_or, Option.map_some, Option.map_none, Option.bind_some, Option.bind_none]
theorem s_allowed (a b n k : Nat) (s c : List Bool) (hl : s.length = c.length) (hc : c.length ≤ 1000) : f__law_allowed .non [nums a b n k, .str (sts s), .str (chk c)] = .ok (.bl (Hi.alw a b n k s c)) .non := by
  have lc : (cds s c).length = c.length := by unfold cds; rw [List.length_zipWith, hl]; omega
  obtain ⟨j4, f1⟩ := f_al1 (nums a b n k) s c hl hc .no c.length 0 .no (by omega)
  rw [Nat.zero_add, ← lc, List.take_length, List.take_zero, lc, ← List.range_eq_range'] at f1
  have e0 : S [] = ("" : Str) := by decide
  rw [e0] at f1
  obtain ⟨k4, f2⟩ := f_al2 a b n k s c hl hc (.val (.str (sts s))) (.val (.str (chk c))) .no j4
  obtain ⟨k6, f4⟩ := s_starts (nums a b n k) s (by omega) (.val (.str (chk c))) (.val (.str (S (cds s c)))) k4
  obtain ⟨k5, f3⟩ := f_al3 a b n k s (by omega) (.val (.str (sts s))) (.val (.str (chk c))) (.val (.str (S (cds s c)))) k6
  have l1 : gLen (.str (chk c)) = some (.int (c.length : Nat)) := by
    have := len_S (c.map fun b => if b then 43 else 45) (by simp; omega)
    rw [← chk_S] at this
    simpa using this
  have l2 := len_S (cds s c) (by omega)
  rw [lc] at l2
  have l3 : gLen (.lst (nats (Hi.starts s))) = some (.int ((Hi.starts s).length : Nat)) := by unfold nats; simp only [gLen, List.length_map]
  have ls : (Hi.starts s).length ≤ 1000 := by
    unfold Hi.starts
    refine Nat.le_trans (List.length_filter_le _ _) ?_
    rw [List.length_range']; omega
  exact b_al _ _ _ _ _ _ _ _ _ _ _ _ _ _ _ _ _ l1 (rng_nats _ (by omega)) l2 (rng_nats _ (by omega)) l3 (rng1_nats _ (by omega)) _ _ _ _ rfl rfl rfl rfl f1 f2 f4 f3
theorem fold_app (a : Array Nat) : ∀ (m : Nat) (acc : Array Nat), (List.replicate m a).foldl (· ++ ·) acc = acc ++ (List.replicate m a.toList).flatten.toArray
  | 0, acc => by simp
  | m + 1, acc => by
    rw [List.replicate_succ, List.replicate_succ, List.foldl_cons, fold_app a m (acc ++ a), List.flatten_cons]
    apply Array.toList_inj.1
    simp
theorem mul_St (l : List Nat) (m : Nat) : Txt.mul (S l) (m : Int) = S (List.replicate m l).flatten := by
  unfold Txt.mul
  by_cases h0 : (m : Int) < 1
  · rw [if_pos h0]
    have : m = 0 := by omega
    subst this
    rfl
  · rw [if_neg h0]
    by_cases h1 : ((m : Int) == 1 || (S l).length == 0) = true
    · rw [if_pos h1]
      rw [Bool.or_eq_true, beq_iff_eq, beq_iff_eq, S_len] at h1
      rcases h1 with h1 | h1
      · have : m = 1 := by omega
        subst this
        simp
      · have : l = [] := List.eq_nil_of_length_eq_zero h1
        subst this
        simp
    · rw [if_neg h1, Int.toNat_natCast, fold_app]
      unfold S
      congr 1
      simp
theorem mul_S (l : List Nat) (m : Nat) (h1 : m ≤ 1000) (h2 : l.length ≤ 100) : gMulA (.str (S l)) (.int (m : Int)) = some (.str (S (List.replicate m l).flatten)) := by
  have e : gMulS (.str (S l)) (.int (m : Int)) = some (.str (Txt.mul (S l) (m : Int))) := by
    simp only [gMulS]
    rw [if_pos ⟨by omega, by omega, by rw [S_len]; exact h2⟩]
  show (none : Option D).or ((gMulS (.str (S l)) (.int (m : Int))).or _) = _
  rw [e, mul_St]
  rfl
theorem flat1 (m c : Nat) : (List.replicate m [c]).flatten = List.replicate m c := by
  induction m with
  | zero => rfl
  | succ m ih => rw [List.replicate_succ, List.flatten_cons, ih]; rfl
theorem mul_c (b : Bool) (m : Nat) (h1 : m ≤ 1000) : gMulA (.str (chk [b])) (.int (m : Int)) = some (.str (chk (rep m b))) := by
  have := mul_S [if b then 43 else 45] m h1 (by simp)
  rw [flat1] at this
  rw [chk_S, chk_S]
  unfold rep
  rw [List.map_replicate]
  exact this
theorem mul_s (b : Bool) (m : Nat) (h1 : m ≤ 1000) : gMulA (.str (sts [b])) (.int (m : Int)) = some (.str (sts (rep m b))) := by
  have := mul_S [if b then 85 else 68] m h1 (by simp)
  rw [flat1] at this
  rw [sts_S, sts_S]
  unfold rep
  rw [List.map_replicate]
  exact this
theorem mul_cw (w : List Bool) (m : Nat) (h1 : m ≤ 1000) (h2 : w.length ≤ 100) : gMulA (.str (chk w)) (.int (m : Int)) = some (.str (chk (List.replicate m w).flatten)) := by
  have := mul_S (w.map fun b => if b then 43 else 45) m h1 (by simp; exact h2)
  rw [chk_S, chk_S, this, List.map_flatten, List.map_replicate]
theorem add_c (u v : List Bool) (h : u.length + v.length ≤ 1000) : gAdd (.str (chk u)) (.str (chk v)) = some (.str (chk (u ++ v))) := by
  rw [chk_S, chk_S, chk_S, List.map_append]
  exact add_S _ _ (by simp; omega)
theorem add_s (u v : List Bool) (h : u.length + v.length ≤ 1000) : gAdd (.str (sts u)) (.str (sts v)) = some (.str (sts (u ++ v))) := by
  rw [sts_S, sts_S, sts_S, List.map_append]
  exact add_S _ _ (by simp; omega)
theorem len_c (u : List Bool) (h : u.length ≤ 1000) : gLen (.str (chk u)) = some (.int (u.length : Nat)) := by
  have := len_S (u.map fun b => if b then 43 else 45) (by rw [List.length_map]; omega)
  rw [List.length_map] at this
  exact this
theorem len_s (u : List Bool) (h : u.length ≤ 1000) : gLen (.str (sts u)) = some (.int (u.length : Nat)) := by
  have := len_S (u.map fun b => if b then 85 else 68) (by rw [List.length_map]; omega)
  rw [List.length_map] at this
  exact this
theorem top_S (l : List Nat) (j : Nat) (hl : l.length ≤ 100000) : gSl (.str (S l)) none (some (j : Int)) = some (.str (S (l.take j))) := by
  have := cut_S l 0 j (Nat.zero_le _) (Nat.zero_le _) hl
  rw [List.drop_zero, Nat.sub_zero] at this
  rw [← this]
  simp only [gSl]
  rw [if_pos (by rw [S_len]; exact sz hl), if_pos (by rw [S_len]; exact sz hl)]
  rfl
theorem top_c (w : List Bool) (j : Nat) (hl : w.length ≤ 100000) : gSl (.str (chk w)) none (some (j : Int)) = some (.str (chk (w.take j))) := by
  rw [chk_S, chk_S, List.map_take]
  exact top_S _ _ (by simp; exact hl)
theorem ends_S (x t : List Nat) : Txt.endswith (S (x ++ t)) (S t) = true := by
  unfold Txt.endswith
  rw [PySem.StrLaws.subAt_eq, S_len, S_len]
  have e1 : (S (x ++ t)).cps.toList = x ++ t := rfl
  have e2 : (S t).cps.toList = t := rfl
  rw [e1, e2, List.length_append, Nat.add_sub_cancel, List.drop_left, List.take_length]
  simp
theorem ends_s (x : List Bool) (u : Bool) (n : Nat) : gEnds (sts (x ++ rep n u)) [.str (sts (rep n u))] = some (.bl true) := by
  have := ends_S (x.map fun b => if b then 85 else 68) ((rep n u).map fun b => if b then 85 else 68)
  rw [← List.map_append] at this
  show some (D.bl (Txt.endswith (sts (x ++ rep n u)) (sts (rep n u)))) = _
  rw [sts_S, sts_S, this]
theorem str_ext {q : Str} (h : q.cps.toList = []) : q = S [] := by
  obtain ⟨q⟩ := q
  unfold S
  congr 1
  exact Array.toList_inj.1 h
theorem tw_all (g : Nat → Bool) : ∀ (l : List Nat), (∀ c ∈ l, g c = true) → l.takeWhile g = l
  | [], _ => rfl
  | c :: l, h => by rw [List.takeWhile_cons, if_pos (h c (by simp)), tw_all g l fun x hx => h x (by simp [hx])]
theorem strip_S (l : List Nat) (y : Str) (h : ∀ c ∈ l, y.cps.contains c = true) : Txt.stripChars (S l) y = ("" : Str) := by
  have tw := tw_all y.cps.contains l h
  have e0 : S [] = ("" : Str) := by decide
  have lo : stripLo y.cps.contains true (S l) = l.length := by
    show (l.takeWhile y.cps.contains).length = l.length
    rw [tw]
  unfold Txt.stripChars Txt.stripBy
  split
  · rename_i hs
    unfold stripSame at hs
    rw [lo, Bool.and_eq_true, beq_iff_eq] at hs
    rw [List.eq_nil_of_length_eq_zero hs.1, e0]
  · unfold stripped
    rw [lo, ← e0]
    have := PySem.StrLaws.strSub_toList (S l) l.length (stripHi y.cps.contains true (S l) l.length)
    have e1 : (S l).cps.toList = l := rfl
    rw [e1, List.drop_length, List.take_nil] at this
    exact str_ext this
theorem strip_s (w : List Bool) (h : w.length ≤ 1000) : gStrip (sts w) [.str "UD"] = some (.str "") := by
  have e : Txt.stripChars (sts w) ("UD" : Str) = ("" : Str) := by
    refine strip_S (w.map fun b => if b then 85 else 68) _ fun c hc => ?_
    rw [List.mem_map] at hc
    obtain ⟨b, _, rfl⟩ := hc
    cases b <;> decide +kernel
  simp only [gStrip, gS1]
  rw [if_pos (by rw [sts_S, S_len, List.length_map]; exact sz (by omega)), e]
theorem strip_c (w : List Bool) (h : w.length ≤ 1000) : gStrip (chk w) [.str "+-"] = some (.str "") := by
  have e : Txt.stripChars (chk w) ("+-" : Str) = ("" : Str) := by
    refine strip_S (w.map fun b => if b then 43 else 45) _ fun c hc => ?_
    rw [List.mem_map] at hc
    obtain ⟨b, _, rfl⟩ := hc
    cases b <;> decide +kernel
  simp only [gStrip, gS1]
  rw [if_pos (by rw [chk_S, S_len, List.length_map]; exact sz (by omega)), e]
theorem bools_map {A : Type} (p : A → Bool) : ∀ l : List A, dBools (l.map fun x => .bl (p x)) = some (l.map p)
  | [] => rfl
  | x :: l => by rw [List.map_cons, dBools, bools_map p l]; rfl
theorem s_made_of (z g : Str) (hz : z.length ≤ 16777216) : f_is_made_of .non [.str z, .str g] = .ok (.bl (z.cps.toList.all fun c => decide (c ∈ g.cps.toList))) .non := by
  have h := mLc_map (m := mItems (mN 0)) (w := gN 2) (t := t_is_made_of_1) (el := e_is_made_of_1) (vs := [2]) (e := [.val (.str z), .val (.str g), .no]) (e1 := [.val (.str z), .val (.str g), .no]) (xs := z.cps.toList) (fun c => .str ⟨#[c]⟩) (fun c => .bl (decide (c ∈ g.cps.toList))) (by simp [mItems, mN, bnd, opt, dItems]) (by simpa [Str.length] using hz) (fun c hc => by
    refine ⟨[.val (.str z), .val (.str g), .val (.str ⟨#[c]⟩)], [.val (.str z), .val (.str g), .val (.str ⟨#[c]⟩)], [.val (.str z), .val (.str g), .val (.str ⟨#[c]⟩)], rfl, rfl, ?_, rfl⟩
    simp [e_is_made_of_1, m2, bnd, mN, opt, gIn, gInG])
  have ha : gAll (.lst (z.cps.toList.map fun c => D.bl (decide (c ∈ g.cps.toList)))) = some (.bl (z.cps.toList.all fun c => decide (c ∈ g.cps.toList))) := by
    simp only [gAll, bools_map]
    simp [List.all_map]
  have k1 : isB_str (.str z) = some true := rfl
  have e0 : st0 3 [.str z, .str g] = [.val (.str z), .val (.str g), .no] := rfl
  generalize (z.cps.toList.map fun c => D.bl (decide (c ∈ g.cps.toList))) = L at h ha
  generalize (z.cps.toList.all fun c => decide (c ∈ g.cps.toList)) = B at ha ⊢
  simp [f_is_made_of, b_is_made_of, mkF0, e0, h, k1, ha, mAndV, mIsi, m1, bnd, mN, opt, Sr.ret, asB, sRet, fin0]
theorem s_made_no (v : D) (g : Str) (kd : Kd) (hk : dKind v = some (.inl kd)) (hn : kd ≠ .str) : f_is_made_of .non [v, .str g] = .ok (.bl false) .non := by
  have k1 : isB_str v = some false := by simp [isB_str, gIsi, hk, tOnly, hn]
  simp [f_is_made_of, b_is_made_of, k1, mkF0, st0, mAndV, mIsi, bnd, mN, opt, Sr.ret, asB, sRet, fin0, List.replicate]
def okChk (z : Str) : Bool := (z.cps.toList.all fun c => decide (c ∈ ("+-" : Str).cps.toList)) && decide (z.length ≤ 60)
theorem tw_split (g : Nat → Bool) : ∀ (l : List Nat), l.all g = false → ∃ a t, l.drop (l.takeWhile g).length = a :: t ∧ g a = false
  | [], h => by simp at h
  | c :: l, h => by
    cases q : g c with
    | false => exact ⟨c, l, by rw [List.takeWhile_cons, q]; rfl, q⟩
    | true =>
      rw [List.all_cons, q, Bool.true_and] at h
      obtain ⟨a, t, e1, e2⟩ := tw_split g l h
      exact ⟨a, t, by rw [List.takeWhile_cons, if_pos q, List.length_cons, List.drop_succ_cons]; exact e1, e2⟩
theorem tw_back (g : Nat → Bool) (a : Nat) (t : List Nat) (h : g a = false) : ((a :: t).reverse.takeWhile g).length ≤ t.length := by
  rw [List.reverse_cons, List.takeWhile_append]
  split
  · rw [List.takeWhile_cons, if_neg (by simp [h]), List.append_nil, List.length_reverse]
    exact Nat.le_refl _
  · have := (List.takeWhile_prefix (p := g) (l := t.reverse)).length_le
    rw [List.length_reverse] at this
    exact this
theorem str_ne (z : Str) (h : z.cps.toList ≠ []) : gEq (.str z) (.str "") = some (.bl false) := by
  have : ¬ z = ("" : Str) := fun e => h (by rw [e]; decide)
  simp [gEq, dEq, eqS, this]
theorem strip_any (l : List Nat) (y : Str) (hl : l.length ≤ 100000) : ∃ z', gStrip (S l) [.str y] = some (.str z') ∧ gEq (.str z') (.str "") = some (.bl (l.all y.cps.contains)) := by
  have hs : gStrip (S l) [.str y] = some (.str (Txt.stripChars (S l) y)) := by
    simp only [gStrip, gS1]
    rw [if_pos (by rw [S_len]; exact sz hl)]
  refine ⟨_, hs, ?_⟩
  cases q : l.all y.cps.contains with
  | true =>
    rw [List.all_eq_true] at q
    rw [strip_S l y fun c hc => q c hc]
    simp [gEq, dEq, eqS]
  | false =>
    obtain ⟨a, t, e1, e2⟩ := tw_split y.cps.contains l q
    apply str_ne
    have lo : stripLo y.cps.contains true (S l) = (l.takeWhile y.cps.contains).length := rfl
    unfold Txt.stripChars Txt.stripBy
    split
    · intro e
      have e : l = [] := e
      rw [e] at q
      simp at q
    · unfold stripped
      rw [PySem.StrLaws.strSub_toList]
      show (l.drop _).take _ ≠ []
      have hi : stripHi y.cps.contains true (S l) (stripLo y.cps.contains true (S l)) = l.length - ((l.drop (l.takeWhile y.cps.contains).length).reverse.takeWhile y.cps.contains).length := by
        rw [lo]
        unfold stripHi
        rw [if_pos rfl, S_len]
        rfl
      rw [hi, lo, e1]
      have hb := tw_back y.cps.contains a t e2
      have hlen := congrArg List.length e1
      rw [List.length_drop, List.length_cons] at hlen
      have : l.length - ((a :: t).reverse.takeWhile y.cps.contains).length - (l.takeWhile y.cps.contains).length = (l.length - ((a :: t).reverse.takeWhile y.cps.contains).length - (l.takeWhile y.cps.contains).length - 1) + 1 := by omega
      rw [this, List.take_succ_cons]
      simp
theorem dec_two (l : List Nat) (a b : Nat) (h : ∀ c ∈ l, c = a ∨ c = b) : ∃ s : List Bool, l = s.map fun x => if x then a else b := by
  induction l with
  | nil => exact ⟨[], rfl⟩
  | cons c l ih =>
    obtain ⟨s, rfl⟩ := ih fun x hx => h x (by simp [hx])
    rcases h c (by simp) with rfl | rfl
    · exact ⟨true :: s, rfl⟩
    · exact ⟨false :: s, rfl⟩
def isUD (l : List Nat) : Bool := l.all ("UD" : Str).cps.contains
def isPM (l : List Nat) : Bool := l.all ("+-" : Str).cps.contains
theorem cUD (c : Nat) : ("UD" : Str).cps.contains c = decide (c = 85 ∨ c = 68) := by
  have e : ("UD" : Str).cps = #[85, 68] := by decide
  rw [e]
  by_cases h1 : c = 85 <;> by_cases h2 : c = 68 <;> simp [Array.contains, h1, h2]
theorem cPM (c : Nat) : ("+-" : Str).cps.contains c = decide (c = 43 ∨ c = 45) := by
  have e : ("+-" : Str).cps = #[43, 45] := by decide
  rw [e]
  by_cases h1 : c = 43 <;> by_cases h2 : c = 45 <;> simp [Array.contains, h1, h2]
theorem dec_ud {l : List Nat} (h : isUD l = true) : ∃ s : List Bool, S l = sts s ∧ l.length = s.length := by
  unfold isUD at h
  rw [List.all_eq_true] at h
  obtain ⟨s, rfl⟩ := dec_two l 85 68 fun c hc => by have := h c hc; rw [cUD] at this; simpa using this
  exact ⟨s, rfl, by simp⟩
theorem dec_pm {l : List Nat} (h : isPM l = true) : ∃ s : List Bool, S l = chk s ∧ l.length = s.length := by
  unfold isPM at h
  rw [List.all_eq_true] at h
  obtain ⟨s, rfl⟩ := dec_two l 43 45 fun c hc => by have := h c hc; rw [cPM] at this; simpa using this
  exact ⟨s, rfl, by simp⟩
theorem mem_ud (l : List Nat) : (l.all fun c => decide (c ∈ ("UD" : Str).cps.toList)) = isUD l := by
  unfold isUD
  congr 1
  funext c
  rw [cUD]
  have e : ("UD" : Str).cps.toList = [85, 68] := by decide
  rw [e]
  simp
theorem mem_pm (l : List Nat) : (l.all fun c => decide (c ∈ ("+-" : Str).cps.toList)) = isPM l := by
  unfold isPM
  congr 1
  funext c
  rw [cPM]
  have e : ("+-" : Str).cps.toList = [43, 45] := by decide
  rw [e]
  simp
def isH (l1 l2 : List Nat) : Bool := decide (l1.length = l2.length) && isUD l1 && isPM l2
theorem b_lawh (z1 z2 y1 y2 : Str) (n1 n2 : Int) (P Q : Bool) (l1 : gLen (.str z1) = some (.int n1)) (l2 : gLen (.str z2) = some (.int n2)) (s1 : gStrip z1 [.str "UD"] = some (.str y1)) (s2 : gStrip z2 [.str "+-"] = some (.str y2)) (q1 : gEq (.str y1) (.str "") = some (.bl P)) (q2 : gEq (.str y2) (.str "") = some (.bl Q)) : f__law_is_history .non [.tup [.str z1, .str z2]] = .ok (.bl (decide (n1 = n2) && P && Q)) .non := by
  have q : isB_tuple (.tup [.str z1, .str z2]) = some true := rfl
  have k1 : isB_str (.str z1) = some true := rfl
  have k2 : isB_str (.str z2) = some true := rfl
  have i0 : gIx (.tup [.str z1, .str z2]) (.int 0) = some (.str z1) := rfl
  have i1 : gIx (.tup [.str z1, .str z2]) (.int 1) = some (.str z2) := rfl
  have l0 : gLen (.tup [.str z1, .str z2]) = some (.int 2) := rfl
  have w0 : gNe (.int 2) (.int 2) = some (.bl false) := rfl
  have w1 : gNe (.int n1) (.int n2) = some (.bl (!decide (n1 = n2))) := by simp [gNe, dEq, eqS]
  generalize decide (n1 = n2) = B at *
  cases B <;> cases P <;> simp [f__law_is_history, b__law_is_history, mMt, asS, q, k1, k2, i0, i1, l0, l1, l2, w0, w1, s1, s2, q1, q2, mkF0, mkF1, fin0, fin1, st0, st1, bnd, Sr.ret, opt, mN, mNB, mB, der, m1, m2, m2b, m2r, mT, asB, mChain, mAnd, mOr, mNot, mAndV, mOrV, mNotV, mIf, mNil, mCons, mTup, mLst, mIsN, mNotN, Sr.isNon, mCal, mCal1, mIsi, mFldB, gFld, mC0, mC1, ap0, ap1, chkO, chkL, putL, mMk, apM, skp, sq, sDrop, sRet, sRetO, sIf, sSet, sSetO, sAsg, sPar, gN, gsN, gsC, gT, gA, sApp, sPutI, sNever, mItems, dItems, mRng, mRng2, gRng, gRng2, sFor, turn, gI, gI0, gLt, gLe, gGt, gGe, gAdd, gAddI, gAddS, gAddT, gAddL, Sr.gSub, gMul, gMulI, gDiv, gMod, gPow, gNeg, dEq, eqS, gInt1, gMax2, gMin2, gAbs, gLtT, dInts, putD, dKind, tInt, tOnly, List.map_cons, List.map_nil, List.length_cons, List.length_nil, List.cons_append, List.nil_append, List.getElem?_cons_zero, List.getElem?_cons_succ, List.set_cons_zero, List.set_cons_succ, List.replicate, Option.some_or, Option.none_or, Option.map_some, Option.map_none, Option.bind_some, Option.bind_none]
theorem s_lawh (l1 l2 : List Nat) (h1 : l1.length ≤ 100000) (h2 : l2.length ≤ 100000) : f__law_is_history .non [.tup [.str (S l1), .str (S l2)]] = .ok (.bl (isH l1 l2)) .non := by
  obtain ⟨y1, s1, q1⟩ := strip_any l1 "UD" h1
  obtain ⟨y2, s2, q2⟩ := strip_any l2 "+-" h2
  rw [b_lawh _ _ _ _ _ _ _ _ (len_S l1 h1) (len_S l2 h2) s1 s2 q1 q2]
  unfold isH isUD isPM
  congr 4
  rw [decide_eq_decide]
  omega
theorem ud_eq : gAdd (.str "U") (.str "D") = some (.str "UD") := by kernel_rfl
theorem pm_eq : gAdd (.str "+") (.str "-") = some (.str "+-") := by kernel_rfl
theorem b_progh (z1 z2 : Str) (n1 n2 : Int) (P Q : Bool) (l1 : gLen (.str z1) = some (.int n1)) (l2 : gLen (.str z2) = some (.int n2)) (s1 : f_is_made_of .non [.str z1, .str "UD"] = .ok (.bl P) .non) (s2 : f_is_made_of .non [.str z2, .str "+-"] = .ok (.bl Q) .non) : f_is_history .non [.tup [.str z1, .str z2]] = .ok (.bl (decide (n1 = n2) && P && Q)) .non := by
  have q : isB_tuple (.tup [.str z1, .str z2]) = some true := rfl
  have i0 : gIx (.tup [.str z1, .str z2]) (.int 0) = some (.str z1) := rfl
  have i1 : gIx (.tup [.str z1, .str z2]) (.int 1) = some (.str z2) := rfl
  have l0 : gLen (.tup [.str z1, .str z2]) = some (.int 2) := rfl
  have w0 : gNe (.int 2) (.int 2) = some (.bl false) := rfl
  have w1 : gEq (.int n1) (.int n2) = some (.bl (decide (n1 = n2))) := by simp [gEq, dEq, eqS]
  generalize decide (n1 = n2) = B at *
  have u1 := ud_eq
  have u2 := pm_eq
  cases B <;> cases P <;> cases Q <;> simp [f_is_history, b_is_history, q, i0, i1, l0, l1, l2, w0, w1, s1, s2, u1, u2, mkF0, mkF1, fin0, fin1, st0, st1, bnd, Sr.ret, opt, mN, mNB, mB, der, m1, m2, m2b, m2r, mT, asB, mChain, mAnd, mOr, mNot, mAndV, mOrV, mNotV, mIf, mNil, mCons, mTup, mLst, mIsN, mNotN, Sr.isNon, mCal, mCal1, mIsi, mFldB, gFld, mC0, mC1, ap0, ap1, chkO, chkL, putL, mMk, apM, skp, sq, sDrop, sRet, sRetO, sIf, sSet, sSetO, sAsg, sPar, gN, gsN, gsC, gT, gA, sApp, sPutI, sNever, mItems, dItems, mRng, mRng2, gRng, gRng2, sFor, turn, gI, gI0, gLt, gLe, gGt, gGe, gAddI, gAddS, gAddT, gAddL, Sr.gSub, gMul, gMulI, gDiv, gMod, gPow, gNeg, dEq, eqS, gInt1, gMax2, gMin2, gAbs, gLtT, dInts, putD, dKind, tInt, tOnly, List.map_cons, List.map_nil, List.length_cons, List.length_nil, List.cons_append, List.nil_append, List.getElem?_cons_zero, List.getElem?_cons_succ, List.set_cons_zero, List.set_cons_succ, List.replicate, Option.some_or, Option.none_or, Option.map_some, Option.map_none, Option.bind_some, Option.bind_none]
theorem s_progh (l1 l2 : List Nat) (h1 : l1.length ≤ 100000) (h2 : l2.length ≤ 100000) : f_is_history .non [.tup [.str (S l1), .str (S l2)]] = .ok (.bl (isH l1 l2)) .non := by
  have s1 := s_made_of (S l1) "UD" (by rw [S_len]; omega)
  have s2 := s_made_of (S l2) "+-" (by rw [S_len]; omega)
  rw [b_progh _ _ _ _ _ _ (len_S l1 h1) (len_S l2 h2) s1 s2]
  have e1 := mem_ud l1
  have e2 := mem_pm l2
  have e3 : (S l1).cps.toList = l1 := rfl
  have e4 : (S l2).cps.toList = l2 := rfl
  rw [e3, e4, e1, e2]
  unfold isH
  congr 4
  rw [decide_eq_decide]
  omega
theorem t_psl (Z : D) (i j : Int) (z1 z2 : Str) (b : Bool) (a0 a2 a4 a5 : Sl) (hj : gSub (.int i) (.int 1) = some (.int j)) (g1 : gIx Z (.int i) = some (.str z1)) (g2 : gIx Z (.int j) = some (.str z2)) (h : gNe (.str z1) (.str z2) = some (.bl b)) : t_are_stays_long_1 [a0, .val Z, a2, .val (.int i), a4, a5] = .ok b [a0, .val Z, a2, .val (.int i), a4, a5] := by
  simp [t_are_stays_long_1, hj, g1, g2, h, mkF0, mkF1, fin0, fin1, st0, st1, bnd, Sr.ret, opt, mN, mNB, mB, der, m1, m2, m2b, m2r, mT, asB, mChain, mAnd, mOr, mNot, mAndV, mOrV, mNotV, mIf, mNil, mCons, mTup, mLst, mIsN, mNotN, Sr.isNon, mCal, mCal1, mIsi, mFldB, gFld, mC0, mC1, ap0, ap1, chkO, chkL, putL, mMk, apM, skp, sq, sDrop, sRet, sRetO, sIf, sSet, sSetO, sAsg, sPar, gN, gsN, gsC, gT, gA, sApp, sPutI, sNever, mItems, dItems, mRng, mRng2, gRng, gRng2, sFor, turn, gI, gI0, gLt, gLe, gGt, gGe, gAdd, gAddI, gAddS, gAddT, gAddL, gMul, gMulI, gDiv, gMod, gPow, gNeg, gEq, dEq, eqS, gLen, gInt1, gMax2, gMin2, gAbs, gLtT, dInts, putD, gIsi, dKind, tInt, tOnly, List.map_cons, List.map_nil, List.length_cons, List.length_nil, List.cons_append, List.nil_append, List.getElem?_cons_zero, List.getElem?_cons_succ, List.set_cons_zero, List.set_cons_succ, List.replicate, Option.some_or, Option.none_or, Option.map_some, Option.map_none, Option.bind_some, Option.bind_none]
theorem m_rngp (N Z : D) (w : Int) (r : List D) (a2 j3 a4 a5 : Sl) (hg : gLen Z = some (.int w)) (hr : gRng2 [.int 1, .int w] = some r) : mRng2 (mCons (ret (.int 1)) (mCons (m1 gLen (mN 1)) mNil)) [.val N, .val Z, a2, j3, a4, a5] = .ok r [.val N, .val Z, a2, j3, a4, a5] := by
  simp [mRng2, mCons, mNil, m1, mN, bnd, opt, Sr.ret, hg, hr]
theorem s_startsP (N : D) (s : List Bool) (hs : s.length ≤ 1000) (j3 : Sl) : ∃ k3, mLc [3] (mRng2 (mCons (ret (.int 1)) (mCons (m1 gLen (mN 1)) mNil))) (gN 3) t_are_stays_long_1 e_are_stays_long_1 [.val N, .val (.str (sts s)), .no, j3, .no, .no] = .ok (.lst (nats (Hi.starts s))) [.val N, .val (.str (sts s)), .no, k3, .no, .no] := by
  have hg : gLen (.str (sts s)) = some (.int (s.length : Nat)) := by
    have := len_S (s.map fun b => if b then 85 else 68) (by rw [List.length_map]; omega)
    rw [← sts_S, List.length_map] at this
    exact this
  have hr := rng1_nats s.length (by omega)
  have hm := m_rngp N (.str (sts s)) _ _ .no j3 .no .no hg hr
  have hf := lcL_filter (w := gN 3) (t := t_are_stays_long_1) (el := e_are_stays_long_1) (vs := [3]) (fun (a : Nat) => D.int ((a : Nat) : Int)) (fun (a : Nat) => D.int ((a : Nat) : Int)) (fun i => s.getD i false != s.getD (i - 1) false) [.val N, .val (.str (sts s)), .no, .no, .no, .no] (List.range' 1 (s.length - 1)) [] (by rw [List.length_range']; simp; omega) (fun i hi => by
    rw [List.mem_range'_1] at hi
    have g1 := ix_sts1 s i (by omega) hs
    have g2 := ix_sts1 s (i - 1) (by omega) hs
    have hj : gSub (.int ((i : Nat) : Int)) (.int 1) = some (.int ((i - 1 : Nat) : Int)) := by
      have : ((i - 1 : Nat) : Int) = (i : Int) - 1 := by omega
      rw [this]; rfl
    exact ⟨_, _, rfl, t_psl _ (i : Nat) ((i - 1 : Nat) : Int) _ _ _ _ _ _ _ hj g1 g2 (ne_sts1 _ _), fun _ => rfl, fun _ => ⟨_, rfl, rfl⟩⟩)
  rw [List.nil_append] at hf
  obtain ⟨k3, hk⟩ : ∃ k3, rst [3] [.val N, .val (.str (sts s)), .no, j3, .no, .no] [.val N, .val (.str (sts s)), .no, .no, .no, .no] = [.val N, .val (.str (sts s)), .no, k3, .no, .no] := ⟨_, rfl⟩
  refine ⟨k3, ?_⟩
  rw [mLc_of (vs := [3]) hm hf, hk]
  rfl
theorem cut1 (ds : List D) (h : ds.length ≤ 100000) : gSl (.lst ds) (some 1) none = some (.lst ds.tail) := by
  show some (D.lst (cutD ds (some 1) none)) = _
  unfold cutD
  have e1 : HT.sIx ds.length 0 (some (1 : Int)) = min 1 ds.length := by
    simp only [HT.sIx]
    split <;> omega
  have e2 : HT.sIx ds.length ds.length none = ds.length := rfl
  rw [e1, e2]
  cases ds with
  | nil => rfl
  | cons d ds => simp
def prs (l : List Nat) : List (Nat × Nat) := l.zip l.tail
theorem zip_prs (l : List Nat) : zipL (nats l) (nats l).tail = (prs l).map fun p => D.tup [.int ((p.1 : Nat) : Int), .int ((p.2 : Nat) : Int)] := by
  have H : ∀ (a b : List Nat), zipL (nats a) (nats b) = (a.zip b).map fun p => D.tup [.int ((p.1 : Nat) : Int), .int ((p.2 : Nat) : Int)] := by
    intro a
    induction a with
    | nil => intro b; rfl
    | cons x a ih =>
      intro b
      cases b with
      | nil => rfl
      | cons y b =>
        show _ :: zipL (nats a) (nats b) = _
        rw [ih b]
        rfl
  have : (nats l).tail = nats l.tail := by cases l <;> rfl
  rw [this, H]
  rfl
theorem okS_prs (k : Nat) (s : List Bool) : Hi.okS k s = (prs (Hi.starts s)).all fun p => decide ((k : Int) ≤ (p.2 : Int) - (p.1 : Int)) := by
  unfold Hi.okS prs
  generalize Hi.starts s = l
  rw [Bool.eq_iff_iff, List.all_eq_true, List.all_eq_true]
  constructor
  · intro h p hp
    obtain ⟨i, hi, e⟩ := List.mem_iff_getElem.1 hp
    have hl : i < l.length ∧ i < l.tail.length := by
      rw [List.length_zip] at hi
      omega
    rw [List.getElem_zip] at e
    rw [List.length_tail] at hl
    have := h (i + 1) (by rw [List.mem_range'_1]; omega)
    rw [Nat.add_sub_cancel] at this
    have g1 : l.getD (i + 1) 0 = p.2 := by
      rw [← e, List.getElem_tail, List.getD_eq_getElem?_getD, List.getElem?_eq_getElem (by omega)]
      rfl
    have g2 : l.getD i 0 = p.1 := by
      rw [← e, List.getD_eq_getElem?_getD, List.getElem?_eq_getElem (by omega)]
      rfl
    rw [g1, g2] at this
    simp at this ⊢
    omega
  · intro h j hj
    rw [List.mem_range'_1] at hj
    have hz : j - 1 < (l.zip l.tail).length := by rw [List.length_zip, List.length_tail]; omega
    have := h _ (List.getElem_mem hz)
    rw [List.getElem_zip] at this
    have g1 : l.getD j 0 = l.tail[j - 1]'(by rw [List.length_tail]; omega) := by
      rw [List.getElem_tail, List.getD_eq_getElem?_getD, List.getElem?_eq_getElem (by omega)]
      have : j - 1 + 1 = j := by omega
      simp only [this]
      rfl
    have g2 : l.getD (j - 1) 0 = l[j - 1]'(by omega) := by
      rw [List.getD_eq_getElem?_getD, List.getElem?_eq_getElem (by omega)]
      rfl
    rw [g1, g2]
    simp at this ⊢
    omega
theorem e_psl (a b n k x y : Int) (a1 a2 a3 : Sl) : e_are_stays_long_2 [.val (lim a b n k), a1, a2, a3, .val (.int x), .val (.int y)] = .ok (.bl (decide (k ≤ y - x))) [.val (lim a b n k), a1, a2, a3, .val (.int x), .val (.int y)] := by
  have h1 : gFld "Limits" "least_stay" (lim a b n k) = some (.int k) := rfl
  have h2 : gSub (.int y) (.int x) = some (.int (y - x)) := rfl
  have h3 : gGe (.int (y - x)) (.int k) = some (.bl (decide (k ≤ y - x))) := rfl
  simp [e_are_stays_long_2, h1, h2, h3, mkF0, mkF1, fin0, fin1, st0, st1, bnd, Sr.ret, opt, mN, mNB, mB, der, m1, m2, m2b, m2r, mT, asB, mChain, mAnd, mOr, mNot, mAndV, mOrV, mNotV, mIf, mNil, mCons, mTup, mLst, mIsN, mNotN, Sr.isNon, mCal, mCal1, mIsi, mFldB, mC0, mC1, ap0, ap1, chkO, chkL, putL, mMk, apM, skp, sq, sDrop, sRet, sRetO, sIf, sSet, sSetO, sAsg, sPar, gN, gsN, gsC, gT, gA, sApp, sPutI, sNever, mItems, dItems, mRng, mRng2, gRng, gRng2, sFor, turn, gI, gI0, gLt, gLe, gGt, gAdd, gAddI, gAddS, gAddT, gAddL, gMul, gMulI, gDiv, gMod, gPow, gNeg, gEq, gNe, dEq, eqS, gLen, gInt1, gMax2, gMin2, gAbs, gIx, gLtT, dInts, putD, gIsi, dKind, tInt, tOnly, List.map_cons, List.map_nil, List.length_cons, List.length_nil, List.cons_append, List.nil_append, List.getElem?_cons_zero, List.getElem?_cons_succ, List.set_cons_zero, List.set_cons_succ, List.replicate, Option.some_or, Option.none_or, Option.map_some, Option.map_none, Option.bind_some, Option.bind_none]
theorem s_staysZ (a b n k : Int) (Z : Sl) (l : List Nat) (hl : l.length ≤ 1000) (k3 : Sl) : ∃ B E, mLc [4, 5] (mZipA (mCons (mN 2) (mCons (mSl (mN 2) (mPart (ret (.int 1))) mNoP) mNil))) (gT 2 (gsC (gN 4) (gsC (gN 5) gsN))) t_are_stays_long_2 e_are_stays_long_2 [.val (lim a b n k), Z, .val (.lst (nats l)), k3, .no, .no] = .ok (.lst B) E ∧ gAll (.lst B) = some (.bl ((prs l).all fun p => decide (k ≤ (p.2 : Int) - (p.1 : Int)))) := by
  have hc := cut1 (nats l) (by unfold nats; rw [List.length_map]; omega)
  have hz : mZipA (mCons (mN 2) (mCons (mSl (mN 2) (mPart (ret (.int 1))) mNoP) mNil)) [.val (lim a b n k), Z, .val (.lst (nats l)), k3, .no, .no] = .ok ((prs l).map fun p => D.tup [.int ((p.1 : Nat) : Int), .int ((p.2 : Nat) : Int)]) [.val (lim a b n k), Z, .val (.lst (nats l)), k3, .no, .no] := by
    have hg : gZipA [.lst (nats l), .lst (nats l).tail] = some ((prs l).map fun p => D.tup [.int ((p.1 : Nat) : Int), .int ((p.2 : Nat) : Int)]) := by
      rw [← zip_prs]; rfl
    simp [mZipA, mCons, mNil, mN, mSl, mPart, mNoP, bnd, opt, Sr.ret, asI, hc, hg]
  have h := mLc_map (w := gT 2 (gsC (gN 4) (gsC (gN 5) gsN))) (t := t_are_stays_long_2) (el := e_are_stays_long_2) (vs := [4, 5]) (fun p : Nat × Nat => D.tup [.int ((p.1 : Nat) : Int), .int ((p.2 : Nat) : Int)]) (fun p => .bl (decide (k ≤ (p.2 : Int) - (p.1 : Int)))) hz (by unfold prs; rw [List.length_zip]; omega) (fun p hp => ⟨[.val (lim a b n k), Z, .val (.lst (nats l)), k3, .val (.int ((p.1 : Nat) : Int)), .val (.int ((p.2 : Nat) : Int))], _, _, rfl, rfl, e_psl a b n k (p.1 : Nat) (p.2 : Nat) Z _ k3, rfl⟩)
  refine ⟨_, _, h, ?_⟩
  simp only [gAll, bools_map]
  simp [List.all_map]
theorem b_stays (N Z : D) (L B : List D) (P : Bool) (k3 : Sl) (E : En) (X Y : M D) (h1 : mLc [3] (mRng2 (mCons (ret (.int 1)) (mCons (m1 gLen (mN 1)) mNil))) (gN 3) t_are_stays_long_1 e_are_stays_long_1 = X) (h2 : mLc [4, 5] (mZipA (mCons (mN 2) (mCons (mSl (mN 2) (mPart (ret (.int 1))) mNoP) mNil))) (gT 2 (gsC (gN 4) (gsC (gN 5) gsN))) t_are_stays_long_2 e_are_stays_long_2 = Y)
    (e1 : X [.val N, .val Z, .no, .no, .no, .no] = .ok (.lst L) [.val N, .val Z, .no, k3, .no, .no]) (e2 : Y [.val N, .val Z, .val (.lst L), k3, .no, .no] = .ok (.lst B) E) (e3 : gAll (.lst B) = some (.bl P)) : f_are_stays_long .non [N, Z] = .ok (.bl P) .non := by
  simp only [f_are_stays_long, b_are_stays_long, h1, h2]
  simp [e1, e2, e3, mkF0, mkF1, fin0, fin1, st0, st1, bnd, Sr.ret, opt, mN, mNB, mB, der, m1, m2, m2b, m2r, mT, asB, mChain, mAnd, mOr, mNot, mAndV, mOrV, mNotV, mIf, mNil, mCons, mTup, mLst, mIsN, mNotN, Sr.isNon, mCal, mCal1, mIsi, mFldB, gFld, mC0, mC1, ap0, ap1, chkO, chkL, putL, mMk, apM, skp, sq, sDrop, sRet, sRetO, sIf, sSet, sSetO, sAsg, sPar, gN, gsN, gsC, gT, gA, sApp, sPutI, sNever, mItems, dItems, mRng, mRng2, gRng, gRng2, sFor, turn, gI, gI0, gLt, gLe, gGt, gGe, gAdd, gAddI, gAddS, gAddT, gAddL, Sr.gSub, gMul, gMulI, gDiv, gMod, gPow, gNeg, gEq, gNe, dEq, eqS, gLen, gInt1, gMax2, gMin2, gAbs, gIx, gLtT, dInts, putD, gIsi, dKind, tInt, tOnly, List.map_cons, List.map_nil, List.length_cons, List.length_nil, List.cons_append, List.nil_append, List.getElem?_cons_zero, List.getElem?_cons_succ, List.set_cons_zero, List.set_cons_succ, List.replicate, Option.some_or, Option.none_or, Option.map_some, Option.map_none, Option.bind_some, Option.bind_none]
theorem s_stays (a b n k : Nat) (s : List Bool) (hs : s.length ≤ 1000) : f_are_stays_long .non [lim (a : Nat) (b : Nat) (n : Nat) (k : Nat), .str (sts s)] = .ok (.bl (Hi.okS k s)) .non := by
  obtain ⟨k3, h1⟩ := s_startsP (lim (a : Nat) (b : Nat) (n : Nat) (k : Nat)) s hs .no
  have ls : (Hi.starts s).length ≤ 1000 := by
    unfold Hi.starts
    refine Nat.le_trans (List.length_filter_le _ _) ?_
    rw [List.length_range']; omega
  obtain ⟨B, E, h2, h3⟩ := s_staysZ (a : Nat) (b : Nat) (n : Nat) (k : Nat) (.val (.str (sts s))) (Hi.starts s) ls k3
  rw [← okS_prs] at h3
  exact b_stays _ _ _ _ _ _ _ _ _ rfl rfl h1 h2 h3
theorem s_flagP (s c : Bool) : f_flag_of .non [.str (sts [s]), .str (chk [c])] = .ok (.str (S [fcd s c])) .non := by cases s <;> cases c <;> kernel_rfl
theorem s_letP (a b n k : Nat) (l : List Nat) : f_Limits_let .non [lim (a : Nat) (b : Nat) (n : Nat) (k : Nat), .str (S l)] = .ok (.bl (Hi.letB a b (l.map (· == 112)) (l.map (· == 102)))) .non := by
  have c1 := cnt_S l 112
  have c2 := cnt_S l 102
  have e1 : S [112] = ("p" : Str) := by decide
  have e2 : S [102] = ("f" : Str) := by decide
  rw [e1] at c1
  rw [e2] at c2
  have key : ∀ (a b n k x y : Int) (z : Str), gCount z [.str "p"] = some (.int x) → gCount z [.str "f"] = some (.int y) → f_Limits_let .non [lim a b n k, .str z] = .ok (.bl (decide (x ≤ a) && decide (y ≤ b))) .non := fun a b n k x y z c1 c2 => by
    have f1 : gFld "Limits" "most_passes" (lim a b n k) = some (.int a) := rfl
    have f2 : gFld "Limits" "most_fails" (lim a b n k) = some (.int b) := rfl
    have h1 : gLe (.int x) (.int a) = some (.bl (decide (x ≤ a))) := rfl
    have h2 : gLe (.int y) (.int b) = some (.bl (decide (y ≤ b))) := rfl
    generalize decide (x ≤ a) = p at *
    generalize decide (y ≤ b) = q at *
    cases p <;> simp [f_Limits_let, b_Limits_let, mMt, asS, f1, f2, c1, c2, h1, h2, mkF0, mkF1, fin0, fin1, st0, st1, bnd, Sr.ret, opt, mN, mNB, mB, der, m1, m2, m2b, m2r, mT, asB, mChain, mAnd, mOr, mNot, mAndV, mOrV, mNotV, mIf, mNil, mCons, mTup, mLst, mIsN, mNotN, Sr.isNon, mCal, mCal1, mIsi, mFldB, mC0, mC1, ap0, ap1, chkO, chkL, putL, mMk, apM, skp, sq, sDrop, sRet, sRetO, sIf, sSet, sSetO, sAsg, sPar, gN, gsN, gsC, gT, gA, sApp, sPutI, sNever, mItems, dItems, mRng, mRng2, gRng, gRng2, sFor, turn, gI, gI0, gLt, gGt, gGe, gAdd, gAddI, gAddS, gAddT, gAddL, Sr.gSub, gMul, gMulI, gDiv, gMod, gPow, gNeg, gEq, gNe, dEq, eqS, gLen, gInt1, gMax2, gMin2, gAbs, gIx, gLtT, dInts, putD, gIsi, dKind, tInt, tOnly, List.map_cons, List.map_nil, List.length_cons, List.length_nil, List.cons_append, List.nil_append, List.getElem?_cons_zero, List.getElem?_cons_succ, List.set_cons_zero, List.set_cons_succ, List.replicate, Option.some_or, Option.none_or, Option.map_some, Option.map_none, Option.bind_some, Option.bind_none]
  rw [key _ _ _ _ _ _ _ c1 c2]
  unfold Hi.letB
  rw [← cnt_map, ← cnt_map]
  congr 3
  · rw [decide_eq_decide]; omega
  · rw [decide_eq_decide]; omega
theorem chars_sts : ∀ s : List Bool, charsD (sts s) = s.map fun b => D.str (sts [b])
  | [] => rfl
  | b :: s => by
    have := chars_sts s
    unfold charsD sts at this ⊢
    simp only [List.map_cons] at this ⊢
    rw [this]
    cases b <;> rfl
theorem chars_chk : ∀ s : List Bool, charsD (chk s) = s.map fun b => D.str (chk [b])
  | [] => rfl
  | b :: s => by
    have := chars_chk s
    unfold charsD chk at this ⊢
    simp only [List.map_cons] at this ⊢
    rw [this]
    cases b <;> rfl
theorem zip_sc : ∀ (s c : List Bool), zipL (s.map fun b => D.str (sts [b])) (c.map fun b => D.str (chk [b])) = (s.zip c).map fun p => D.tup [.str (sts [p.1]), .str (chk [p.2])]
  | [], c => rfl
  | x :: s, [] => rfl
  | x :: s, y :: c => by
    show _ :: zipL (s.map fun b => D.str (sts [b])) (c.map fun b => D.str (chk [b])) = _
    rw [zip_sc s c]; rfl
theorem join_S (l : List Nat) : Txt.join ("" : Str) (l.map fun c => S [c]) = S l := by
  have e0 : ("" : Str) = ⟨#[]⟩ := by decide
  rw [e0]
  unfold Txt.join Builtin.Str.glued
  cases l with
  | nil => rfl
  | cons b l =>
    have H : ∀ (l u : List Nat), ((l.map fun b => S [b]).foldl (fun acc p => acc ++ (#[] : Array Nat) ++ p.cps) (S u).cps) = (S (u ++ l)).cps := by
      intro l
      induction l with
      | nil => intro u; simp
      | cons c l ih =>
        intro u
        rw [List.map_cons, List.foldl_cons]
        have e : (S u).cps ++ (#[] : Array Nat) ++ (S [c]).cps = (S (u ++ [c])).cps := by unfold S; simp
        rw [e, ih]; simp
    simp only [List.map_cons, List.drop_succ_cons, List.drop_zero, List.headD_cons]
    rw [H l [b]]; rfl
theorem sum_ones {A : Type} (g : A → Str) (hg : ∀ x, (g x).length = 1) (l : List A) : ((l.map g).map (·.length)).sum = l.length := by
  rw [List.map_map]
  have : ((·.length) ∘ g) = fun (_ : A) => 1 := by funext c; exact hg c
  rw [this, List.map_const']
  simp
theorem gjoin_S (l : List Nat) (hl : l.length ≤ 100000) : gJoin ("" : Str) [.lst (l.map fun c => .str (S [c]))] = some (.str (S l)) := by
  have e1 : (l.map fun c => D.str (S [c])) = (l.map fun c => S [c]).map D.str := by rw [List.map_map]; rfl
  have e2 : dStrs ((l.map fun c => S [c]).map D.str) = some (l.map fun c => S [c]) := by
    generalize (l.map fun c => S [c]) = ys
    induction ys with
    | nil => rfl
    | cons y ys ih => rw [List.map_cons, dStrs, ih]; rfl
  rw [e1]
  simp only [gJoin, gJoinL, e2, join_S]
  have e0 : ("" : Str).length = 0 := by decide
  rw [sum_ones _ (fun c => by rw [S_len]; rfl), e0, Nat.mul_zero, Nat.add_zero, if_pos (by omega)]
theorem e_al1 (a0 a1 a2 a5 : Sl) (s c : Bool) : e_is_allowed_1 [a0, a1, a2, .val (.str (sts [s])), .val (.str (chk [c])), a5] = .ok (.str (S [fcd s c])) [a0, a1, a2, .val (.str (sts [s])), .val (.str (chk [c])), a5] := by
  simp [e_is_allowed_1, s_flagP, mkF0, mkF1, fin0, fin1, st0, st1, bnd, Sr.ret, opt, mN, mNB, mB, der, m1, m2, m2b, m2r, mT, asB, mChain, mAnd, mOr, mNot, mAndV, mOrV, mNotV, mIf, mNil, mCons, mTup, mLst, mIsN, mNotN, Sr.isNon, mCal, mCal1, mIsi, mFldB, gFld, mC0, mC1, ap0, ap1, chkO, chkL, putL, mMk, apM, skp, sq, sDrop, sRet, sRetO, sIf, sSet, sSetO, sAsg, sPar, gN, gsN, gsC, gT, gA, sApp, sPutI, sNever, mItems, dItems, mRng, mRng2, gRng, gRng2, sFor, turn, gI, gI0, gLt, gLe, gGt, gGe, gAdd, gAddI, gAddS, gAddT, gAddL, Sr.gSub, gMul, gMulI, gDiv, gMod, gPow, gNeg, gEq, gNe, dEq, eqS, gLen, gInt1, gMax2, gMin2, gAbs, gIx, gLtT, dInts, putD, gIsi, dKind, tInt, tOnly, List.map_cons, List.map_nil, List.length_cons, List.length_nil, List.cons_append, List.nil_append, List.getElem?_cons_zero, List.getElem?_cons_succ, List.set_cons_zero, List.set_cons_succ, List.replicate, Option.some_or, Option.none_or, Option.map_some, Option.map_none, Option.bind_some, Option.bind_none]
theorem t_alz (L V Z C : D) (a2 a3 a4 a5 : Sl) (ds : List D) (g0 : gIx V (.int 0) = some Z) (g1 : gIx V (.int 1) = some C) (h : gZipA [Z, C] = some ds) : mZipA (mCons (m2 gIx (mN 1) (ret (.int 0))) (mCons (m2 gIx (mN 1) (ret (.int 1))) mNil)) [.val L, .val V, a2, a3, a4, a5] = .ok ds [.val L, .val V, a2, a3, a4, a5] := by
  simp [mZipA, mCons, mNil, m2, mN, bnd, opt, Sr.ret, g0, g1, h]
theorem s_flags (L : D) (s c : List Bool) (hs : s.length ≤ 1000) : mLc [3, 4] (mZipA (mCons (m2 gIx (mN 1) (ret (.int 0))) (mCons (m2 gIx (mN 1) (ret (.int 1))) mNil))) (gT 2 (gsC (gN 3) (gsC (gN 4) gsN))) t_is_allowed_1 e_is_allowed_1 [.val L, .val (.tup [.str (sts s), .str (chk c)]), .no, .no, .no, .no] = .ok (.lst ((cds s c).map fun f => .str (S [f]))) [.val L, .val (.tup [.str (sts s), .str (chk c)]), .no, .no, .no, .no] := by
  have hz : gZipA [.str (sts s), .str (chk c)] = some ((s.zip c).map fun p => D.tup [.str (sts [p.1]), .str (chk [p.2])]) := by
    show some _ = _
    rw [chars_sts, chars_chk, zip_sc]
  have hm := t_alz L (.tup [.str (sts s), .str (chk c)]) _ _ .no .no .no .no _ rfl rfl hz
  have h := mLc_map (w := gT 2 (gsC (gN 3) (gsC (gN 4) gsN))) (t := t_is_allowed_1) (el := e_is_allowed_1) (vs := [3, 4]) (fun p : Bool × Bool => D.tup [.str (sts [p.1]), .str (chk [p.2])]) (fun p => .str (S [fcd p.1 p.2])) hm (by rw [List.length_zip]; omega) (fun p hp => ⟨[.val L, .val (.tup [.str (sts s), .str (chk c)]), .no, .val (.str (sts [p.1])), .val (.str (chk [p.2])), .no], _, _, rfl, rfl, e_al1 _ _ _ _ p.1 p.2, rfl⟩)
  rw [h]
  have e : ((s.zip c).map fun p => D.str (S [fcd p.1 p.2])) = (cds s c).map fun f => D.str (S [f]) := by
    unfold cds
    rw [List.map_zipWith, ← List.map_uncurry_zip_eq_zipWith]
    rfl
  rw [e]
  rfl
theorem e_al2 (L : D) (i n : Int) (z z' : Str) (P : Bool) (a1 a3 a4 : Sl) (h1 : isO "Limits" "let" L = some ()) (h2 : gFld "Limits" "most_checks" L = some (.int n)) (h3 : gSl (.str z) (some i) (some (i + n)) = some (.str z')) (h4 : f_Limits_let .non [L, .str z'] = .ok (.bl P) .non) : e_is_allowed_2 [.val L, a1, .val (.str z), a3, a4, .val (.int i)] = .ok (.bl P) [.val L, a1, .val (.str z), a3, a4, .val (.int i)] := by
  have ha : gAdd (.int i) (.int n) = some (.int (i + n)) := rfl
  simp [e_is_allowed_2, mMe, mSl, mPart, asI, h1, h2, h3, h4, ha, mkF0, mkF1, fin0, fin1, st0, st1, bnd, Sr.ret, opt, mN, mNB, mB, der, m1, m2, m2b, m2r, mT, asB, mChain, mAnd, mOr, mNot, mAndV, mOrV, mNotV, mIf, mNil, mCons, mTup, mLst, mIsN, mNotN, Sr.isNon, mCal, mCal1, mIsi, mFldB, mC0, mC1, ap0, ap1, chkO, chkL, putL, mMk, apM, skp, sq, sDrop, sRet, sRetO, sIf, sSet, sSetO, sAsg, sPar, gN, gsN, gsC, gT, gA, sApp, sPutI, sNever, mItems, dItems, mRng, mRng2, gRng, gRng2, sFor, turn, gI, gI0, gLt, gLe, gGt, gGe, gAddI, gAddS, gAddT, gAddL, Sr.gSub, gMul, gMulI, gDiv, gMod, gPow, gNeg, gEq, gNe, dEq, eqS, gLen, gInt1, gMax2, gMin2, gAbs, gIx, gLtT, dInts, putD, gIsi, dKind, tInt, tOnly, List.map_cons, List.map_nil, List.length_cons, List.length_nil, List.cons_append, List.nil_append, List.getElem?_cons_zero, List.getElem?_cons_succ, List.set_cons_zero, List.set_cons_succ, List.replicate, Option.some_or, Option.none_or, Option.map_some, Option.map_none, Option.bind_some, Option.bind_none]
theorem m_alr (L : D) (z : Str) (n : Int) (r : List D) (a1 a3 a4 a5 : Sl) (l : gLen (.str z) = some (.int n)) (h : gRng [.int n] = some r) : mRng (mCons (m1 gLen (mN 2)) mNil) [.val L, a1, .val (.str z), a3, a4, a5] = .ok r [.val L, a1, .val (.str z), a3, a4, a5] := by
  simp [mRng, mCons, mNil, m1, mN, bnd, opt, Sr.ret, l, h]
theorem s_lets (a b n k : Nat) (s c : List Bool) (hl : s.length = c.length) (hc : c.length ≤ 1000) (a1 : Sl) : ∃ B E, mLc [5] (mRng (mCons (m1 gLen (mN 2)) mNil)) (gN 5) t_is_allowed_2 e_is_allowed_2 [.val (lim (a : Nat) (b : Nat) (n : Nat) (k : Nat)), a1, .val (.str (S (cds s c))), .no, .no, .no] = .ok (.lst B) E ∧ gAll (.lst B) = some (.bl (Hi.okW a b n s c)) := by
  have lc : (cds s c).length = c.length := by unfold cds; rw [List.length_zipWith, hl]; omega
  have hg := len_S (cds s c) (by omega)
  rw [lc] at hg
  have hm := m_alr (lim (a : Nat) (b : Nat) (n : Nat) (k : Nat)) _ _ _ a1 .no .no .no hg (rng_nats c.length (by omega))
  have h := mLc_map (w := gN 5) (t := t_is_allowed_2) (el := e_is_allowed_2) (vs := [5]) (fun (i : Nat) => D.int ((i : Nat) : Int)) (fun i => .bl (Hi.letB a b (Hi.wnd (Hi.fpL s c) i n) (Hi.wnd (Hi.ffL s c) i n))) hm (by rw [List.length_range]; omega) (fun i hi => by
    rw [List.mem_range] at hi
    have hs := cut_S (cds s c) i (i + n) (by omega) (by omega) (by omega)
    rw [Int.natCast_add, Nat.add_sub_cancel_left] at hs
    have hlt := s_letP a b n k (((cds s c).drop i).take n)
    have e1 : (((cds s c).drop i).take n).map (· == 112) = Hi.wnd (Hi.fpL s c) i n := by
      rw [List.map_take, List.map_drop, cds_p]; rfl
    have e2 : (((cds s c).drop i).take n).map (· == 102) = Hi.wnd (Hi.ffL s c) i n := by
      rw [List.map_take, List.map_drop, cds_f]; rfl
    rw [e1, e2] at hlt
    exact ⟨_, _, _, rfl, rfl, e_al2 _ (i : Nat) (n : Nat) _ _ _ a1 .no .no rfl rfl hs hlt, rfl⟩)
  refine ⟨_, _, h, ?_⟩
  simp only [gAll, bools_map]
  unfold Hi.okW
  simp [List.all_map]
theorem s_checklim (a b c d : Int) : f_check_limits .non [lim a b c d] = .ok .non .non := by
  have h : isl_Limits.lookup ("Limits" : Str) = some true := by decide
  simp [f_check_limits, b_check_limits, isC_Limits, h, mkF0, mkF1, fin0, fin1, st0, st1, bnd, Sr.ret, opt, mN, mNB, mB, der, m1, m2, m2b, m2r, mT, asB, mChain, mAnd, mOr, mNot, mAndV, mOrV, mNotV, mIf, mNil, mCons, mTup, mLst, mIsN, mNotN, Sr.isNon, mCal, mCal1, mIsi, mFldB, gFld, mC0, mC1, ap0, ap1, chkO, chkL, putL, mMk, apM, skp, sq, sDrop, sRet, sRetO, sIf, sSet, sSetO, sAsg, sPar, gN, gsN, gsC, gT, gA, sApp, sPutI, sNever, mItems, dItems, mRng, mRng2, gRng, gRng2, sFor, turn, gI, gI0, gLt, gLe, gGt, gGe, gAdd, gAddI, gAddS, gAddT, gAddL, Sr.gSub, gMul, gMulI, gDiv, gMod, gPow, gNeg, gEq, gNe, dEq, eqS, gLen, gInt1, gMax2, gMin2, gAbs, gIx, gLtT, dInts, putD, gIsi, dKind, tInt, tOnly, List.map_cons, List.map_nil, List.length_cons, List.length_nil, List.cons_append, List.nil_append, List.getElem?_cons_zero, List.getElem?_cons_succ, List.set_cons_zero, List.set_cons_succ, List.replicate, Option.some_or, Option.none_or, Option.map_some, Option.map_none, Option.bind_some, Option.bind_none]
theorem b_prog (L V Z : D) (z : Str) (F B : List D) (S0 W : Bool) (E : En) (X Y : M D) (hx : mLc [3, 4] (mZipA (mCons (m2 gIx (mN 1) (ret (.int 0))) (mCons (m2 gIx (mN 1) (ret (.int 1))) mNil))) (gT 2 (gsC (gN 3) (gsC (gN 4) gsN))) t_is_allowed_1 e_is_allowed_1 = X) (hy : mLc [5] (mRng (mCons (m1 gLen (mN 2)) mNil)) (gN 5) t_is_allowed_2 e_is_allowed_2 = Y)
    (h0 : f_check_limits .non [L] = .ok .non .non) (h1 : f_is_history .non [V] = .ok (.bl true) .non) (g0 : gIx V (.int 0) = some Z) (h2 : f_are_stays_long .non [L, Z] = .ok (.bl S0) .non) (e1 : X [.val L, .val V, .no, .no, .no, .no] = .ok (.lst F) [.val L, .val V, .no, .no, .no, .no]) (j : gJoin "" [.lst F] = some (.str z)) (e2 : Y [.val L, .val V, .val (.str z), .no, .no, .no] = .ok (.lst B) E) (e3 : gAll (.lst B) = some (.bl W)) : f_is_allowed .non [L, V] = .ok (.bl (W && S0)) .non := by
  simp only [f_is_allowed, b_is_allowed, hx, hy]
  cases S0 <;> simp [mMt, asS, h0, h1, g0, h2, e1, j, e2, e3, mkF0, mkF1, fin0, fin1, st0, st1, bnd, Sr.ret, opt, mN, mNB, mB, der, m1, m2, m2b, m2r, mT, asB, mChain, mAnd, mOr, mNot, mAndV, mOrV, mNotV, mIf, mNil, mCons, mTup, mLst, mIsN, mNotN, Sr.isNon, mCal, mCal1, mIsi, mFldB, gFld, mC0, mC1, ap0, ap1, chkO, chkL, putL, mMk, apM, skp, sq, sDrop, sRet, sRetO, sIf, sSet, sSetO, sAsg, sPar, gN, gsN, gsC, gT, gA, sApp, sPutI, sNever, mItems, dItems, mRng, mRng2, gRng, gRng2, sFor, turn, gI, gI0, gLt, gLe, gGt, gGe, gAdd, gAddI, gAddS, gAddT, gAddL, Sr.gSub, gMul, gMulI, gDiv, gMod, gPow, gNeg, gEq, gNe, dEq, eqS, gLen, gInt1, gMax2, gMin2, gAbs, gLtT, dInts, putD, gIsi, dKind, tInt, tOnly, List.map_cons, List.map_nil, List.length_cons, List.length_nil, List.cons_append, List.nil_append, List.getElem?_cons_zero, List.getElem?_cons_succ, List.set_cons_zero, List.set_cons_succ, List.replicate, Option.some_or, Option.none_or, Option.map_some, Option.map_none, Option.bind_some, Option.bind_none]
theorem s_prog (a b n k : Nat) (s c : List Bool) (hl : s.length = c.length) (hc : c.length ≤ 1000) : f_is_allowed .non [lim (a : Nat) (b : Nat) (n : Nat) (k : Nat), .tup [.str (sts s), .str (chk c)]] = .ok (.bl (Hi.alw a b n k s c)) .non := by
  have h1 := s_progh (s.map fun b => if b then 85 else 68) (c.map fun b => if b then 43 else 45) (by simp; omega) (by simp; omega)
  have hh : isH (s.map fun b => if b then 85 else 68) (c.map fun b => if b then 43 else 45) = true := by
    unfold isH isUD isPM
    rw [Bool.and_eq_true, Bool.and_eq_true, decide_eq_true_eq, List.all_eq_true, List.all_eq_true]
    refine ⟨⟨by simp [hl], fun x hx => ?_⟩, fun x hx => ?_⟩
    · rw [cUD]; rw [List.mem_map] at hx; obtain ⟨b, _, rfl⟩ := hx; cases b <;> simp
    · rw [cPM]; rw [List.mem_map] at hx; obtain ⟨b, _, rfl⟩ := hx; cases b <;> simp
  rw [hh, ← sts_S, ← chk_S] at h1
  have lc : (cds s c).length = c.length := by unfold cds; rw [List.length_zipWith, hl]; omega
  obtain ⟨B, E, e2, e3⟩ := s_lets a b n k s c hl hc (.val (.tup [.str (sts s), .str (chk c)]))
  exact b_prog _ _ _ _ _ _ _ _ _ _ _ rfl rfl (s_checklim _ _ _ _) h1 rfl (s_stays a b n k s (by omega)) (s_flags _ s c (by omega)) (gjoin_S _ (by omega)) e2 e3
theorem k_p : chk [true] = ("+" : Str) := by decide +kernel
theorem k_f : chk [false] = ("-" : Str) := by decide +kernel
theorem k_u : sts [true] = ("U" : Str) := by decide +kernel
theorem k_d : sts [false] = ("D" : Str) := by decide +kernel
def gA : M Fl := sIf (mAnd (mT (m2 gGt (mN 9) (ret (.int 0)))) (mAnd (mT (m2 gGe (mN 6) (m2 gIx (mN 1) (ret (.int 3))))) (mT (m2 gEq (mC1 f__law_draw 0 [] (mCons (ret (.int 3)) mNil)) (ret (.int 0)))))) (sPar (mCons (mIf (mT (m2 gEq (mN 8) (ret (.str "U")))) (ret (.str "D")) (ret (.str "U"))) (mCons (ret (.int 0)) mNil)) (gsC (gN 8) (gsC (gN 6) gsN))) skp
def gB : M Fl := sSet 10 (mIf (mT (m2 gEq (mN 8) (ret (.str "U")))) (ret (.str "f")) (ret (.str "p")))
def gC : M Fl := sSet 11 (mSl (m2 gAdd (mN 5) (mN 10)) (mPart (m1 gNeg (m2 gIx (mN 1) (ret (.int 2))))) mNoP)
def gD : M Fl := sIf (mOr (mT (m2 gGt (mC1 f__law_draw 0 [] (mCons (m2 gAdd (ret (.int 2)) (m2 gMul (ret (.int 2)) (mN 7))) mNil)) (ret (.int 0)))) (mNot (mT (mC0 f__law_let [] (mCons (mN 1) (mCons (mN 11) mNil)))))) (sSet 10 (ret (.str "."))) skp
def gE : M Fl := sSet 12 (m2 gEq (m2 gEq (mN 8) (ret (.str "U"))) (m2 gEq (mN 10) (ret (.str "."))))
def gF : M Fl := sSet 4 (m2 gAdd (mN 4) (mIf (mT (mN 12)) (ret (.str "+")) (ret (.str "-"))))
def gG : M Fl := sPar (mCons (m2 gAdd (mN 3) (mN 8)) (mCons (m2 gAdd (mN 5) (mN 10)) (mCons (m2 gAdd (mN 6) (ret (.int 1))) mNil))) (gsC (gN 3) (gsC (gN 5) (gsC (gN 6) gsN)))
theorem gh_split : l__law_history_1 = sq gA (sq gB (sq gC (sq gD (sq gE (sq gF gG))))) := rfl
theorem eqU (u : Bool) : gEq (.str (sts [u])) (.str "U") = some (.bl u) := by cases u <;> kernel_rfl
theorem gA_run (o N : D) (a b n k i age rr : Int) (hN : gIx N (.int 3) = some (.int k)) (ho : PenOk o) (cur : Bool) (a2 a3 a4 a5 j10 j11 j12 : Sl) :
    ∃ o' cur' age', gA [.own o, .val N, a2, a3, a4, a5, .val (.int age), .val (.int rr), .val (.str (sts [cur])), .val (.int i), j10, j11, j12] = .ok .nx [.own o', .val N, a2, a3, a4, a5, .val (.int age'), .val (.int rr), .val (.str (sts [cur'])), .val (.int i), j10, j11, j12] ∧ ((cur' = cur ∧ age' = age) ∨ (0 < i ∧ k ≤ age ∧ cur' = !cur ∧ age' = 0)) ∧ PenOk o' := by
  have q1 : gGt (.int i) (.int 0) = some (.bl (decide (0 < i))) := rfl
  have q2 : gGe (.int age) (.int k) = some (.bl (decide (k ≤ age))) := rfl
  have q3 := eqU cur
  have qU : gEq (.str "U") (.str "U") = some (.bl true) := by kernel_rfl
  have qD : gEq (.str "D") (.str "U") = some (.bl false) := by kernel_rfl
  obtain ⟨r, o1, e1, p1, p1', v1⟩ := s_draw o 3 ho (by omega) (by omega)
  have q4 : gEq (.int r) (.int 0) = some (.bl (decide (r = 0))) := by simp [gEq, dEq, eqS]
  by_cases h1 : 0 < i
  · rw [decide_eq_true h1] at q1
    by_cases h2 : k ≤ age
    · rw [decide_eq_true h2] at q2
      by_cases h3 : r = 0
      · rw [decide_eq_true h3] at q4
        refine ⟨o1, !cur, 0, ?_, .inr ⟨h1, h2, rfl, rfl⟩, v1⟩
        have eU : sts [true] = ("U" : Str) := k_u
        have eD : sts [false] = ("D" : Str) := k_d
        cases cur <;> simp [gA, q1, q2, qU, qD, q4, e1, hN, eU, eD, mkF0, mkF1, fin0, fin1, st0, st1, bnd, Sr.ret, opt, mN, mNB, mB, der, m1, m2, m2b, m2r, mT, asB, mChain, mAnd, mOr, mNot, mAndV, mOrV, mNotV, mIf, mNil, mCons, mTup, mLst, mIsN, mNotN, Sr.isNon, mCal, mCal1, mIsi, mFldB, gFld, mC0, mC1, ap0, ap1, chkO, chkL, putL, mMk, apM, skp, sq, sDrop, sRet, sRetO, sIf, sSet, sSetO, sAsg, sPar, gN, gsN, gsC, gT, gA, sApp, sPutI, sNever, mItems, dItems, mRng, mRng2, gRng, gRng2, sFor, turn, gI, gI0, gLt, gLe, gAdd, gAddI, gAddS, gAddT, gAddL, Sr.gSub, gMul, gMulI, gDiv, gMod, gPow, gNeg, gNe, dEq, eqS, gLen, gInt1, gMax2, gMin2, gAbs, gLtT, dInts, putD, gIsi, dKind, tInt, tOnly, List.map_cons, List.map_nil, List.length_cons, List.length_nil, List.cons_append, List.nil_append, List.getElem?_cons_zero, List.getElem?_cons_succ, List.set_cons_zero, List.set_cons_succ, List.replicate, Option.some_or, Option.none_or, Option.map_some, Option.map_none, Option.bind_some, Option.bind_none]
      · rw [decide_eq_false h3] at q4
        exact ⟨o1, cur, age, by simp [gA, q1, q2, q4, e1, hN, mkF0, mkF1, fin0, fin1, st0, st1, bnd, Sr.ret, opt, mN, mNB, mB, der, m1, m2, m2b, m2r, mT, asB, mChain, mAnd, mOr, mNot, mAndV, mOrV, mNotV, mIf, mNil, mCons, mTup, mLst, mIsN, mNotN, Sr.isNon, mCal, mCal1, mIsi, mFldB, gFld, mC0, mC1, ap0, ap1, chkO, chkL, putL, mMk, apM, skp, sq, sDrop, sRet, sRetO, sIf, sSet, sSetO, sAsg, sPar, gN, gsN, gsC, gT, gA, sApp, sPutI, sNever, mItems, dItems, mRng, mRng2, gRng, gRng2, sFor, turn, gI, gI0, gLt, gLe, gAdd, gAddI, gAddS, gAddT, gAddL, Sr.gSub, gMul, gMulI, gDiv, gMod, gPow, gNeg, gNe, dEq, eqS, gLen, gInt1, gMax2, gMin2, gAbs, gLtT, dInts, putD, gIsi, dKind, tInt, tOnly, List.map_cons, List.map_nil, List.length_cons, List.length_nil, List.cons_append, List.nil_append, List.getElem?_cons_zero, List.getElem?_cons_succ, List.set_cons_zero, List.set_cons_succ, List.replicate, Option.some_or, Option.none_or, Option.map_some, Option.map_none, Option.bind_some, Option.bind_none], .inl ⟨rfl, rfl⟩, v1⟩
    · rw [decide_eq_false h2] at q2
      exact ⟨o, cur, age, by simp [gA, q1, q2, hN, mkF0, mkF1, fin0, fin1, st0, st1, bnd, Sr.ret, opt, mN, mNB, mB, der, m1, m2, m2b, m2r, mT, asB, mChain, mAnd, mOr, mNot, mAndV, mOrV, mNotV, mIf, mNil, mCons, mTup, mLst, mIsN, mNotN, Sr.isNon, mCal, mCal1, mIsi, mFldB, gFld, mC0, mC1, ap0, ap1, chkO, chkL, putL, mMk, apM, skp, sq, sDrop, sRet, sRetO, sIf, sSet, sSetO, sAsg, sPar, gN, gsN, gsC, gT, gA, sApp, sPutI, sNever, mItems, dItems, mRng, mRng2, gRng, gRng2, sFor, turn, gI, gI0, gLt, gLe, gAdd, gAddI, gAddS, gAddT, gAddL, Sr.gSub, gMul, gMulI, gDiv, gMod, gPow, gNeg, gNe, dEq, eqS, gLen, gInt1, gMax2, gMin2, gAbs, gLtT, dInts, putD, gIsi, dKind, tInt, tOnly, List.map_cons, List.map_nil, List.length_cons, List.length_nil, List.cons_append, List.nil_append, List.getElem?_cons_zero, List.getElem?_cons_succ, List.set_cons_zero, List.set_cons_succ, List.replicate, Option.some_or, Option.none_or, Option.map_some, Option.map_none, Option.bind_some, Option.bind_none], .inl ⟨rfl, rfl⟩, ho⟩
  · rw [decide_eq_false h1] at q1
    exact ⟨o, cur, age, by simp [gA, q1, mkF0, mkF1, fin0, fin1, st0, st1, bnd, Sr.ret, opt, mN, mNB, mB, der, m1, m2, m2b, m2r, mT, asB, mChain, mAnd, mOr, mNot, mAndV, mOrV, mNotV, mIf, mNil, mCons, mTup, mLst, mIsN, mNotN, Sr.isNon, mCal, mCal1, mIsi, mFldB, gFld, mC0, mC1, ap0, ap1, chkO, chkL, putL, mMk, apM, skp, sq, sDrop, sRet, sRetO, sIf, sSet, sSetO, sAsg, sPar, gN, gsN, gsC, gT, gA, sApp, sPutI, sNever, mItems, dItems, mRng, mRng2, gRng, gRng2, sFor, turn, gI, gI0, gLt, gLe, gAdd, gAddI, gAddS, gAddT, gAddL, Sr.gSub, gMul, gMulI, gDiv, gMod, gPow, gNeg, gNe, dEq, eqS, gLen, gInt1, gMax2, gMin2, gAbs, gLtT, dInts, putD, gIsi, dKind, tInt, tOnly, List.map_cons, List.map_nil, List.length_cons, List.length_nil, List.cons_append, List.nil_append, List.getElem?_cons_zero, List.getElem?_cons_succ, List.set_cons_zero, List.set_cons_succ, List.replicate, Option.some_or, Option.none_or, Option.map_some, Option.map_none, Option.bind_some, Option.bind_none], .inl ⟨rfl, rfl⟩, ho⟩
def fl1 (u : Bool) : Nat := if u then 102 else 112
theorem gB_run (a0 a1 a2 a3 a4 a5 a6 a7 a9 j10 j11 j12 : Sl) (u : Bool) : gB [a0, a1, a2, a3, a4, a5, a6, a7, .val (.str (sts [u])), a9, j10, j11, j12] = .ok .nx [a0, a1, a2, a3, a4, a5, a6, a7, .val (.str (sts [u])), a9, .val (.str (S [fl1 u])), j11, j12] := by
  have q := eqU u
  have e1 : S [fl1 true] = ("f" : Str) := by decide
  have e2 : S [fl1 false] = ("p" : Str) := by decide
  cases u <;> simp [gB, q, e1, e2, mkF0, mkF1, fin0, fin1, st0, st1, bnd, Sr.ret, opt, mN, mNB, mB, der, m1, m2, m2b, m2r, mT, asB, mChain, mAnd, mOr, mNot, mAndV, mOrV, mNotV, mIf, mNil, mCons, mTup, mLst, mIsN, mNotN, Sr.isNon, mCal, mCal1, mIsi, mFldB, gFld, mC0, mC1, ap0, ap1, chkO, chkL, putL, mMk, apM, skp, sq, sDrop, sRet, sRetO, sIf, sSet, sSetO, sAsg, sPar, gN, gsN, gsC, gT, gA, sApp, sPutI, sNever, mItems, dItems, mRng, mRng2, gRng, gRng2, sFor, turn, gI, gI0, gLt, gLe, gGt, gGe, gAdd, gAddI, gAddS, gAddT, gAddL, Sr.gSub, gMul, gMulI, gDiv, gMod, gPow, gNeg, gNe, dEq, eqS, gLen, gInt1, gMax2, gMin2, gAbs, gIx, gLtT, dInts, putD, gIsi, dKind, tInt, tOnly, List.map_cons, List.map_nil, List.length_cons, List.length_nil, List.cons_append, List.nil_append, List.getElem?_cons_zero, List.getElem?_cons_succ, List.set_cons_zero, List.set_cons_succ, List.replicate, Option.some_or, Option.none_or, Option.map_some, Option.map_none, Option.bind_some, Option.bind_none]
theorem gC_run (N : D) (n : Int) (f x z y : Str) (a0 a2 a3 a4 a6 a7 a8 a9 j11 j12 : Sl) (hN : gIx N (.int 2) = some (.int n)) (h1 : gAdd (.str f) (.str x) = some (.str z)) (h2 : gSl (.str z) (some (-n)) none = some (.str y)) : gC [a0, .val N, a2, a3, a4, .val (.str f), a6, a7, a8, a9, .val (.str x), j11, j12] = .ok .nx [a0, .val N, a2, a3, a4, .val (.str f), a6, a7, a8, a9, .val (.str x), .val (.str y), j12] := by
  have q : gNeg (.int n) = some (.int (-n)) := rfl
  simp [gC, mSl, mPart, mNoP, asI, hN, h1, h2, q, mkF0, mkF1, fin0, fin1, st0, st1, bnd, Sr.ret, opt, mN, mNB, mB, der, m1, m2, m2b, m2r, mT, asB, mChain, mAnd, mOr, mNot, mAndV, mOrV, mNotV, mIf, mNil, mCons, mTup, mLst, mIsN, mNotN, Sr.isNon, mCal, mCal1, mIsi, mFldB, gFld, mC0, mC1, ap0, ap1, chkO, chkL, putL, mMk, apM, skp, sq, sDrop, sRet, sRetO, sIf, sSet, sSetO, sAsg, sPar, gN, gsN, gsC, gT, gA, sApp, sPutI, sNever, mItems, dItems, mRng, mRng2, gRng, gRng2, sFor, turn, gI, gI0, gLt, gLe, gGt, gGe, gAddI, gAddS, gAddT, gAddL, Sr.gSub, gMul, gMulI, gDiv, gMod, gPow, gEq, gNe, dEq, eqS, gLen, gInt1, gMax2, gMin2, gAbs, gLtT, dInts, putD, gIsi, dKind, tInt, tOnly, List.map_cons, List.map_nil, List.length_cons, List.length_nil, List.cons_append, List.nil_append, List.getElem?_cons_zero, List.getElem?_cons_succ, List.set_cons_zero, List.set_cons_succ, List.replicate, Option.some_or, Option.none_or, Option.map_some, Option.map_none, Option.bind_some, Option.bind_none]
theorem cut_neg (l : List Nat) (n : Nat) (hn : 1 ≤ n) (hl : l.length ≤ 100000) : gSl (.str (S l)) (some (-(n : Int))) none = some (.str (S (l.drop (l.length - n)))) := by
  simp only [gSl]
  rw [if_pos (by rw [S_len]; exact sz hl)]
  congr 2
  unfold cutS
  rw [S_len]
  have e1 : HT.sIx l.length 0 (some (-(n : Int))) = l.length - n := by
    simp only [HT.sIx]
    split <;> omega
  have e2 : HT.sIx l.length l.length none = l.length := rfl
  rw [e1, e2]
  unfold S
  congr 1
  have : (List.drop (l.length - n) l).take (l.length - (l.length - n)) = l.drop (l.length - n) := List.take_of_length_le (by rw [List.length_drop]; omega)
  show (List.take _ (List.drop _ l)).toArray = _
  rw [this]
theorem gD_run (o N : D) (rr : Int) (hr : rr = 0 ∨ rr = 1) (x y : Str) (P : Bool) (ho : PenOk o) (hl : f__law_let .non [N, .str y] = .ok (.bl P) .non) (a2 a3 a4 a5 a6 a8 a9 j12 : Sl) :
    ∃ o' e, gD [.own o, .val N, a2, a3, a4, a5, a6, .val (.int rr), a8, a9, .val (.str x), .val (.str y), j12] = .ok .nx [.own o', .val N, a2, a3, a4, a5, a6, .val (.int rr), a8, a9, .val (.str (if e then x else ".")), .val (.str y), j12] ∧ (e = true → P = true) ∧ PenOk o' := by
  have hm : ∃ m : Int, gMul (.int 2) (.int rr) = some (.int m) ∧ 0 ≤ m ∧ m ≤ 2 := by
    rcases hr with rfl | rfl
    · exact ⟨0, rfl, by omega, by omega⟩
    · exact ⟨2, rfl, by omega, by omega⟩
  obtain ⟨m, hm, h0, h2⟩ := hm
  have ha : gAdd (.int 2) (.int m) = some (.int (2 + m)) := rfl
  obtain ⟨r, o1, e1, p1, p1', v1⟩ := s_draw o (2 + m) ho (by omega) (by omega)
  have q1 : gGt (.int r) (.int 0) = some (.bl (decide (0 < r))) := rfl
  by_cases h : 0 < r
  · rw [decide_eq_true h] at q1
    exact ⟨o1, false, by simp [gD, hm, ha, e1, q1, mkF0, mkF1, fin0, fin1, st0, st1, bnd, Sr.ret, opt, mN, mNB, mB, der, m1, m2, m2b, m2r, mT, asB, mChain, mAnd, mOr, mNot, mAndV, mOrV, mNotV, mIf, mNil, mCons, mTup, mLst, mIsN, mNotN, Sr.isNon, mCal, mCal1, mIsi, mFldB, gFld, mC0, mC1, ap0, ap1, chkO, chkL, putL, mMk, apM, skp, sq, sDrop, sRet, sRetO, sIf, sSet, sSetO, sAsg, sPar, gN, gsN, gsC, gT, gA, sApp, sPutI, sNever, mItems, dItems, mRng, mRng2, gRng, gRng2, sFor, turn, gI, gI0, gLt, gLe, gGe, gAddI, gAddS, gAddT, gAddL, Sr.gSub, gMulI, gDiv, gMod, gPow, gNeg, gEq, gNe, dEq, eqS, gLen, gInt1, gMax2, gMin2, gAbs, gIx, gLtT, dInts, putD, gIsi, dKind, tInt, tOnly, List.map_cons, List.map_nil, List.length_cons, List.length_nil, List.cons_append, List.nil_append, List.getElem?_cons_zero, List.getElem?_cons_succ, List.set_cons_zero, List.set_cons_succ, List.replicate, Option.some_or, Option.none_or, Option.map_some, Option.map_none, Option.bind_some, Option.bind_none], (fun z => nomatch z), v1⟩
  · rw [decide_eq_false h] at q1
    cases P with
    | false => exact ⟨o1, false, by simp [gD, hm, ha, e1, q1, hl, mkF0, mkF1, fin0, fin1, st0, st1, bnd, Sr.ret, opt, mN, mNB, mB, der, m1, m2, m2b, m2r, mT, asB, mChain, mAnd, mOr, mNot, mAndV, mOrV, mNotV, mIf, mNil, mCons, mTup, mLst, mIsN, mNotN, Sr.isNon, mCal, mCal1, mIsi, mFldB, gFld, mC0, mC1, ap0, ap1, chkO, chkL, putL, mMk, apM, skp, sq, sDrop, sRet, sRetO, sIf, sSet, sSetO, sAsg, sPar, gN, gsN, gsC, gT, gA, sApp, sPutI, sNever, mItems, dItems, mRng, mRng2, gRng, gRng2, sFor, turn, gI, gI0, gLt, gLe, gGe, gAddI, gAddS, gAddT, gAddL, Sr.gSub, gMulI, gDiv, gMod, gPow, gNeg, gEq, gNe, dEq, eqS, gLen, gInt1, gMax2, gMin2, gAbs, gIx, gLtT, dInts, putD, gIsi, dKind, tInt, tOnly, List.map_cons, List.map_nil, List.length_cons, List.length_nil, List.cons_append, List.nil_append, List.getElem?_cons_zero, List.getElem?_cons_succ, List.set_cons_zero, List.set_cons_succ, List.replicate, Option.some_or, Option.none_or, Option.map_some, Option.map_none, Option.bind_some, Option.bind_none], (fun z => nomatch z), v1⟩
    | true => exact ⟨o1, true, by simp [gD, hm, ha, e1, q1, hl, mkF0, mkF1, fin0, fin1, st0, st1, bnd, Sr.ret, opt, mN, mNB, mB, der, m1, m2, m2b, m2r, mT, asB, mChain, mAnd, mOr, mNot, mAndV, mOrV, mNotV, mIf, mNil, mCons, mTup, mLst, mIsN, mNotN, Sr.isNon, mCal, mCal1, mIsi, mFldB, gFld, mC0, mC1, ap0, ap1, chkO, chkL, putL, mMk, apM, skp, sq, sDrop, sRet, sRetO, sIf, sSet, sSetO, sAsg, sPar, gN, gsN, gsC, gT, gA, sApp, sPutI, sNever, mItems, dItems, mRng, mRng2, gRng, gRng2, sFor, turn, gI, gI0, gLt, gLe, gGe, gAddI, gAddS, gAddT, gAddL, Sr.gSub, gMulI, gDiv, gMod, gPow, gNeg, gEq, gNe, dEq, eqS, gLen, gInt1, gMax2, gMin2, gAbs, gIx, gLtT, dInts, putD, gIsi, dKind, tInt, tOnly, List.map_cons, List.map_nil, List.length_cons, List.length_nil, List.cons_append, List.nil_append, List.getElem?_cons_zero, List.getElem?_cons_succ, List.set_cons_zero, List.set_cons_succ, List.replicate, Option.some_or, Option.none_or, Option.map_some, Option.map_none, Option.bind_some, Option.bind_none], fun _ => rfl, v1⟩
def flE (u e : Bool) : Nat := if e then fl1 u else 46
theorem flE_eq (u e : Bool) : (if e then S [fl1 u] else ("." : Str)) = S [flE u e] := by
  have : S [46] = ("." : Str) := by decide
  cases e
  · exact this.symm
  · rfl
theorem eqDot (u e : Bool) : gEq (.str (S [flE u e])) (.str ".") = some (.bl (!e)) := by cases u <;> cases e <;> kernel_rfl
theorem flE_cd (u e : Bool) : flE u e = fcd u (u == !e) := by cases u <;> cases e <;> rfl
theorem gE_run (u e : Bool) (a0 a1 a2 a3 a4 a5 a6 a7 a9 a11 j12 : Sl) : gE [a0, a1, a2, a3, a4, a5, a6, a7, .val (.str (sts [u])), a9, .val (.str (S [flE u e])), a11, j12] = .ok .nx [a0, a1, a2, a3, a4, a5, a6, a7, .val (.str (sts [u])), a9, .val (.str (S [flE u e])), a11, .val (.bl (u == !e))] := by
  have q1 := eqU u
  have q2 := eqDot u e
  have q3 : gEq (.bl u) (.bl (!e)) = some (.bl (u == !e)) := by cases u <;> cases e <;> rfl
  simp [gE, q1, q2, q3, mkF0, mkF1, fin0, fin1, st0, st1, bnd, Sr.ret, opt, mN, mNB, mB, der, m1, m2, m2b, m2r, mT, asB, mChain, mAnd, mOr, mNot, mAndV, mOrV, mNotV, mIf, mNil, mCons, mTup, mLst, mIsN, mNotN, Sr.isNon, mCal, mCal1, mIsi, mFldB, gFld, mC0, mC1, ap0, ap1, chkO, chkL, putL, mMk, apM, skp, sq, sDrop, sRet, sRetO, sIf, sSet, sSetO, sAsg, sPar, gN, gsN, gsC, gT, gA, sApp, sPutI, sNever, mItems, dItems, mRng, mRng2, gRng, gRng2, sFor, turn, gI, gI0, gLt, gLe, gGt, gGe, gAdd, gAddI, gAddS, gAddT, gAddL, Sr.gSub, gMul, gMulI, gDiv, gMod, gPow, gNeg, gNe, dEq, eqS, gLen, gInt1, gMax2, gMin2, gAbs, gIx, gLtT, dInts, putD, gIsi, dKind, tInt, tOnly, List.map_cons, List.map_nil, List.length_cons, List.length_nil, List.cons_append, List.nil_append, List.getElem?_cons_zero, List.getElem?_cons_succ, List.set_cons_zero, List.set_cons_succ, List.replicate, Option.some_or, Option.none_or, Option.map_some, Option.map_none, Option.bind_some, Option.bind_none]
theorem gF_run (c c' : Str) (y : Bool) (a0 a1 a2 a3 a5 a6 a7 a8 a9 a10 a11 : Sl) (h : gAdd (.str c) (.str (chk [y])) = some (.str c')) : gF [a0, a1, a2, a3, .val (.str c), a5, a6, a7, a8, a9, a10, a11, .val (.bl y)] = .ok .nx [a0, a1, a2, a3, .val (.str c'), a5, a6, a7, a8, a9, a10, a11, .val (.bl y)] := by
  have e1 := k_p
  have e2 := k_f
  cases y
  · rw [e2] at h; simp [gF, h, mkF0, mkF1, fin0, fin1, st0, st1, bnd, Sr.ret, opt, mN, mNB, mB, der, m1, m2, m2b, m2r, mT, asB, mChain, mAnd, mOr, mNot, mAndV, mOrV, mNotV, mIf, mNil, mCons, mTup, mLst, mIsN, mNotN, Sr.isNon, mCal, mCal1, mIsi, mFldB, gFld, mC0, mC1, ap0, ap1, chkO, chkL, putL, mMk, apM, skp, sq, sDrop, sRet, sRetO, sIf, sSet, sSetO, sAsg, sPar, gN, gsN, gsC, gT, gA, sApp, sPutI, sNever, mItems, dItems, mRng, mRng2, gRng, gRng2, sFor, turn, gI, gI0, gLt, gLe, gGt, gGe, gAddI, gAddS, gAddT, gAddL, Sr.gSub, gMul, gMulI, gDiv, gMod, gPow, gNeg, gEq, gNe, dEq, eqS, gLen, gInt1, gMax2, gMin2, gAbs, gIx, gLtT, dInts, putD, gIsi, dKind, tInt, tOnly, List.map_cons, List.map_nil, List.length_cons, List.length_nil, List.cons_append, List.nil_append, List.getElem?_cons_zero, List.getElem?_cons_succ, List.set_cons_zero, List.set_cons_succ, List.replicate, Option.some_or, Option.none_or, Option.map_some, Option.map_none, Option.bind_some, Option.bind_none]
  · rw [e1] at h; simp [gF, h, mkF0, mkF1, fin0, fin1, st0, st1, bnd, Sr.ret, opt, mN, mNB, mB, der, m1, m2, m2b, m2r, mT, asB, mChain, mAnd, mOr, mNot, mAndV, mOrV, mNotV, mIf, mNil, mCons, mTup, mLst, mIsN, mNotN, Sr.isNon, mCal, mCal1, mIsi, mFldB, gFld, mC0, mC1, ap0, ap1, chkO, chkL, putL, mMk, apM, skp, sq, sDrop, sRet, sRetO, sIf, sSet, sSetO, sAsg, sPar, gN, gsN, gsC, gT, gA, sApp, sPutI, sNever, mItems, dItems, mRng, mRng2, gRng, gRng2, sFor, turn, gI, gI0, gLt, gLe, gGt, gGe, gAddI, gAddS, gAddT, gAddL, Sr.gSub, gMul, gMulI, gDiv, gMod, gPow, gNeg, gEq, gNe, dEq, eqS, gLen, gInt1, gMax2, gMin2, gAbs, gIx, gLtT, dInts, putD, gIsi, dKind, tInt, tOnly, List.map_cons, List.map_nil, List.length_cons, List.length_nil, List.cons_append, List.nil_append, List.getElem?_cons_zero, List.getElem?_cons_succ, List.set_cons_zero, List.set_cons_succ, List.replicate, Option.some_or, Option.none_or, Option.map_some, Option.map_none, Option.bind_some, Option.bind_none]
theorem gG_run (s s' f f' u x : Str) (g g' : Int) (a0 a1 a2 a4 a7 a9 a11 a12 : Sl) (h1 : gAdd (.str s) (.str u) = some (.str s')) (h2 : gAdd (.str f) (.str x) = some (.str f')) (h3 : gAdd (.int g) (.int 1) = some (.int g')) : gG [a0, a1, a2, .val (.str s), a4, .val (.str f), .val (.int g), a7, .val (.str u), a9, .val (.str x), a11, a12] = .ok .nx [a0, a1, a2, .val (.str s'), a4, .val (.str f'), .val (.int g'), a7, .val (.str u), a9, .val (.str x), a11, a12] := by
  simp [gG, h1, h2, h3, mkF0, mkF1, fin0, fin1, st0, st1, bnd, Sr.ret, opt, mN, mNB, mB, der, m1, m2, m2b, m2r, mT, asB, mChain, mAnd, mOr, mNot, mAndV, mOrV, mNotV, mIf, mNil, mCons, mTup, mLst, mIsN, mNotN, Sr.isNon, mCal, mCal1, mIsi, mFldB, gFld, mC0, mC1, ap0, ap1, chkO, chkL, putL, mMk, apM, skp, sq, sDrop, sRet, sRetO, sIf, sSet, sSetO, sAsg, sPar, gN, gsN, gsC, gT, gA, sApp, sPutI, sNever, mItems, dItems, mRng, mRng2, gRng, gRng2, sFor, turn, gI, gI0, gLt, gLe, gGt, gGe, gAddI, gAddS, gAddT, gAddL, Sr.gSub, gMul, gMulI, gDiv, gMod, gPow, gNeg, gEq, gNe, dEq, eqS, gLen, gInt1, gMax2, gMin2, gAbs, gIx, gLtT, dInts, putD, gIsi, dKind, tInt, tOnly, List.map_cons, List.map_nil, List.length_cons, List.length_nil, List.cons_append, List.nil_append, List.getElem?_cons_zero, List.getElem?_cons_succ, List.set_cons_zero, List.set_cons_succ, List.replicate, Option.some_or, Option.none_or, Option.map_some, Option.map_none, Option.bind_some, Option.bind_none]
theorem sq_nx {x y : M Fl} {e e1 : En} (h : x e = .ok .nx e1) : sq x y e = y e1 := by
  unfold sq
  rw [h]
theorem cds_snoc {s c : List Bool} (h : s.length = c.length) (x y : Bool) : cds (s ++ [x]) (c ++ [y]) = cds s c ++ [fcd x y] := by
  unfold cds
  rw [List.zipWith_append h]
  rfl
def InG (a b n k : Nat) (rr : Int) (i : Nat) (e : En) : Prop := ∃ o s c age cur a2 j9 j10 j11 j12, PenOk o ∧ s.length = i ∧ Hi.Gr a b n k s c age cur ∧ e = [.own o, .val (nums a b n k), a2, .val (.str (sts s)), .val (.str (chk c)), .val (.str (S (cds s c))), .val (.int (age : Nat)), .val (.int rr), .val (.str (sts [cur])), j9, j10, j11, j12]
theorem t_gh (a b n k : Nat) (rr : Int) (hr : rr = 0 ∨ rr = 1) (hn : 1 ≤ n) (i : Nat) (hi : i < 1000) (e : En) (h : InG a b n k rr i e) : ∃ e', turn (gN 9) l__law_history_1 (.int ((i : Nat) : Int)) e = .ok .nx e' ∧ InG a b n k rr (i + 1) e' := by
  obtain ⟨o, s, c, age, cur, a2, j9, j10, j11, j12, ho, hs, G, rfl⟩ := h
  have hlen := G.len
  have lc : (cds s c).length = i := by unfold cds; rw [List.length_zipWith]; omega
  obtain ⟨o1, cur', ageI, eA, hA, v1⟩ := gA_run o (nums a b n k) (a : Nat) (b : Nat) (n : Nat) (k : Nat) (i : Nat) (age : Nat) rr rfl ho cur a2 (.val (.str (sts s))) (.val (.str (chk c))) (.val (.str (S (cds s c)))) j10 j11 j12
  obtain ⟨age', rfl⟩ : ∃ m : Nat, ageI = (m : Nat) := by
    rcases hA with ⟨_, h⟩ | ⟨_, _, _, h⟩
    · exact ⟨age, h⟩
    · exact ⟨0, h⟩
  have hA' : (cur' = cur ∧ age' = age) ∨ (s ≠ [] ∧ k ≤ age ∧ cur' = !cur ∧ age' = 0) := by
    rcases hA with ⟨h1, h2⟩ | ⟨h1, h2, h3, h4⟩
    · exact .inl ⟨h1, by omega⟩
    · exact .inr ⟨fun z => by rw [z] at hs; simp at hs; omega, by omega, h3, by omega⟩
  have hz := cut_neg (cds s c ++ [fl1 cur']) n hn (by simp; omega)
  have hadd := add_S (cds s c) [fl1 cur'] (by simp; omega)
  rw [List.length_append, List.length_singleton, lc] at hz
  have hlt := s_let a b n k ((cds s c ++ [fl1 cur']).drop (i + 1 - n))
  have ep : (((cds s c ++ [fl1 cur']).drop (i + 1 - n))).map (· == 112) = (Hi.fpL s c ++ [!cur']).drop (s.length + 1 - n) := by
    rw [List.map_drop, List.map_append, cds_p, hs]
    cases cur' <;> rfl
  have ef : (((cds s c ++ [fl1 cur']).drop (i + 1 - n))).map (· == 102) = (Hi.ffL s c ++ [cur']).drop (s.length + 1 - n) := by
    rw [List.map_drop, List.map_append, cds_f, hs]
    cases cur' <;> rfl
  rw [ep, ef] at hlt
  obtain ⟨o2, er, eD, hD, v2⟩ := gD_run o1 (nums a b n k) rr hr (S [fl1 cur']) (S ((cds s c ++ [fl1 cur']).drop (i + 1 - n))) _ v1 hlt a2 (.val (.str (sts s))) (.val (.str (chk c))) (.val (.str (S (cds s c)))) (.val (.int (age' : Nat))) (.val (.str (sts [cur']))) (.val (.int (i : Nat))) j12
  rw [flE_eq] at eD
  have G' := G.step (e := er) hn hA' hD
  have h1 := add_s s [cur'] (by simp; omega)
  have h2 := add_S (cds s c) [flE cur' er] (by simp; omega)
  have h3 := add_c c [cur' == !er] (by simp; omega)
  rw [flE_cd, ← cds_snoc hlen] at h2
  rw [← flE_cd] at h2
  have h4 : gAdd (.int ((age' : Nat) : Int)) (.int 1) = some (.int ((age' + 1 : Nat) : Int)) := rfl
  refine ⟨_, ?_, o2, s ++ [cur'], c ++ [cur' == !er], age' + 1, cur', a2, .val (.int ((i : Nat) : Int)), .val (.str (S [flE cur' er])), .val (.str (S ((cds s c ++ [fl1 cur']).drop (i + 1 - n)))), .val (.bl (cur' == !er)), v2, by simp [hs], G', rfl⟩
  have ht : turn (gN 9) l__law_history_1 (.int ((i : Nat) : Int)) [.own o, .val (nums a b n k), a2, .val (.str (sts s)), .val (.str (chk c)), .val (.str (S (cds s c))), .val (.int (age : Nat)), .val (.int rr), .val (.str (sts [cur])), j9, j10, j11, j12] = l__law_history_1 [.own o, .val (nums a b n k), a2, .val (.str (sts s)), .val (.str (chk c)), .val (.str (S (cds s c))), .val (.int (age : Nat)), .val (.int rr), .val (.str (sts [cur])), .val (.int ((i : Nat) : Int)), j10, j11, j12] := rfl
  rw [ht, gh_split, sq_nx eA, sq_nx (gB_run _ _ _ _ _ _ _ _ _ _ _ _ cur'), sq_nx (gC_run _ (n : Nat) _ _ _ _ _ _ _ _ _ _ _ _ _ _ rfl hadd hz), sq_nx eD, sq_nx (gE_run cur' er _ _ _ _ _ _ _ _ _ _ _), sq_nx (gF_run _ _ _ _ _ _ _ _ _ _ _ _ _ _ h3), gG_run _ _ _ _ _ _ _ _ _ _ _ _ _ _ _ _ h1 h2 h4]
theorem f_gh (a b n k : Nat) (rr : Int) (hr : rr = 0 ∨ rr = 1) (hn : 1 ≤ n) : ∀ (m i : Nat) (e : En), i + m ≤ 1000 → InG a b n k rr i e → ∃ e', forL (gN 9) l__law_history_1 ((List.range' i m).map fun (x : Nat) => .int ((x : Nat) : Int)) e = .ok .nx e' ∧ InG a b n k rr (i + m) e'
  | 0, i, e, _, h => ⟨e, by simp [forL, skp, Sr.ret], h⟩
  | m + 1, i, e, hm, h => by
    obtain ⟨e1, h1, g1⟩ := t_gh a b n k rr hr hn i (by omega) e h
    obtain ⟨e2, h2, g2⟩ := f_gh a b n k rr hr hn m (i + 1) e1 (by omega) g1
    refine ⟨e2, ?_, by rw [show i + (m + 1) = i + 1 + m by omega]; exact g2⟩
    rw [List.range'_succ, List.map_cons, forL_cons_nx h1, h2]
theorem b_gh (o o1 o2 N : D) (m k r1 r2 : Int) (z : Str) (r : List D) (x1 x2 : Str) (a0 a1 a2 a5 a6 a7 a8 a9 a10 a11 a12 : Sl) (g3 : gIx N (.int 3) = some (.int k)) (e1 : f__law_draw o [.int 2] = .ok (.int r1) o1) (e2 : f__law_draw o1 [.int 2] = .ok (.int r2) o2) (gu : gIx (.str "UD") (.int r2) = some (.str z)) (hr : gRng [.int m] = some r) (X : List D → M Fl) (hX : forL (gN 9) l__law_history_1 = X) (o3 : D)
    (h : X r [.own o2, .val N, .val (.int m), .val (.str ""), .val (.str ""), .val (.str ""), .val (.int k), .val (.int r1), .val (.str z), .no, .no, .no, .no] = .ok .nx [.own o3, a1, a2, .val (.str x1), .val (.str x2), a5, a6, a7, a8, a9, a10, a11, a12]) : f__law_history o [N, .int m] = .ok (.tup [.str x1, .str x2]) o3 := by
  simp only [f__law_history, b__law_history, sFor, hX]
  simp [g3, e1, e2, gu, hr, h, sizeLine, mkF0, mkF1, fin0, fin1, st0, st1, bnd, Sr.ret, opt, mN, mNB, mB, der, m1, m2, m2b, m2r, mT, asB, mChain, mAnd, mOr, mNot, mAndV, mOrV, mNotV, mIf, mNil, mCons, mTup, mLst, mIsN, mNotN, Sr.isNon, mCal, mCal1, mIsi, mFldB, gFld, mC0, mC1, ap0, ap1, chkO, chkL, putL, mMk, apM, skp, sq, sDrop, sRet, sRetO, sIf, sSet, sSetO, sAsg, sPar, gN, gsN, gsC, gT, gA, sApp, sPutI, sNever, mItems, dItems, mRng, mRng2, gRng2, turn, gI, gI0, gLt, gLe, gGt, gGe, gAdd, gAddI, gAddS, gAddT, gAddL, Sr.gSub, gMul, gMulI, gDiv, gMod, gPow, gNeg, gEq, gNe, dEq, eqS, gLen, gInt1, gMax2, gMin2, gAbs, gLtT, dInts, putD, gIsi, dKind, tInt, tOnly, List.map_cons, List.map_nil, List.length_cons, List.length_nil, List.cons_append, List.nil_append, List.getElem?_cons_zero, List.getElem?_cons_succ, List.set_cons_zero, List.set_cons_succ, List.replicate, Option.some_or, Option.none_or, Option.map_some, Option.map_none, Option.bind_some, Option.bind_none]
theorem s_history (a b n k m : Nat) (hn : 1 ≤ n) (hm : m ≤ 1000) (o : D) (ho : PenOk o) : ∃ s c o', f__law_history o [nums a b n k, .int (m : Nat)] = .ok (.tup [.str (sts s), .str (chk c)]) o' ∧ s.length = m ∧ c.length = m ∧ Hi.alw a b n k s c = true ∧ PenOk o' := by
  obtain ⟨r1, o1, e1, p1, p1', v1⟩ := s_draw o 2 ho (by omega) (by omega)
  obtain ⟨r2, o2, e2, p2, p2', v2⟩ := s_draw o1 2 v1 (by omega) (by omega)
  obtain ⟨u, hu⟩ : ∃ u, gIx (.str "UD") (.int r2) = some (.str (sts [u])) := by
    have : r2 = 0 ∨ r2 = 1 := by omega
    rcases this with rfl | rfl
    · exact ⟨true, by kernel_rfl⟩
    · exact ⟨false, by kernel_rfl⟩
  have hr : r1 = 0 ∨ r1 = 1 := by omega
  obtain ⟨e', h, o3, s, c, age, cur, a2, j9, j10, j11, j12, ho3, hs, G, rfl⟩ := f_gh a b n k r1 hr hn m 0 [.own o2, .val (nums a b n k), .val (.int (m : Nat)), .val (.str (sts [])), .val (.str (chk [])), .val (.str (S (cds [] []))), .val (.int (k : Nat)), .val (.int r1), .val (.str (sts [u])), .no, .no, .no, .no] (by omega) ⟨o2, [], [], k, u, _, _, _, _, _, v2, rfl, Hi.Gr.nil, rfl⟩
  have e0 : sts [] = ("" : Str) := by decide
  have e0' : chk [] = ("" : Str) := by decide
  have e0'' : S (cds [] []) = ("" : Str) := by decide
  rw [e0, e0', e0'', ← List.range_eq_range'] at h
  rw [Nat.zero_add] at hs
  exact ⟨s, c, o3, b_gh o o1 o2 _ (m : Nat) (k : Nat) r1 r2 _ _ _ _ .no _ _ _ _ _ _ _ _ _ _ rfl e1 e2 hu (rng_nats m (by omega)) _ rfl o3 h, hs, by have := G.len; omega, G.alw, ho3⟩
def Rpr (d : D) : Prop := ∃ z, gReprA d = some (.str z)
def TxL (z : Str) (m : Nat) : Prop := ∃ l, z = S l ∧ l.length ≤ m ∧ ∀ c ∈ l, c < 128
theorem tx_le {z : Str} {m n : Nat} (h : TxL z m) (hn : m ≤ n) : TxL z n := by
  obtain ⟨l, e, h1, h2⟩ := h
  exact ⟨l, e, by omega, h2⟩
theorem tx_sts (s : List Bool) : TxL (sts s) s.length := ⟨_, sts_S s, by simp, fun c hc => by
  rw [List.mem_map] at hc
  obtain ⟨b, _, rfl⟩ := hc
  cases b <;> decide⟩
theorem tx_chk (s : List Bool) : TxL (chk s) s.length := ⟨_, chk_S s, by simp, fun c hc => by
  rw [List.mem_map] at hc
  obtain ⟨b, _, rfl⟩ := hc
  cases b <;> decide⟩
theorem tx_add {x y : Str} {m n : Nat} (hx : TxL x m) (hy : TxL y n) (h : m + n ≤ 5000) : ∃ z, gAdd (.str x) (.str y) = some (.str z) ∧ TxL z (m + n) := by
  obtain ⟨l, rfl, h1, h2⟩ := hx
  obtain ⟨r, rfl, h3, h4⟩ := hy
  refine ⟨_, add_S l r (by omega), l ++ r, rfl, by simp; omega, fun c hc => ?_⟩
  rw [List.mem_append] at hc
  rcases hc with hc | hc
  · exact h2 c hc
  · exact h4 c hc
theorem tx_cut {x : Str} {m : Nat} (hx : TxL x m) (h : m ≤ 5000) (lo hi : Option Int) : ∃ z, gSl (.str x) lo hi = some (.str z) ∧ TxL z m := by
  obtain ⟨l, rfl, h1, h2⟩ := hx
  refine ⟨_, by simp only [gSl]; rw [if_pos (by rw [S_len]; exact sz (by omega))], ?_⟩
  refine ⟨(l.drop (HT.sIx l.length 0 lo)).take (HT.sIx l.length l.length hi - HT.sIx l.length 0 lo), ?_, ?_, fun c hc => h2 c (List.mem_of_mem_drop (List.mem_of_mem_take hc))⟩
  · unfold cutS
    rw [S_len]
    rfl
  · rw [List.length_take, List.length_drop]; omega
theorem tx_back {x : Str} {m : Nat} (hx : TxL x m) (h : m ≤ 5000) : ∃ z, gBack (.str x) = some (.str z) ∧ TxL z m := by
  obtain ⟨l, rfl, h1, h2⟩ := hx
  refine ⟨⟨(S l).cps.reverse⟩, by simp only [gBack]; rw [if_pos (by rw [S_len]; exact sz (by omega))], l.reverse, ?_, by rw [List.length_reverse]; exact h1, fun c hc => h2 c (List.mem_reverse.1 hc)⟩
  unfold S
  simp
theorem tx_lit (z : Str) (n : Nat) (h : (decide (z.cps.toList.length ≤ n) && z.cps.toList.all fun c => decide (c < 128)) = true) : TxL z n := by
  rw [Bool.and_eq_true, decide_eq_true_eq, List.all_eq_true] at h
  exact ⟨z.cps.toList, by unfold S; simp, h.1, fun c hc => by have := h.2 c hc; simpa using this⟩
theorem tx_mul {x : Str} {m : Nat} (hx : TxL x m) (h : m ≤ 100) (k : Nat) (hk : k ≤ 10) : ∃ z, gMulA (.str x) (.int (k : Int)) = some (.str z) ∧ TxL z (k * m) := by
  obtain ⟨l, rfl, h1, h2⟩ := hx
  refine ⟨_, mul_S l k (by omega) (by omega), _, rfl, ?_, fun c hc => ?_⟩
  · rw [List.length_flatten, List.map_replicate, List.sum_replicate_nat]
    exact Nat.mul_le_mul_left _ h1
  · rw [List.mem_flatten] at hc
    obtain ⟨r, hr, hc⟩ := hc
    rw [List.mem_replicate] at hr
    rw [hr.2] at hc
    exact h2 c hc
theorem tx_len {x : Str} {m : Nat} (hx : TxL x m) (h : m ≤ 5000) : ∃ n : Nat, gLen (.str x) = some (.int ((n : Nat) : Int)) ∧ n ≤ m := by
  obtain ⟨l, rfl, h1, h2⟩ := hx
  exact ⟨l.length, len_S l (by omega), h1⟩
theorem rpr_tup {ds : List D} {k n : Nat} {p : PyData} (h : Sh (.tup ds) k n p) (hk : k ≤ 64) (hn : n ≤ 16777216) : Rpr (.tup ds) := ⟨p.shown, by
  show (gRepr (.tup ds)).or _ = _
  rw [repr_tup h hk hn]; rfl⟩
theorem rpr_lst {ds : List D} {k n : Nat} {p : PyData} (h : Sh (.lst ds) k n p) (hk : k ≤ 64) (hn : n ≤ 16777216) : Rpr (.lst ds) := ⟨p.shown, by
  show (gRepr (.lst ds)).or _ = _
  rw [repr_lst h hk hn]; rfl⟩
theorem sh_tx {z : Str} {m : Nat} (h : TxL z m) (hm : m ≤ 1000) : ∃ p, Sh (.str z) 0 10002 p := by
  obtain ⟨l, rfl, h1, h2⟩ := h
  have h3 := PySem.StrLaws.reprText_len (S l) (fun c hc => Nat.lt_trans (h2 c hc) (by decide))
  rw [S_len] at h3
  exact ⟨.str (S l), rfl, rfl, rfl, Nat.le_refl _, by show (PySem.reprText (S l)).length ≤ 10002; omega⟩
theorem rpr_tx {z : Str} {m : Nat} (h : TxL z m) (hm : m ≤ 1000) : Rpr (.str z) := by
  obtain ⟨p, hp⟩ := sh_tx h hm
  have hl := hp.ln
  have e : p = .str z := by have := hp.eq; unfold toP at this; exact (Option.some.inj this).symm
  subst e
  have hl : (reprText z).length ≤ 10002 := hl
  refine ⟨reprText z, ?_⟩
  show (none : Option D).or (gReprP (.str z)) = _
  simp only [gReprP, Option.none_or]
  rw [if_pos (by have e : sizeLine = 16777216 := by decide
                 omega)]
def RprB (d : D) : Prop := ∃ z, gReprB d = some (.str z)
theorem rprB {d : D} (h : Rpr d) : RprB d := by
  obtain ⟨z, h⟩ := h
  exact ⟨z, by unfold gReprB; rw [h]; rfl⟩
theorem rprB_two {x y : Str} {m n : Nat} (hx : TxL x m) (hy : TxL y n) (hm : m ≤ 1000) (hn : n ≤ 1000) : RprB (.tup [.str x, .str y]) := by
  obtain ⟨p1, h1⟩ := sh_tx hx hm
  obtain ⟨p2, h2⟩ := sh_tx hy hn
  exact rprB (rpr_tup (sh_tup (shl_cons h1 (shl_cons h2 shl_nil))) (by omega) (by omega))
theorem eq_strs (z : Str) : gEq (.str z) (.str z) = some (.bl true) := by simp [gEq, dEq, eqS]
theorem same_of (d : D) (h : RprB d) : f__law_same .non [d, d] = .ok (.bl true) .non := by
  obtain ⟨z, h1⟩ := h
  have h2 := eq_strs z
  simp [f__law_same, b__law_same, h1, h2, mkF0, mkF1, fin0, fin1, st0, st1, bnd, Sr.ret, opt, mN, mNB, mB, der, m1, m2, m2b, m2r, mT, asB, mChain, mAnd, mOr, mNot, mAndV, mOrV, mNotV, mIf, mNil, mCons, mTup, mLst, mIsN, mNotN, Sr.isNon, mCal, mCal1, mIsi, mFldB, gFld, mC0, mC1, ap0, ap1, chkO, chkL, putL, mMk, apM, skp, sq, sDrop, sRet, sRetO, sIf, sSet, sSetO, sAsg, sPar, gN, gsN, gsC, gT, gA, sApp, sPutI, sNever, mItems, dItems, mRng, mRng2, gRng, gRng2, sFor, turn, gI, gI0, gLt, gLe, gGt, gGe, gAdd, gAddI, gAddS, gAddT, gAddL, Sr.gSub, gMul, gMulI, gDiv, gMod, gPow, gNeg, gNe, dEq, eqS, gLen, gInt1, gMax2, gMin2, gAbs, gIx, gLtT, dInts, putD, gIsi, dKind, tInt, tOnly, List.map_cons, List.map_nil, List.length_cons, List.length_nil, List.cons_append, List.nil_append, List.getElem?_cons_zero, List.getElem?_cons_succ, List.set_cons_zero, List.set_cons_succ, List.replicate, Option.some_or, Option.none_or, Option.map_some, Option.map_none, Option.bind_some, Option.bind_none]
theorem same_bl (b : Bool) : f__law_same .non [.bl b, .bl b] = .ok (.bl true) .non := by cases b <;> exact same_of _ ⟨_, rfl⟩
def Va (d : D) : Prop := ∃ l1 l2, d = .tup [.str (S l1), .str (S l2)] ∧ l1.length ≤ 1000 ∧ l2.length ≤ 1000 ∧ RprB d
def Vb (d : D) : Prop := f__law_is_history .non [d] = .ok (.bl false) .non ∧ f_is_history .non [d] = .ok (.bl false) .non ∧ RprB d
theorem va_two {x y : Str} {m n : Nat} (hx : TxL x m) (hy : TxL y n) (hm : m ≤ 1000) (hn : n ≤ 1000) : Va (.tup [.str x, .str y]) := by
  have h := rprB_two hx hy hm hn
  obtain ⟨l, rfl, h1, h2⟩ := hx
  obtain ⟨r, rfl, h3, h4⟩ := hy
  exact ⟨l, r, rfl, by omega, by omega, h⟩
theorem b_no (L V : D) (h0 : f_check_limits .non [L] = .ok .non .non) (h1 : f_is_history .non [V] = .ok (.bl false) .non) : f_is_allowed .non [L, V] = .ok (.bl false) .non := by
  simp [f_is_allowed, b_is_allowed, h0, h1, mkF0, mkF1, fin0, fin1, st0, st1, bnd, Sr.ret, opt, mN, mNB, mB, der, m1, m2, m2b, m2r, mT, asB, mChain, mAnd, mOr, mNot, mAndV, mOrV, mNotV, mIf, mNil, mCons, mTup, mLst, mIsN, mNotN, Sr.isNon, mCal, mCal1, mIsi, mFldB, gFld, mC0, mC1, ap0, ap1, chkO, chkL, putL, mMk, apM, skp, sq, sDrop, sRet, sRetO, sIf, sSet, sSetO, sAsg, sPar, gN, gsN, gsC, gT, gA, sApp, sPutI, sNever, mItems, dItems, mRng, mRng2, gRng, gRng2, sFor, turn, gI, gI0, gLt, gLe, gGt, gGe, gAdd, gAddI, gAddS, gAddT, gAddL, Sr.gSub, gMul, gMulI, gDiv, gMod, gPow, gNeg, gEq, gNe, dEq, eqS, gLen, gInt1, gMax2, gMin2, gAbs, gIx, gLtT, dInts, putD, gIsi, dKind, tInt, tOnly, List.map_cons, List.map_nil, List.length_cons, List.length_nil, List.cons_append, List.nil_append, List.getElem?_cons_zero, List.getElem?_cons_succ, List.set_cons_zero, List.set_cons_succ, List.replicate, Option.some_or, Option.none_or, Option.map_some, Option.map_none, Option.bind_some, Option.bind_none]
def Due (a b n k : Nat) (d : D) (P : Bool) : Prop := f_is_allowed .non [lim (a : Nat) (b : Nat) (n : Nat) (k : Nat), d] = .ok (.bl P) .non ∧ ((f__law_is_history .non [d] = .ok (.bl false) .non ∧ P = false) ∨ (f__law_is_history .non [d] = .ok (.bl true) .non ∧ ∃ x y, gIx d (.int 0) = some x ∧ gIx d (.int 1) = some y ∧ f__law_allowed .non [nums (a : Nat) (b : Nat) (n : Nat) (k : Nat), x, y] = .ok (.bl P) .non)) ∧ RprB d
theorem due_a (a b n k : Nat) (d : D) (h : Va d) : ∃ P, Due a b n k d P := by
  obtain ⟨l1, l2, rfl, h1, h2, h3⟩ := h
  have e1 := s_lawh l1 l2 (by omega) (by omega)
  have e2 := s_progh l1 l2 (by omega) (by omega)
  cases q : isH l1 l2 with
  | false =>
    rw [q] at e1 e2
    exact ⟨false, b_no _ _ (s_checklim _ _ _ _) e2, .inl ⟨e1, rfl⟩, h3⟩
  | true =>
    rw [q] at e1
    unfold isH at q
    rw [Bool.and_eq_true, Bool.and_eq_true, decide_eq_true_eq] at q
    obtain ⟨s, e3, g1⟩ := dec_ud q.1.2
    obtain ⟨c, e4, g2⟩ := dec_pm q.2
    rw [e3, e4] at e1 h3 ⊢
    exact ⟨Hi.alw a b n k s c, s_prog a b n k s c (by omega) (by omega), .inr ⟨e1, _, _, rfl, rfl, s_allowed a b n k s c (by omega) (by omega)⟩, h3⟩
theorem due_b (a b n k : Nat) (d : D) (h : Vb d) : ∃ P, Due a b n k d P := ⟨false, b_no _ _ (s_checklim _ _ _ _) h.2.1, .inl ⟨h.1, rfl⟩, h.2.2⟩
theorem due_ab (a b n k : Nat) (d : D) (h : Va d ∨ Vb d) : ∃ P, Due a b n k d P := by
  rcases h with h | h
  · exact due_a a b n k d h
  · exact due_b a b n k d h
theorem b_val (L N d x y : D) (z : Str) (H P : Bool) (a0 a1 a2 a5 a6 a7 a8 a12 a13 a14 j9 j10 j11 : Sl) (hr : gReprB d = some (.str z)) (hp : f_is_allowed .non [L, d] = .ok (.bl P) .non) (hs : f__law_same .non [.bl P, .bl P] = .ok (.bl true) .non)
    (hh : f__law_is_history .non [d] = .ok (.bl H) .non) (h : (H = false ∧ P = false) ∨ (H = true ∧ gIx d (.int 0) = some x ∧ gIx d (.int 1) = some y ∧ f__law_allowed .non [N, x, y] = .ok (.bl P) .non)) :
    turn (gN 9) l_law_1 d [a0, a1, a2, .val N, .val L, a5, a6, a7, a8, j9, j10, j11, a12, a13, a14] = .ok .nx [a0, a1, a2, .val N, .val L, a5, a6, a7, a8, .val d, .val (.str z), .val (.bl P), a12, a13, a14] := by
  have q : gNe (.str z) (.str z) = some (.bl false) := by simp [gNe, dEq, eqS]
  rcases h with ⟨rfl, rfl⟩ | ⟨rfl, g0, g1, h⟩
  · simp [l_law_1, hr, hp, hs, hh, q, mkF0, mkF1, fin0, fin1, st0, st1, bnd, Sr.ret, opt, mN, mNB, mB, der, m1, m2, m2b, m2r, mT, asB, mChain, mAnd, mOr, mNot, mAndV, mOrV, mNotV, mIf, mNil, mCons, mTup, mLst, mIsN, mNotN, Sr.isNon, mCal, mCal1, mIsi, mFldB, gFld, mC0, mC1, ap0, ap1, chkO, chkL, putL, mMk, apM, skp, sq, sDrop, sRet, sRetO, sIf, sSet, sSetO, sAsg, sPar, gN, gsN, gsC, gT, gA, sApp, sPutI, sNever, mItems, dItems, mRng, mRng2, gRng, gRng2, sFor, turn, gI, gI0, gLt, gLe, gGt, gGe, gAdd, gAddI, gAddS, gAddT, gAddL, Sr.gSub, gMul, gMulI, gDiv, gMod, gPow, gNeg, gEq, dEq, eqS, gLen, gInt1, gMax2, gMin2, gAbs, gLtT, dInts, putD, gIsi, dKind, tInt, tOnly, List.map_cons, List.map_nil, List.length_cons, List.length_nil, List.cons_append, List.nil_append, List.getElem?_cons_zero, List.getElem?_cons_succ, List.set_cons_zero, List.set_cons_succ, List.replicate, Option.some_or, Option.none_or, Option.map_some, Option.map_none, Option.bind_some, Option.bind_none]
  · simp [l_law_1, hr, hp, hs, hh, g0, g1, h, q, mkF0, mkF1, fin0, fin1, st0, st1, bnd, Sr.ret, opt, mN, mNB, mB, der, m1, m2, m2b, m2r, mT, asB, mChain, mAnd, mOr, mNot, mAndV, mOrV, mNotV, mIf, mNil, mCons, mTup, mLst, mIsN, mNotN, Sr.isNon, mCal, mCal1, mIsi, mFldB, gFld, mC0, mC1, ap0, ap1, chkO, chkL, putL, mMk, apM, skp, sq, sDrop, sRet, sRetO, sIf, sSet, sSetO, sAsg, sPar, gN, gsN, gsC, gT, gA, sApp, sPutI, sNever, mItems, dItems, mRng, mRng2, gRng, gRng2, sFor, turn, gI, gI0, gLt, gLe, gGt, gGe, gAdd, gAddI, gAddS, gAddT, gAddL, Sr.gSub, gMul, gMulI, gDiv, gMod, gPow, gNeg, gEq, dEq, eqS, gLen, gInt1, gMax2, gMin2, gAbs, gLtT, dInts, putD, gIsi, dKind, tInt, tOnly, List.map_cons, List.map_nil, List.length_cons, List.length_nil, List.cons_append, List.nil_append, List.getElem?_cons_zero, List.getElem?_cons_succ, List.set_cons_zero, List.set_cons_succ, List.replicate, Option.some_or, Option.none_or, Option.map_some, Option.map_none, Option.bind_some, Option.bind_none]
theorem t_val (a b n k : Nat) (d : D) (P : Bool) (h : Due a b n k d P) (a0 a1 a2 a5 a6 a7 a8 a12 a13 a14 j9 j10 j11 : Sl) : ∃ k10, turn (gN 9) l_law_1 d [a0, a1, a2, .val (nums (a : Nat) (b : Nat) (n : Nat) (k : Nat)), .val (lim (a : Nat) (b : Nat) (n : Nat) (k : Nat)), a5, a6, a7, a8, j9, j10, j11, a12, a13, a14] = .ok .nx [a0, a1, a2, .val (nums (a : Nat) (b : Nat) (n : Nat) (k : Nat)), .val (lim (a : Nat) (b : Nat) (n : Nat) (k : Nat)), a5, a6, a7, a8, .val d, k10, .val (.bl P), a12, a13, a14] := by
  obtain ⟨h1, h2, z, h3⟩ := h
  rcases h2 with ⟨h4, h5⟩ | ⟨h4, x, y, h5, h6, h7⟩
  · exact ⟨_, b_val _ _ _ .non .non z false P a0 a1 a2 a5 a6 a7 a8 a12 a13 a14 j9 j10 j11 h3 h1 (same_bl P) h4 (.inl ⟨rfl, h5⟩)⟩
  · exact ⟨_, b_val _ _ _ x y z true P a0 a1 a2 a5 a6 a7 a8 a12 a13 a14 j9 j10 j11 h3 h1 (same_bl P) h4 (.inr ⟨rfl, h5, h6, h7⟩)⟩
def oddL : List D := [.non, .bl true, .bl false, .int (-1), .int 0, .int 1, .int 2, .int 7, .int 100000000000, .str "", .str "U", .str "D", .str "+", .str "-", .str "UD", .str "+-", .tup [], .lst [], .dk [], .tup [.int 0], .lst [.int 0],
  .dk [(.inl 0, .int 1)], .tup [.str "U", .int 0, .int 0], .tup [.tup [.str "U", .int 0, .int 0]], .lst [.tup [.str "U", .int 0, .int 0]], .tup [.str "U", .str "+"], .tup [.str "", .str ""], .str "00U1", .tup [.non], .str "?"]
theorem odd_kd : ∀ v ∈ oddL, ∃ kd, dKind v = some (.inl kd) := by
  intro v hv
  simp only [oddL, List.mem_cons, List.not_mem_nil, or_false] at hv
  rcases hv with rfl | rfl | rfl | rfl | rfl | rfl | rfl | rfl | rfl | rfl | rfl | rfl | rfl | rfl | rfl | rfl | rfl | rfl | rfl | rfl | rfl | rfl | rfl | rfl | rfl | rfl | rfl | rfl | rfl | rfl <;> exact ⟨_, rfl⟩
theorem s_odd (o : D) (hv : PenOk o) : ∃ d o', f__law_odd o [] = .ok d o' ∧ d ∈ oddL ∧ PenOk o' := by
  obtain ⟨d, o', h1, h2, h3⟩ := s_pick o oddL hv (by decide) (by decide)
  refine ⟨d, o', ?_, h2, h3⟩
  have e : b__law_odd (st1 2 o []) = (sRet (mC1 f__law_pick 0 [] (mCons (mN 1) mNil))) [.own o, .val (.lst oddL)] := rfl
  unfold f__law_odd mkF1
  rw [e]
  simp [h1, mkF0, mkF1, fin0, fin1, st0, st1, bnd, Sr.ret, opt, mN, mNB, mB, der, m1, m2, m2b, m2r, mT, asB, mChain, mAnd, mOr, mNot, mAndV, mOrV, mNotV, mIf, mNil, mCons, mTup, mLst, mIsN, mNotN, Sr.isNon, mCal, mCal1, mIsi, mFldB, gFld, mC0, mC1, ap0, ap1, chkO, chkL, putL, mMk, apM, skp, sq, sDrop, sRet, sRetO, sIf, sSet, sSetO, sAsg, sPar, gN, gsN, gsC, gT, gA, sApp, sPutI, sNever, mItems, dItems, mRng, mRng2, gRng, gRng2, sFor, turn, gI, gI0, gLt, gLe, gGt, gGe, gAdd, gAddI, gAddS, gAddT, gAddL, Sr.gSub, gMul, gMulI, gDiv, gMod, gPow, gNeg, gEq, gNe, dEq, eqS, gLen, gInt1, gMax2, gMin2, gAbs, gIx, gLtT, dInts, putD, gIsi, dKind, tInt, tOnly, List.map_cons, List.map_nil, List.length_cons, List.length_nil, List.cons_append, List.nil_append, List.getElem?_cons_zero, List.getElem?_cons_succ, List.set_cons_zero, List.set_cons_succ, List.replicate, Option.some_or, Option.none_or, Option.map_some, Option.map_none, Option.bind_some, Option.bind_none]
theorem rprB_by (d : D) (h : (match gReprB d with | some (.str _) => true | _ => false) = true) : RprB d := by
  unfold RprB
  split at h
  · rename_i z e; exact ⟨z, e⟩
  · cases h
theorem odd_ab (d : D) (h : d ∈ oddL) : Va d ∨ Vb d := by
  simp only [oddL, List.mem_cons, List.not_mem_nil, or_false] at h
  have two : ∀ x y : Str, TxL x 2 → TxL y 2 → Va (.tup [.str x, .str y]) := fun x y hx hy => va_two hx hy (by omega) (by omega)
  rcases h with rfl | rfl | rfl | rfl | rfl | rfl | rfl | rfl | rfl | rfl | rfl | rfl | rfl | rfl | rfl | rfl | rfl | rfl | rfl | rfl | rfl | rfl | rfl | rfl | rfl | rfl | rfl | rfl | rfl | rfl <;> first
    | exact .inl (two _ _ (tx_lit _ _ (by decide +kernel)) (tx_lit _ _ (by decide +kernel)))
    | exact .inr ⟨by kernel_rfl, by kernel_rfl, rprB_by _ (by kernel_rfl)⟩
theorem odd_lim (d : D) (h : d ∈ oddL) : isC_Limits d = some false := by
  simp only [oddL, List.mem_cons, List.not_mem_nil, or_false] at h
  rcases h with rfl | rfl | rfl | rfl | rfl | rfl | rfl | rfl | rfl | rfl | rfl | rfl | rfl | rfl | rfl | rfl | rfl | rfl | rfl | rfl | rfl | rfl | rfl | rfl | rfl | rfl | rfl | rfl | rfl | rfl <;> rfl
theorem s_refused (d v : D) (h : isC_Limits d = some false) : f__law_refused .non [d, v] = .ok (.bl true) .non := by
  have h1 : f_check_limits .non [d] = .exc ⟨"LimitsError", []⟩ .non := by
    simp [f_check_limits, b_check_limits, h, sRaise, mkF0, mkF1, fin0, fin1, st0, st1, bnd, Sr.ret, opt, mN, mNB, mB, der, m1, m2, m2b, m2r, mT, asB, mChain, mAnd, mOr, mNot, mAndV, mOrV, mNotV, mIf, mNil, mCons, mTup, mLst, mIsN, mNotN, Sr.isNon, mCal, mCal1, mIsi, mFldB, gFld, mC0, mC1, ap0, ap1, chkO, chkL, putL, mMk, apM, skp, sq, sDrop, sRet, sRetO, sIf, sSet, sSetO, sAsg, sPar, gN, gsN, gsC, gT, gA, sApp, sPutI, sNever, mItems, dItems, mRng, mRng2, gRng, gRng2, sFor, turn, gI, gI0, gLt, gLe, gGt, gGe, gAdd, gAddI, gAddS, gAddT, gAddL, Sr.gSub, gMul, gMulI, gDiv, gMod, gPow, gNeg, gEq, gNe, dEq, eqS, gLen, gInt1, gMax2, gMin2, gAbs, gIx, gLtT, dInts, putD, gIsi, dKind, tInt, tOnly, List.map_cons, List.map_nil, List.length_cons, List.length_nil, List.cons_append, List.nil_append, List.getElem?_cons_zero, List.getElem?_cons_succ, List.set_cons_zero, List.set_cons_succ, List.replicate, Option.some_or, Option.none_or, Option.map_some, Option.map_none, Option.bind_some, Option.bind_none]
  have h2 : f_is_allowed .non [d, v] = .exc ⟨"LimitsError", []⟩ .non := by
    simp [f_is_allowed, b_is_allowed, h1, mkF0, mkF1, fin0, fin1, st0, st1, bnd, Sr.ret, opt, mN, mNB, mB, der, m1, m2, m2b, m2r, mT, asB, mChain, mAnd, mOr, mNot, mAndV, mOrV, mNotV, mIf, mNil, mCons, mTup, mLst, mIsN, mNotN, Sr.isNon, mCal, mCal1, mIsi, mFldB, gFld, mC0, mC1, ap0, ap1, chkO, chkL, putL, mMk, apM, skp, sq, sDrop, sRet, sRetO, sIf, sSet, sSetO, sAsg, sPar, gN, gsN, gsC, gT, gA, sApp, sPutI, sNever, mItems, dItems, mRng, mRng2, gRng, gRng2, sFor, turn, gI, gI0, gLt, gLe, gGt, gGe, gAdd, gAddI, gAddS, gAddT, gAddL, Sr.gSub, gMul, gMulI, gDiv, gMod, gPow, gNeg, gEq, gNe, dEq, eqS, gLen, gInt1, gMax2, gMin2, gAbs, gIx, gLtT, dInts, putD, gIsi, dKind, tInt, tOnly, List.map_cons, List.map_nil, List.length_cons, List.length_nil, List.cons_append, List.nil_append, List.getElem?_cons_zero, List.getElem?_cons_succ, List.set_cons_zero, List.set_cons_succ, List.replicate, Option.some_or, Option.none_or, Option.map_some, Option.map_none, Option.bind_some, Option.bind_none]
  have c1 : ct_LimitsError ("LimitsError" : Str) = some true := by decide
  have c2 : isE_ValueError.lookup ("LimitsError" : Str) = some true := by decide
  have c3 : isE_NumberError.lookup ("LimitsError" : Str) = some false := by decide
  simp [f__law_refused, b__law_refused, u__law_refused_1, sTry, mIsE, h2, c1, c2, c3, mkF0, mkF1, fin0, fin1, st0, st1, bnd, Sr.ret, opt, mN, mNB, mB, der, m1, m2, m2b, m2r, mT, asB, mChain, mAnd, mOr, mNot, mAndV, mOrV, mNotV, mIf, mNil, mCons, mTup, mLst, mIsN, mNotN, Sr.isNon, mCal, mCal1, mIsi, mFldB, gFld, mC0, mC1, ap0, ap1, chkO, chkL, putL, mMk, apM, skp, sq, sDrop, sRet, sRetO, sIf, sSet, sSetO, sAsg, sPar, gN, gsN, gsC, gT, gA, sApp, sPutI, sNever, mItems, dItems, mRng, mRng2, gRng, gRng2, sFor, turn, gI, gI0, gLt, gLe, gGt, gGe, gAdd, gAddI, gAddS, gAddT, gAddL, Sr.gSub, gMul, gMulI, gDiv, gMod, gPow, gNeg, gEq, gNe, dEq, eqS, gLen, gInt1, gMax2, gMin2, gAbs, gIx, gLtT, dInts, putD, gIsi, dKind, tInt, tOnly, List.map_cons, List.map_nil, List.length_cons, List.length_nil, List.cons_append, List.nil_append, List.getElem?_cons_zero, List.getElem?_cons_succ, List.set_cons_zero, List.set_cons_succ, List.replicate, Option.some_or, Option.none_or, Option.map_some, Option.map_none, Option.bind_some, Option.bind_none]
theorem t_bad (d x v : D) (a0 a1 a2 a3 a4 a6 a7 a8 a9 a10 a11 a13 a14 j12 : Sl) (h : isC_Limits d = some false) (g : gIx v (.int 0) = some x) : turn (gN 12) l_law_2 d [a0, a1, a2, a3, a4, .val v, a6, a7, a8, a9, a10, a11, j12, a13, a14] = .ok .nx [a0, a1, a2, a3, a4, .val v, a6, a7, a8, a9, a10, a11, .val d, a13, a14] := by
  have h1 := s_refused d x h
  have h2 := s_refused d .non h
  simp [l_law_2, h1, h2, g, mkF0, mkF1, fin0, fin1, st0, st1, bnd, Sr.ret, opt, mN, mNB, mB, der, m1, m2, m2b, m2r, mT, asB, mChain, mAnd, mOr, mNot, mAndV, mOrV, mNotV, mIf, mNil, mCons, mTup, mLst, mIsN, mNotN, Sr.isNon, mCal, mCal1, mIsi, mFldB, gFld, mC0, mC1, ap0, ap1, chkO, chkL, putL, mMk, apM, skp, sq, sDrop, sRet, sRetO, sIf, sSet, sSetO, sAsg, sPar, gN, gsN, gsC, gT, gA, sApp, sPutI, sNever, mItems, dItems, mRng, mRng2, gRng, gRng2, sFor, turn, gI, gI0, gLt, gLe, gGt, gGe, gAdd, gAddI, gAddS, gAddT, gAddL, Sr.gSub, gMul, gMulI, gDiv, gMod, gPow, gNeg, gEq, gNe, dEq, eqS, gLen, gInt1, gMax2, gMin2, gAbs, gLtT, dInts, putD, gIsi, dKind, tInt, tOnly, List.map_cons, List.map_nil, List.length_cons, List.length_nil, List.cons_append, List.nil_append, List.getElem?_cons_zero, List.getElem?_cons_succ, List.set_cons_zero, List.set_cons_succ, List.replicate, Option.some_or, Option.none_or, Option.map_some, Option.map_none, Option.bind_some, Option.bind_none]
theorem add_lst (a b : List D) (h : a.length + b.length ≤ 100000) : gAdd (.lst a) (.lst b) = some (.lst (a ++ b)) := by
  have hz : a.length + b.length ≤ 16777216 := by omega
  simp [gAdd, gAddI, gI0, gAddS, sizeLine, hz, mkF0, mkF1, fin0, fin1, st0, st1, bnd, Sr.ret, opt, mN, mNB, mB, der, m1, m2, m2b, m2r, mT, asB, mChain, mAnd, mOr, mNot, mAndV, mOrV, mNotV, mIf, mNil, mCons, mTup, mLst, mIsN, mNotN, Sr.isNon, mCal, mCal1, mIsi, mFldB, gFld, mC0, mC1, ap0, ap1, chkO, chkL, putL, mMk, apM, skp, sq, sDrop, sRet, sRetO, sIf, sSet, sSetO, sAsg, sPar, gN, gsN, gsC, gT, gA, sApp, sPutI, sNever, mItems, dItems, mRng, mRng2, gRng, gRng2, sFor, turn, gI, gI0, gLt, gLe, gGt, gGe, gAdd, gAddI, gAddS, gAddT, gAddL, Sr.gSub, gMul, gMulI, gDiv, gMod, gPow, gNeg, gEq, gNe, dEq, eqS, gLen, gInt1, gMax2, gMin2, gAbs, gIx, gLtT, dInts, putD, gIsi, dKind, tInt, tOnly, List.map_cons, List.map_nil, List.length_cons, List.length_nil, List.cons_append, List.nil_append, List.getElem?_cons_zero, List.getElem?_cons_succ, List.set_cons_zero, List.set_cons_succ, List.replicate, Option.some_or, Option.none_or, Option.map_some, Option.map_none, Option.bind_some, Option.bind_none]
theorem b_near (zs zc x y u1 u2 u3 u4 v1 v2 v3 v4 w1 w2 ss cc t1 t2 oth : Str) (L B : List D) (m m' r r' : Int) (o o1 o2 o3 : D) (k9 : Sl) (l : gLen (.str zs) = some (.int m)) (la : gAdd (.int m) (.int 1) = some (.int m')) (e1 : f__law_draw o [.int m'] = .ok (.int r) o1) (ra : gAdd (.int r) (.int 1) = some (.int r'))
    (e2 : f__law_pick o1 [.lst [.str "U", .str "D", .str "?", .str ""]] = .ok (.str x) o2) (e3 : f__law_pick o2 [.lst [.str "+", .str "-", .str " ", .str ""]] = .ok (.str y) o3)
    (s1 : gSl (.str zs) none (some r) = some (.str u1)) (s2 : gSl (.str zs) (some r') none = some (.str u2)) (s3 : gAdd (.str u1) (.str x) = some (.str u3)) (s4 : gAdd (.str u3) (.str u2) = some (.str u4))
    (c1 : gSl (.str zc) none (some r) = some (.str v1)) (c2 : gSl (.str zc) (some r') none = some (.str v2)) (c3 : gAdd (.str v1) (.str y) = some (.str v3)) (c4 : gAdd (.str v3) (.str v2) = some (.str v4))
    (b1 : gBack (.str zs) = some (.str w1)) (b2 : gBack (.str zc) = some (.str w2)) (d1 : gAdd (.str zs) (.str zs) = some (.str ss)) (d2 : gAdd (.str zc) (.str zc) = some (.str cc)) (hl : gListA (.str zc) = some (.lst L))
    (n1 : gSl (.str zs) (some 1) none = some (.str t1)) (n2 : gSl (.str zc) (some 1) none = some (.str t2)) (Y : M D) (hY : mLc [9] (mItems (mN 2)) (gN 9) t__law_near_1 e__law_near_1 = Y)
    (hy : ∀ a7, Y [.own o3, .val (.tup [.str zs, .str zc]), .val (.str zs), .val (.str zc), .val (.int r), .val (.str x), .val (.str y), a7, .no, .no] = .ok (.lst B) [.own o3, .val (.tup [.str zs, .str zc]), .val (.str zs), .val (.str zc), .val (.int r), .val (.str x), .val (.str y), a7, .no, k9]) (hj : gJoin "" [.lst B] = some (.str oth)) :
    f__law_near o [.tup [.str zs, .str zc]] = .ok (.lst [.tup [.str u4, .str zc], .tup [.str zs, .str v4], .tup [.str w1, .str w2], .tup [.str ss, .str cc], .tup [.str zc, .str zs], .lst [.str zs, .str zc], .tup [.str zs, .str zc, .str ""], .tup [.str zs], .str zs, .tup [.str zs, .lst L], .tup [.str t1, .str t2], .tup [.str oth, .str zc], .tup [.str u1, .str v1]]) o3 := by
  have a1 := add_lst [.tup [.str u4, .str zc], .tup [.str zs, .str v4]] [.tup [.str w1, .str w2], .tup [.str ss, .str cc]] (by simp)
  have a2 := add_lst [.tup [.str u4, .str zc], .tup [.str zs, .str v4], .tup [.str w1, .str w2], .tup [.str ss, .str cc]] [.tup [.str zc, .str zs], .lst [.str zs, .str zc], .tup [.str zs, .str zc, .str ""], .tup [.str zs]] (by simp)
  have a3 := add_lst [.tup [.str u4, .str zc], .tup [.str zs, .str v4], .tup [.str w1, .str w2], .tup [.str ss, .str cc], .tup [.str zc, .str zs], .lst [.str zs, .str zc], .tup [.str zs, .str zc, .str ""], .tup [.str zs]] [.str zs, .tup [.str zs, .lst L], .tup [.str t1, .str t2]] (by simp)
  have a4 := add_lst [.tup [.str u4, .str zc], .tup [.str zs, .str v4], .tup [.str w1, .str w2], .tup [.str ss, .str cc], .tup [.str zc, .str zs], .lst [.str zs, .str zc], .tup [.str zs, .str zc, .str ""], .tup [.str zs], .str zs, .tup [.str zs, .lst L], .tup [.str t1, .str t2]] [.tup [.str oth, .str zc], .tup [.str u1, .str v1]] (by simp)
  simp only [List.cons_append, List.nil_append] at a1 a2 a3 a4
  simp only [f__law_near, b__law_near, hY]
  simp [mSl, mPart, mNoP, asI, mMt, asS, sizeLine, l, la, e1, e2, e3, ra, s1, s2, s3, s4, c1, c2, c3, c4, b1, b2, d1, d2, hl, n1, n2, hy, hj, a1, a2, a3, a4, mkF0, mkF1, fin0, fin1, st0, st1, bnd, Sr.ret, opt, mN, mNB, mB, der, m1, m2, m2b, m2r, mT, asB, mChain, mAnd, mOr, mNot, mAndV, mOrV, mNotV, mIf, mNil, mCons, mTup, mLst, mIsN, mNotN, Sr.isNon, mCal, mCal1, mIsi, mFldB, gFld, mC0, mC1, ap0, ap1, chkO, chkL, putL, mMk, apM, skp, sq, sDrop, sRet, sRetO, sIf, sSet, sSetO, sAsg, sPar, gN, gsN, gsC, gT, gA, sApp, sPutI, sNever, mItems, dItems, mRng, mRng2, gRng, gRng2, sFor, turn, gI, gI0, gLt, gLe, gGt, gGe, gAddI, gAddS, gAddT, gAddL, Sr.gSub, gMul, gMulI, gDiv, gMod, gPow, gNeg, gEq, gNe, dEq, eqS, gInt1, gMax2, gMin2, gAbs, gIx, gLtT, dInts, putD, gIsi, dKind, tInt, tOnly, List.map_cons, List.map_nil, List.length_cons, List.length_nil, List.cons_append, List.nil_append, List.getElem?_cons_zero, List.getElem?_cons_succ, List.set_cons_zero, List.set_cons_succ, List.replicate, Option.some_or, Option.none_or, Option.map_some, Option.map_none, Option.bind_some, Option.bind_none]
theorem flip_c (zs zc : Str) (s : List Bool) (hz : zs = sts s) (a0 a1 a3 a4 a5 a6 a7 a8 : Sl) (hs : s.length ≤ 1000) : mLc [9] (mItems (mN 2)) (gN 9) t__law_near_1 e__law_near_1 [a0, a1, .val (.str zs), a3, a4, a5, a6, a7, a8, .no] = .ok (.lst ((s.map not).map fun c => .str (sts [c]))) [a0, a1, .val (.str zs), a3, a4, a5, a6, a7, a8, .no] := by
  have hm : mItems (mN 2) [a0, a1, .val (.str zs), a3, a4, a5, a6, a7, a8, .no] = .ok (s.map fun b => D.str (sts [b])) [a0, a1, .val (.str zs), a3, a4, a5, a6, a7, a8, .no] := by
    rw [hz, ← chars_sts]
    simp [mItems, mN, bnd, opt, dItems, charsD]
  have h := mLc_map (w := gN 9) (t := t__law_near_1) (el := e__law_near_1) (vs := [9]) (fun b : Bool => D.str (sts [b])) (fun b => .str (sts [!b])) hm (by omega) (fun b hb => ⟨[a0, a1, .val (.str zs), a3, a4, a5, a6, a7, a8, .val (.str (sts [b]))], [a0, a1, .val (.str zs), a3, a4, a5, a6, a7, a8, .val (.str (sts [b]))], [a0, a1, .val (.str zs), a3, a4, a5, a6, a7, a8, .val (.str (sts [b]))], rfl, rfl, by
    have q := eqU b
    have eU := k_u
    have eD := k_d
    have qU : gEq (.str "U") (.str "U") = some (.bl true) := by kernel_rfl
    have qD : gEq (.str "D") (.str "U") = some (.bl false) := by kernel_rfl
    cases b <;> simp [e__law_near_1, eU, eD, qU, qD, mkF0, mkF1, fin0, fin1, st0, st1, bnd, Sr.ret, opt, mN, mNB, mB, der, m1, m2, m2b, m2r, mT, asB, mChain, mAnd, mOr, mNot, mAndV, mOrV, mNotV, mIf, mNil, mCons, mTup, mLst, mIsN, mNotN, Sr.isNon, mCal, mCal1, mIsi, mFldB, gFld, mC0, mC1, ap0, ap1, chkO, chkL, putL, mMk, apM, skp, sq, sDrop, sRet, sRetO, sIf, sSet, sSetO, sAsg, sPar, gN, gsN, gsC, gT, gA, sApp, sPutI, sNever, mItems, dItems, mRng, mRng2, gRng, gRng2, sFor, turn, gI, gI0, gLt, gLe, gGt, gGe, gAdd, gAddI, gAddS, gAddT, gAddL, Sr.gSub, gMul, gMulI, gDiv, gMod, gPow, gNeg, gNe, dEq, eqS, gLen, gInt1, gMax2, gMin2, gAbs, gIx, gLtT, dInts, putD, gIsi, dKind, tInt, tOnly, List.map_cons, List.map_nil, List.length_cons, List.length_nil, List.cons_append, List.nil_append, List.getElem?_cons_zero, List.getElem?_cons_succ, List.set_cons_zero, List.set_cons_succ, List.replicate, Option.some_or, Option.none_or, Option.map_some, Option.map_none, Option.bind_some, Option.bind_none], rfl⟩)
  rw [h, List.map_map]
  rfl
theorem sum_ones' (w : List Bool) : ((w.map fun c => sts [c]).map (·.length)).sum = w.length := sum_ones _ (fun c => by rw [sts_len]; rfl) w
theorem gjoin_sts (l : List Bool) (hl : l.length ≤ 10000) : gJoin ("" : Str) [.lst (l.map fun c => .str (sts [c]))] = some (.str (sts l)) := by
  simp only [gJoin, gJoinL, dStrs_map, join_sts]
  have e0 : ("" : Str).length = 0 := by decide
  rw [sum_ones', e0, Nat.mul_zero, Nat.add_zero, if_pos (by omega)]
theorem list_chk (c : List Bool) (hc : c.length ≤ 1000) : gListA (.str (chk c)) = some (.lst (c.map fun b => D.str (chk [b]))) := by
  rw [← chars_chk]
  show (none : Option D).or (gListS (.str (chk c))) = _
  simp only [gListS, Option.none_or]
  rw [if_pos (by rw [chk_len]; exact sz (by omega))]
  rfl
theorem vb_list (zs zc : Str) {m : Nat} (h1 : TxL zs m) (h2 : TxL zc m) (hm : m ≤ 1000) : Vb (.lst [.str zs, .str zc]) := by
  obtain ⟨p1, q1⟩ := sh_tx h1 hm
  obtain ⟨p2, q2⟩ := sh_tx h2 hm
  exact ⟨by rfl, by rfl, rprB (rpr_lst (sh_lst (shl_cons q1 (shl_cons q2 shl_nil))) (by omega) (by omega))⟩
theorem vb_three (zs zc : Str) {m : Nat} (h1 : TxL zs m) (h2 : TxL zc m) (hm : m ≤ 1000) : Vb (.tup [.str zs, .str zc, .str ""]) := by
  obtain ⟨p1, q1⟩ := sh_tx h1 hm
  obtain ⟨p2, q2⟩ := sh_tx h2 hm
  obtain ⟨p3, q3⟩ := sh_tx (tx_lit "" 0 (by decide +kernel)) (by omega)
  exact ⟨by rfl, by rfl, rprB (rpr_tup (sh_tup (shl_cons q1 (shl_cons q2 (shl_cons q3 shl_nil)))) (by omega) (by omega))⟩
theorem vb_one (zs : Str) {m : Nat} (h1 : TxL zs m) (hm : m ≤ 1000) : Vb (.tup [.str zs]) := by
  obtain ⟨p1, q1⟩ := sh_tx h1 hm
  exact ⟨by rfl, by rfl, rprB (rpr_tup (sh_tup (shl_cons q1 shl_nil)) (by omega) (by omega))⟩
theorem vb_str (zs : Str) {m : Nat} (h1 : TxL zs m) (hm : m ≤ 1000) : Vb (.str zs) := ⟨by rfl, by rfl, rprB (rpr_tx h1 hm)⟩
theorem shl_alls {k n : Nat} : ∀ (ds : List D), (∀ d ∈ ds, ∃ p, Sh d k n p) → ∃ ps, ShL ds k ((n + 2) * ds.length) ps
  | [], _ => ⟨[], ⟨rfl, rfl, rfl, Nat.zero_le _, Nat.zero_le _⟩⟩
  | d :: ds, h => by
    obtain ⟨p, hp⟩ := h d (by simp)
    obtain ⟨ps, hps⟩ := shl_alls ds fun x hx => h x (by simp [hx])
    have := shl_cons hp hps
    rw [Nat.max_self] at this
    refine ⟨p :: ps, ?_⟩
    have e : (n + 2) * (d :: ds).length = n + 2 + (n + 2) * ds.length := by rw [List.length_cons, Nat.mul_succ]; omega
    rw [e]
    exact this
theorem vb_pl (s c : List Bool) (hs : s.length ≤ 1000) (hc : c.length ≤ 1000) : Vb (.tup [.str (sts s), .lst (c.map fun b => D.str (chk [b]))]) := by
  refine ⟨by rfl, ?_, ?_⟩
  · have m1 := s_made_of (sts s) "UD" (by rw [sts_len]; omega)
    have m2 : f_is_made_of .non [.lst (c.map fun b => D.str (chk [b])), .str "+-"] = .ok (.bl false) .non := s_made_no _ _ .list rfl (by decide)
    generalize ((sts s).cps.toList.all fun c => decide (c ∈ ("UD" : Str).cps.toList)) = P at m1
    have q : isB_tuple (.tup [.str (sts s), .lst (c.map fun b => D.str (chk [b]))]) = some true := rfl
    have i0 : gIx (.tup [.str (sts s), .lst (c.map fun b => D.str (chk [b]))]) (.int 0) = some (.str (sts s)) := rfl
    have i1 : gIx (.tup [.str (sts s), .lst (c.map fun b => D.str (chk [b]))]) (.int 1) = some (.lst (c.map fun b => D.str (chk [b]))) := rfl
    have l0 : gLen (.tup [.str (sts s), .lst (c.map fun b => D.str (chk [b]))]) = some (.int 2) := rfl
    have w0 : gNe (.int 2) (.int 2) = some (.bl false) := rfl
    have u1 := ud_eq
    have u2 := pm_eq
    generalize D.lst (c.map fun b => D.str (chk [b])) = LL at *
    cases P <;> simp [f_is_history, b_is_history, q, i0, i1, l0, w0, m1, m2, u1, u2, mkF0, mkF1, fin0, fin1, st0, st1, bnd, Sr.ret, opt, mN, mNB, mB, der, m2b, m2r, mT, asB, mChain, mAnd, mOr, mNot, mAndV, mOrV, mNotV, mIf, mNil, mCons, mTup, mLst, mIsN, mNotN, Sr.isNon, mCal, mCal1, mIsi, mFldB, gFld, mC0, mC1, ap0, ap1, chkO, chkL, putL, mMk, apM, skp, sq, sDrop, sRet, sRetO, sIf, sSet, sSetO, sAsg, sPar, gN, gsN, gsC, gT, gA, sApp, sPutI, sNever, mItems, dItems, mRng, mRng2, gRng, gRng2, sFor, turn, gI, gI0, gLt, gLe, gGt, gGe, gAddI, gAddS, gAddT, gAddL, Sr.gSub, gMul, gMulI, gDiv, gMod, gPow, gNeg, dEq, eqS, gInt1, gMax2, gMin2, gAbs, gLtT, dInts, putD, dKind, tInt, tOnly, List.map_cons, List.map_nil, List.length_cons, List.length_nil, List.cons_append, List.nil_append, List.getElem?_cons_zero, List.getElem?_cons_succ, List.set_cons_zero, List.set_cons_succ, List.replicate, Option.some_or, Option.none_or, Option.map_some, Option.map_none, Option.bind_some, Option.bind_none, Sr.m1, Sr.m2]
  · obtain ⟨p1, q1⟩ := sh_tx (tx_sts s) hs
    obtain ⟨ps, q2⟩ := shl_alls (k := 0) (n := 10002) (c.map fun b => D.str (chk [b])) (fun d hd => by
      rw [List.mem_map] at hd
      obtain ⟨b, _, rfl⟩ := hd
      exact sh_tx (tx_chk [b]) (by simp))
    have h3 := sh_lst q2
    have hb : (10002 + 2) * (c.map fun b => D.str (chk [b])).length ≤ 10004 * 1000 := Nat.mul_le_mul_left _ (by rw [List.length_map]; exact hc)
    have h4 := rpr_tup (sh_tup (shl_cons q1 (shl_cons h3 shl_nil))) (by omega) (by omega)
    exact rprB h4
theorem s_near (s c : List Bool) (hl : s.length = c.length) (hs : s.length ≤ 60) (o : D) (ho : PenOk o) : ∃ ds o', f__law_near o [.tup [.str (sts s), .str (chk c)]] = .ok (.lst ds) o' ∧ (∀ d ∈ ds, Va d ∨ Vb d) ∧ ds.length = 13 ∧ PenOk o' := by
  have ts : TxL (sts s) 60 := tx_le (tx_sts s) hs
  have tc : TxL (chk c) 60 := tx_le (tx_chk c) (by omega)
  obtain ⟨r, o1, e1, p1, p1', v1⟩ := s_draw o ((s.length : Int) + 1) ho (by omega) (by omega)
  obtain ⟨x, o2, e2, hx, v2⟩ := s_pick o1 [.str "U", .str "D", .str "?", .str ""] v1 (by decide) (by decide)
  obtain ⟨y, o3, e3, hy, v3⟩ := s_pick o2 [.str "+", .str "-", .str " ", .str ""] v2 (by decide) (by decide)
  obtain ⟨x, rfl, tx⟩ : ∃ z, x = .str z ∧ TxL z 1 := by
    simp only [List.mem_cons, List.not_mem_nil, or_false] at hx
    rcases hx with rfl | rfl | rfl | rfl <;> exact ⟨_, rfl, tx_lit _ _ (by decide +kernel)⟩
  obtain ⟨y, rfl, ty⟩ : ∃ z, y = .str z ∧ TxL z 1 := by
    simp only [List.mem_cons, List.not_mem_nil, or_false] at hy
    rcases hy with rfl | rfl | rfl | rfl <;> exact ⟨_, rfl, tx_lit _ _ (by decide +kernel)⟩
  obtain ⟨u1, s1, h1⟩ := tx_cut ts (by omega) none (some r)
  obtain ⟨u2, s2, h2⟩ := tx_cut ts (by omega) (some (r + 1)) none
  obtain ⟨u3, s3, h3⟩ := tx_add h1 tx (by omega)
  obtain ⟨u4, s4, h4⟩ := tx_add h3 h2 (by omega)
  obtain ⟨w1, c1, g1⟩ := tx_cut tc (by omega) none (some r)
  obtain ⟨w2, c2, g2⟩ := tx_cut tc (by omega) (some (r + 1)) none
  obtain ⟨w3, c3, g3⟩ := tx_add g1 ty (by omega)
  obtain ⟨w4, c4, g4⟩ := tx_add g3 g2 (by omega)
  obtain ⟨b1, q1, f1⟩ := tx_back ts (by omega)
  obtain ⟨b2, q2, f2⟩ := tx_back tc (by omega)
  obtain ⟨ss, d1, f3⟩ := tx_add ts ts (by omega)
  obtain ⟨cc, d2, f4⟩ := tx_add tc tc (by omega)
  obtain ⟨t1, n1, f5⟩ := tx_cut ts (by omega) (some 1) none
  obtain ⟨t2, n2, f6⟩ := tx_cut tc (by omega) (some 1) none
  have hj := gjoin_sts (s.map not) (by simp; omega)
  have hn := b_near (sts s) (chk c) x y u1 u2 u3 u4 w1 w2 w3 w4 b1 b2 ss cc t1 t2 (sts (s.map not)) (c.map fun b => D.str (chk [b])) ((s.map not).map fun c => .str (sts [c])) (s.length : Nat) ((s.length : Int) + 1) r (r + 1) o o1 o2 o3 .no (len_s s (by omega)) rfl e1 rfl e2 e3 s1 s2 s3 s4 c1 c2 c3 c4 q1 q2 d1 d2 (list_chk c (by omega)) n1 n2 _ rfl (fun a7 => by
    have h := flip_c (sts s) (chk c) s rfl (.own o3) (.val (.tup [.str (sts s), .str (chk c)])) (.val (.str (chk c))) (.val (.int r)) (.val (.str x)) (.val (.str y)) a7 .no (by omega)
    exact h) hj
  refine ⟨_, o3, hn, fun d hd => ?_, rfl, v3⟩
  simp only [List.mem_cons, List.not_mem_nil, or_false] at hd
  rcases hd with rfl | rfl | rfl | rfl | rfl | rfl | rfl | rfl | rfl | rfl | rfl | rfl | rfl
  · exact .inl (va_two h4 tc (by omega) (by omega))
  · exact .inl (va_two ts g4 (by omega) (by omega))
  · exact .inl (va_two f1 f2 (by omega) (by omega))
  · exact .inl (va_two f3 f4 (by omega) (by omega))
  · exact .inl (va_two tc ts (by omega) (by omega))
  · exact .inr (vb_list _ _ ts tc (by omega))
  · exact .inr (vb_three _ _ ts tc (by omega))
  · exact .inr (vb_one _ ts (by omega))
  · exact .inr (vb_str _ ts (by omega))
  · exact .inr (vb_pl s c (by omega) (by omega))
  · exact .inl (va_two f5 f6 (by omega) (by omega))
  · exact .inl (va_two (tx_sts (s.map not)) tc (by simp; omega) (by omega))
  · exact .inl (va_two h1 g1 (by omega) (by omega))
theorem ix_pm (r : Int) (h0 : 0 ≤ r) (h1 : r < 2) : ∃ b, gIx (.str "+-") (.int r) = some (.str (chk [b])) := by
  have : r = 0 ∨ r = 1 := by omega
  rcases this with rfl | rfl
  · exact ⟨true, by kernel_rfl⟩
  · exact ⟨false, by kernel_rfl⟩
theorem ix_ud (r : Int) (h0 : 0 ≤ r) (h1 : r < 2) : ∃ b, gIx (.str "UD") (.int r) = some (encS b) := by
  have : r = 0 ∨ r = 1 := by omega
  rcases this with rfl | rfl
  · exact ⟨true, by kernel_rfl⟩
  · exact ⟨false, by kernel_rfl⟩
theorem ix_last (u : List Bool) (h : u ≠ []) (hl : u.length ≤ 10000) : ∃ b, gIx (.str (chk u)) (.int (-1)) = some (.str (chk [b])) := by
  have hz : (chk u).length ≤ sizeLine := by rw [chk_len]; have e : sizeLine = 16777216 := by decide
                                            omega
  have hpos : 0 < u.length := List.length_pos_iff.mpr h
  have hn : (chk u).cps.toList.length = u.length := by unfold chk; simp
  refine ⟨u[u.length - 1]'(by omega), ?_⟩
  simp only [gIx]
  rw [if_pos hz]
  have ha : L2.atI (chk u).cps.toList (-1) = some ((chk u).cps.toList[u.length - 1]'(by omega)) := by
    have hi : L2.ixN (chk u).cps.toList.length (-1) = some (u.length - 1) := by
      rw [hn]
      unfold L2.ixN
      simp
      omega
    unfold L2.atI
    rw [hi]
    exact List.getElem?_eq_getElem (by omega)
  rw [ha]
  unfold chk
  simp
theorem ne_empty (u : List Bool) : gNe (.str (chk u)) (.str "") = some (.bl (!u.isEmpty)) := by
  have e : ("" : Str) = chk [] := by decide
  have h : decide (chk u = chk []) = u.isEmpty := by
    cases u with
    | nil => rfl
    | cons b u =>
      have : ¬ chk (b :: u) = chk [] := fun z => by
        have := congrArg Str.length z
        simp [chk_len] at this
      simp [this]
  rw [e]
  simp only [gNe, dEq, eqS, h]
  rfl
theorem t_checks (o most size : Int → D) (x1 x2 : Sl) (o : D) (ho : PenOk o) (way : Int) (hw : 0 ≤ way ∧ way < 3) (u : List Bool) (hu : u.length ≤ 1000) (j5 : Sl) (d : D) :
    ∃ u' o' k5, turn (gN 5) l__law_checks_1 d [.own o, x1, x2, .val (.int way), .val (.str (chk u)), j5] = .ok .nx [.own o', x1, x2, .val (.int way), .val (.str (chk u')), k5] ∧ u'.length = u.length + 1 ∧ PenOk o' := by
  have hadd : ∀ b, gAdd (.str (chk u)) (.str (chk [b])) = some (.str (chk (u ++ [b]))) := fun b => by
    have hz : u.length + 1 ≤ 16777216 := by omega
    simp [gAdd, gAddI, gI0, gAddS, chk_len, chk_app, sizeLine, hz]
  have hne := ne_empty u
  have plain : ∀ o, PenOk o → ∃ b o', mN 4 = mN 4 ∧ f__law_draw o [.int 2] = .ok b o' ∧ (∃ c, gIx (.str "+-") b = some (.str (chk [c]))) ∧ PenOk o' := fun o ho => by
    obtain ⟨r, o1, e1, h1, h2, v1⟩ := s_draw o 2 ho (by omega) (by omega)
    exact ⟨.int r, o1, rfl, e1, ix_pm r h1 h2, v1⟩
  by_cases hway : 0 < way
  · cases hE : u.isEmpty with
    | true =>
      rw [hE] at hne
      obtain ⟨b, o', _, e1, ⟨c, e2⟩, v1⟩ := plain o ho
      exact ⟨u ++ [c], o', _, by simp [l__law_checks_1, hway, hne, e1, e2, hadd, mkF0, mkF1, fin0, fin1, st0, st1, bnd, Sr.ret, opt, mN, mNB, mB, der, m1, m2, m2b, m2r, mT, asB, mChain, mAnd, mOr, mNot, mAndV, mOrV, mNotV, mIf, mNil, mCons, mTup, mLst, mIsN, mNotN, Sr.isNon, mCal, mCal1, mIsi, mFldB, gFld, mC0, mC1, ap0, ap1, chkO, chkL, putL, mMk, apM, skp, sq, sDrop, sRet, sRetO, sIf, sSet, sSetO, sAsg, sPar, gN, gsN, gsC, gT, gA, sApp, sPutI, sNever, mItems, dItems, mRng, mRng2, gRng, gRng2, sFor, turn, gI, gI0, gLt, gLe, gGt, gGe, gAddI, gAddS, gAddT, gAddL, Sr.gSub, gMul, gMulI, gDiv, gMod, gPow, gNeg, gEq, dEq, eqS, gLen, gInt1, gMax2, gMin2, gAbs, gLtT, dInts, putD, gIsi, dKind, tInt, tOnly, List.map_cons, List.map_nil, List.length_cons, List.length_nil, List.cons_append, List.nil_append, List.getElem?_cons_zero, List.getElem?_cons_succ, List.set_cons_zero, List.set_cons_succ, List.replicate, Option.some_or, Option.none_or, Option.map_some, Option.map_none, Option.bind_some, Option.bind_none]; rfl, by simp, v1⟩
    | false =>
      rw [hE] at hne
      obtain ⟨r, o1, e3, h3, h4, v3⟩ := s_draw o (2 + way) ho (by omega) (by omega)
      have hsum : gAdd (.int 2) (.int way) = some (.int (2 + way)) := rfl
      by_cases hr : 0 < r
      · obtain ⟨c, e2⟩ := ix_last u (by intro z; rw [z] at hE; cases hE) (by omega)
        exact ⟨u ++ [c], o1, _, by simp [l__law_checks_1, hway, hne, hsum, e3, hr, e2, hadd, mkF0, mkF1, fin0, fin1, st0, st1, bnd, Sr.ret, opt, mN, mNB, mB, der, m1, m2, m2b, m2r, mT, asB, mChain, mAnd, mOr, mNot, mAndV, mOrV, mNotV, mIf, mNil, mCons, mTup, mLst, mIsN, mNotN, Sr.isNon, mCal, mCal1, mIsi, mFldB, gFld, mC0, mC1, ap0, ap1, chkO, chkL, putL, mMk, apM, skp, sq, sDrop, sRet, sRetO, sIf, sSet, sSetO, sAsg, sPar, gN, gsN, gsC, gT, gA, sApp, sPutI, sNever, mItems, dItems, mRng, mRng2, gRng, gRng2, sFor, turn, gI, gI0, gLt, gLe, gGt, gGe, gAddI, gAddS, gAddT, gAddL, Sr.gSub, gMul, gMulI, gDiv, gMod, gPow, gNeg, gEq, dEq, eqS, gLen, gInt1, gMax2, gMin2, gAbs, gLtT, dInts, putD, gIsi, dKind, tInt, tOnly, List.map_cons, List.map_nil, List.length_cons, List.length_nil, List.cons_append, List.nil_append, List.getElem?_cons_zero, List.getElem?_cons_succ, List.set_cons_zero, List.set_cons_succ, List.replicate, Option.some_or, Option.none_or, Option.map_some, Option.map_none, Option.bind_some, Option.bind_none]; rfl, by simp, v3⟩
      · obtain ⟨b, o', _, e1, ⟨c, e2⟩, v1⟩ := plain o1 v3
        exact ⟨u ++ [c], o', _, by simp [l__law_checks_1, hway, hne, hsum, e3, hr, e1, e2, hadd, mkF0, mkF1, fin0, fin1, st0, st1, bnd, Sr.ret, opt, mN, mNB, mB, der, m1, m2, m2b, m2r, mT, asB, mChain, mAnd, mOr, mNot, mAndV, mOrV, mNotV, mIf, mNil, mCons, mTup, mLst, mIsN, mNotN, Sr.isNon, mCal, mCal1, mIsi, mFldB, gFld, mC0, mC1, ap0, ap1, chkO, chkL, putL, mMk, apM, skp, sq, sDrop, sRet, sRetO, sIf, sSet, sSetO, sAsg, sPar, gN, gsN, gsC, gT, gA, sApp, sPutI, sNever, mItems, dItems, mRng, mRng2, gRng, gRng2, sFor, turn, gI, gI0, gLt, gLe, gGt, gGe, gAddI, gAddS, gAddT, gAddL, Sr.gSub, gMul, gMulI, gDiv, gMod, gPow, gNeg, gEq, dEq, eqS, gLen, gInt1, gMax2, gMin2, gAbs, gLtT, dInts, putD, gIsi, dKind, tInt, tOnly, List.map_cons, List.map_nil, List.length_cons, List.length_nil, List.cons_append, List.nil_append, List.getElem?_cons_zero, List.getElem?_cons_succ, List.set_cons_zero, List.set_cons_succ, List.replicate, Option.some_or, Option.none_or, Option.map_some, Option.map_none, Option.bind_some, Option.bind_none]; rfl, by simp, v1⟩
  · obtain ⟨b, o', _, e1, ⟨c, e2⟩, v1⟩ := plain o ho
    exact ⟨u ++ [c], o', _, by simp [l__law_checks_1, hway, e1, e2, hadd, mkF0, mkF1, fin0, fin1, st0, st1, bnd, Sr.ret, opt, mN, mNB, mB, der, m1, m2, m2b, m2r, mT, asB, mChain, mAnd, mOr, mNot, mAndV, mOrV, mNotV, mIf, mNil, mCons, mTup, mLst, mIsN, mNotN, Sr.isNon, mCal, mCal1, mIsi, mFldB, gFld, mC0, mC1, ap0, ap1, chkO, chkL, putL, mMk, apM, skp, sq, sDrop, sRet, sRetO, sIf, sSet, sSetO, sAsg, sPar, gN, gsN, gsC, gT, gA, sApp, sPutI, sNever, mItems, dItems, mRng, mRng2, gRng, gRng2, sFor, turn, gI, gI0, gLt, gLe, gGt, gGe, gAddI, gAddS, gAddT, gAddL, Sr.gSub, gMul, gMulI, gDiv, gMod, gPow, gNeg, gEq, dEq, eqS, gLen, gInt1, gMax2, gMin2, gAbs, gLtT, dInts, putD, gIsi, dKind, tInt, tOnly, List.map_cons, List.map_nil, List.length_cons, List.length_nil, List.cons_append, List.nil_append, List.getElem?_cons_zero, List.getElem?_cons_succ, List.set_cons_zero, List.set_cons_succ, List.replicate, Option.some_or, Option.none_or, Option.map_some, Option.map_none, Option.bind_some, Option.bind_none]; rfl, by simp, v1⟩
theorem s_checks (o : D) (ho : PenOk o) (most : Int) (h0 : 0 ≤ most) (h1 : most ≤ 300) : ∃ w o', f__law_checks o [.int most] = .ok (.str (chk w)) o' ∧ (w.length : Int) ≤ most ∧ PenOk o' := by
  obtain ⟨n, o1, e1, g1, g2, v1⟩ := s_draw o (most + 1) ho (by omega) (by omega)
  obtain ⟨way, o2, e2, g3, g4, v2⟩ := s_draw o1 3 v1 (by omega) (by omega)
  have H := forL_map (w := gN 5) (b := l__law_checks_1) D.int (fun (k : Nat) e => ∃ (u : List Bool) (o' : D) (k5 : Sl), e = [.own o', .val (.int most), .val (.int n), .val (.int way), .val (.str (chk u)), k5] ∧ u.length = k ∧ PenOk o') (fun k _ => k + 1) 0 (irng 0 n) [.own o2, .val (.int most), .val (.int n), .val (.int way), .val (.str (chk [])), .no]
    (by
      rintro pre x post hp e ⟨u, o', k5, rfl, hu, vo⟩
      have hl : pre.length ≤ n.toNat := by
        have := congrArg List.length hp
        simp [irng] at this
        omega
      have hf : ∀ (l : List Int) (a : Nat), l.foldl (fun k _ => k + 1) a = a + l.length := by
        intro l
        induction l with
        | nil => intro a; rfl
        | cons y l ih => intro a; rw [List.foldl_cons, ih, List.length_cons]; omega
      rw [hf] at hu ⊢
      obtain ⟨u', o'', k5', h, hlen, v⟩ := t_checks (fun _ => .non) (fun _ => .non) (fun _ => .non) (.val (.int most)) (.val (.int n)) o' vo way ⟨g3, g4⟩ u (by omega) k5 (.int x)
      exact ⟨_, h, u', o'', k5', rfl, by omega, v⟩)
    ⟨[], o2, .no, rfl, rfl, v2⟩
  obtain ⟨e', h, u, o', k5, rfl, hu, vo⟩ := H
  have hf : ∀ (l : List Int) (a : Nat), l.foldl (fun k _ => k + 1) a = a + l.length := by
    intro l
    induction l with
    | nil => intro a; rfl
    | cons y l ih => intro a; rw [List.foldl_cons, ih, List.length_cons]; omega
  rw [hf] at hu
  have hlen : (irng 0 n).length = n.toNat := by simp [irng]
  have hok : okR n = true := by unfold okR; simp; omega
  have em : ("" : Str) = chk [] := by decide
  have hr : gRng [.int n] = some ((irng 0 n).map D.int) := by simp only [gRng, hok, if_true]; rw [rngL_eq]
  refine ⟨u, o', ?_, by omega, vo⟩
  have hsum : gAdd (.int most) (.int 1) = some (.int (most + 1)) := rfl
  simp [f__law_checks, b__law_checks, hsum, e1, e2, em, hr, h, mkF0, mkF1, fin0, fin1, st0, st1, bnd, Sr.ret, opt, mN, mNB, mB, der, m1, m2, m2b, m2r, mT, asB, mChain, mAnd, mOr, mNot, mAndV, mOrV, mNotV, mIf, mNil, mCons, mTup, mLst, mIsN, mNotN, Sr.isNon, mCal, mCal1, mIsi, mFldB, gFld, mC0, mC1, ap0, ap1, chkO, chkL, putL, mMk, apM, skp, sq, sDrop, sRet, sRetO, sIf, sSet, sSetO, sAsg, sPar, gN, gsN, gsC, gT, gA, sApp, sPutI, sNever, mItems, dItems, mRng, mRng2, gRng2, sFor, turn, gI, gI0, gLt, gLe, gGt, gGe, gAddI, gAddS, gAddT, gAddL, Sr.gSub, gMul, gMulI, gDiv, gMod, gPow, gNeg, gEq, gNe, dEq, eqS, gLen, gInt1, gMax2, gMin2, gAbs, gIx, gLtT, dInts, putD, gIsi, dKind, tInt, tOnly, List.map_cons, List.map_nil, List.length_cons, List.length_nil, List.cons_append, List.nil_append, List.getElem?_cons_zero, List.getElem?_cons_succ, List.set_cons_zero, List.set_cons_succ, List.replicate, Option.some_or, Option.none_or, Option.map_some, Option.map_none, Option.bind_some, Option.bind_none]
theorem toN (a : Int) (h : 0 ≤ a) : ∃ n : Nat, a = (n : Nat) := ⟨a.toNat, by omega⟩
theorem s_numN (o : D) (hv : PenOk o) : ∃ a b n k : Nat, ∃ o', f__law_numbers o [.int 5] = .ok (nums (a : Nat) (b : Nat) (n : Nat) (k : Nat)) o' ∧ a ≤ 5 ∧ b ≤ 5 ∧ (1 ≤ n ∧ n ≤ 5) ∧ (1 ≤ k ∧ k ≤ 4) ∧ PenOk o' := by
  obtain ⟨a, b, c, d, o', e, h1, h2, h3, h4, v⟩ := s_numbers o hv
  obtain ⟨a, rfl⟩ := toN a h1.1
  obtain ⟨b, rfl⟩ := toN b h2.1
  obtain ⟨c, rfl⟩ := toN c (by omega)
  obtain ⟨d, rfl⟩ := toN d (by omega)
  exact ⟨a, b, c, d, o', e, by omega, by omega, by omega, by omega, v⟩
theorem bools_of {g : Bool → D} : ∀ ys : List D, (∀ y ∈ ys, ∃ b, y = g b) → ∃ w : List Bool, ys = w.map g
  | [], _ => ⟨[], rfl⟩
  | y :: ys, h => by
    obtain ⟨b, rfl⟩ := h y (by simp)
    obtain ⟨w, rfl⟩ := bools_of ys fun z hz => h z (by simp [hz])
    exact ⟨b :: w, rfl⟩
theorem e_st (S K N L A5 C : Sl) (o o1 : D) (b : Int) (z : Str) (j7 j8 j9 j10 j11 j12 j13 j14 : Sl) (e1 : f__law_draw o [.int 2] = .ok (.int b) o1) (g : gIx (.str "UD") (.int b) = some (.str z)) : e_law_1 [S, K, .own o, N, L, A5, C, j7, j8, j9, j10, j11, j12, j13, j14] = .ok (.str z) [S, K, .own o1, N, L, A5, C, j7, j8, j9, j10, j11, j12, j13, j14] := by
  simp [e_law_1, e1, g, mkF0, mkF1, fin0, fin1, st0, st1, bnd, Sr.ret, opt, mN, mNB, mB, der, m1, m2, m2b, m2r, mT, asB, mChain, mAnd, mOr, mNot, mAndV, mOrV, mNotV, mIf, mNil, mCons, mTup, mLst, mIsN, mNotN, Sr.isNon, mCal, mCal1, mIsi, mFldB, gFld, mC0, mC1, ap0, ap1, chkO, chkL, putL, mMk, apM, skp, sq, sDrop, sRet, sRetO, sIf, sSet, sSetO, sAsg, sPar, gN, gsN, gsC, gT, gA, sApp, sPutI, sNever, mItems, dItems, mRng, mRng2, gRng, gRng2, sFor, turn, gI, gI0, gLt, gLe, gGt, gGe, gAdd, gAddI, gAddS, gAddT, gAddL, Sr.gSub, gMul, gMulI, gDiv, gMod, gPow, gNeg, gEq, gNe, dEq, eqS, gLen, gInt1, gMax2, gMin2, gAbs, gLtT, dInts, putD, gIsi, dKind, tInt, tOnly, List.map_cons, List.map_nil, List.length_cons, List.length_nil, List.cons_append, List.nil_append, List.getElem?_cons_zero, List.getElem?_cons_succ, List.set_cons_zero, List.set_cons_succ, List.replicate, Option.some_or, Option.none_or, Option.map_some, Option.map_none, Option.bind_some, Option.bind_none]
theorem s_drawn (S K N L A5 : Sl) (c : List Bool) (hc : c.length ≤ 1000) (o : D) (ho : PenOk o) (j7 j8 j9 j10 j11 j12 j13 j14 : Sl) : ∃ (w : List Bool) (o' : D) (k13 : Sl), mLc [13] (mItems (mN 6)) (gN 13) t_law_1 e_law_1 [S, K, .own o, N, L, A5, .val (.str (chk c)), j7, j8, j9, j10, j11, j12, j13, j14] = .ok (.lst (w.map fun b => .str (sts [b]))) [S, K, .own o', N, L, A5, .val (.str (chk c)), j7, j8, j9, j10, j11, j12, k13, j14] ∧ w.length = c.length ∧ PenOk o' := by
  have hm : mItems (mN 6) [S, K, .own o, N, L, A5, .val (.str (chk c)), j7, j8, j9, j10, j11, j12, j13, j14] = .ok (c.map fun b => D.str (chk [b])) [S, K, .own o, N, L, A5, .val (.str (chk c)), j7, j8, j9, j10, j11, j12, j13, j14] := by
    rw [← chars_chk]
    simp [mItems, mN, bnd, opt, dItems, charsD]
  obtain ⟨ys, e', h1, h2, h3, o', ho', rfl⟩ := lcL_inv (w := gN 13) (t := t_law_1) (el := e_law_1) (vs := [13]) (fun e => ∃ o, PenOk o ∧ e = [S, K, .own o, N, L, A5, .val (.str (chk c)), j7, j8, j9, j10, j11, j12, .no, j14]) (fun y => ∃ b, y = .str (sts [b])) (c.map fun b => D.str (chk [b])) [] [S, K, .own o, N, L, A5, .val (.str (chk c)), j7, j8, j9, j10, j11, j12, .no, j14] (by simp; omega) (fun d hd e he => by
    obtain ⟨o, ho, rfl⟩ := he
    obtain ⟨r, o1, e1, p1, p1', v1⟩ := s_draw o 2 ho (by omega) (by omega)
    obtain ⟨u, hu⟩ : ∃ u, gIx (.str "UD") (.int r) = some (.str (sts [u])) := by
      have : r = 0 ∨ r = 1 := by omega
      rcases this with rfl | rfl
      · exact ⟨true, by kernel_rfl⟩
      · exact ⟨false, by kernel_rfl⟩
    exact ⟨_, _, _, _, rfl, rfl, e_st S K N L A5 _ o o1 r _ j7 j8 j9 j10 j11 j12 (.val d) j14 e1 hu, ⟨u, rfl⟩, o1, v1, rfl⟩) ⟨o, ho, rfl⟩
  obtain ⟨w, rfl⟩ := bools_of ys h3
  obtain ⟨k13, hk⟩ : ∃ k13, rst [13] [S, K, .own o, N, L, A5, .val (.str (chk c)), j7, j8, j9, j10, j11, j12, j13, j14] [S, K, .own o', N, L, A5, .val (.str (chk c)), j7, j8, j9, j10, j11, j12, .no, j14] = [S, K, .own o', N, L, A5, .val (.str (chk c)), j7, j8, j9, j10, j11, j12, k13, j14] := ⟨_, rfl⟩
  refine ⟨w, o', k13, ?_, by simpa using h2, ho'⟩
  rw [mLc_of (vs := [13]) hm h1, hk]
  rfl
theorem e_al (a0 a1 a2 N L A5 j6 j7 j8 j9 j10 j11 j12 j13 : Sl) (N' d x y : D) (g0 : gIx d (.int 0) = some x) (g1 : gIx d (.int 1) = some y) (h : f__law_allowed .non [N', x, y] = .ok (.bl true) .non) : e_law_2 [a0, a1, a2, .val N', L, A5, j6, j7, j8, j9, j10, j11, j12, j13, .val d] = .ok (.bl true) [a0, a1, a2, .val N', L, A5, j6, j7, j8, j9, j10, j11, j12, j13, .val d] := by
  simp [e_law_2, g0, g1, h, mkF0, mkF1, fin0, fin1, st0, st1, bnd, Sr.ret, opt, mN, mNB, mB, der, m1, m2, m2b, m2r, mT, asB, mChain, mAnd, mOr, mNot, mAndV, mOrV, mNotV, mIf, mNil, mCons, mTup, mLst, mIsN, mNotN, Sr.isNon, mCal, mCal1, mIsi, mFldB, gFld, mC0, mC1, ap0, ap1, chkO, chkL, putL, mMk, apM, skp, sq, sDrop, sRet, sRetO, sIf, sSet, sSetO, sAsg, sPar, gN, gsN, gsC, gT, gA, sApp, sPutI, sNever, mItems, dItems, mRng, mRng2, gRng, gRng2, sFor, turn, gI, gI0, gLt, gLe, gGt, gGe, gAdd, gAddI, gAddS, gAddT, gAddL, Sr.gSub, gMul, gMulI, gDiv, gMod, gPow, gNeg, gEq, gNe, dEq, eqS, gLen, gInt1, gMax2, gMin2, gAbs, gLtT, dInts, putD, gIsi, dKind, tInt, tOnly, List.map_cons, List.map_nil, List.length_cons, List.length_nil, List.cons_append, List.nil_append, List.getElem?_cons_zero, List.getElem?_cons_succ, List.set_cons_zero, List.set_cons_succ, List.replicate, Option.some_or, Option.none_or, Option.map_some, Option.map_none, Option.bind_some, Option.bind_none]
def Al3 (N d : D) : Prop := ∃ x y, gIx d (.int 0) = some x ∧ gIx d (.int 1) = some y ∧ f__law_allowed .non [N, x, y] = .ok (.bl true) .non
theorem s_three (a0 a1 a2 L j6 j7 j8 j9 j10 j11 j12 j13 j14 : Sl) (N d1 d2 d3 : D) (h1 : Al3 N d1) (h2 : Al3 N d2) (h3 : Al3 N d3) : ∃ k14, mLc [14] (mItems (mN 5)) (gN 14) t_law_2 e_law_2 [a0, a1, a2, .val N, L, .val (.lst [d1, d2, d3]), j6, j7, j8, j9, j10, j11, j12, j13, j14] = .ok (.lst [.bl true, .bl true, .bl true]) [a0, a1, a2, .val N, L, .val (.lst [d1, d2, d3]), j6, j7, j8, j9, j10, j11, j12, j13, k14] := by
  have hm : mItems (mN 5) [a0, a1, a2, .val N, L, .val (.lst [d1, d2, d3]), j6, j7, j8, j9, j10, j11, j12, j13, j14] = .ok ([d1, d2, d3].map id) [a0, a1, a2, .val N, L, .val (.lst [d1, d2, d3]), j6, j7, j8, j9, j10, j11, j12, j13, j14] := by
    simp [mItems, mN, bnd, opt, dItems]
  have h := mLc_map (w := gN 14) (t := t_law_2) (el := e_law_2) (vs := [14]) id (fun _ => .bl true) hm (by simp) (fun d hd => by
    have hA : Al3 N d := by
      simp only [List.mem_cons, List.not_mem_nil, or_false] at hd
      rcases hd with rfl | rfl | rfl <;> assumption
    obtain ⟨x, y, g0, g1, g2⟩ := hA
    exact ⟨_, _, _, rfl, rfl, e_al a0 a1 a2 .no L (.val (.lst [d1, d2, d3])) j6 j7 j8 j9 j10 j11 j12 j13 N d x y g0 g1 g2, rfl⟩)
  obtain ⟨k14, hk⟩ : ∃ k14, rst [14] [a0, a1, a2, .val N, L, .val (.lst [d1, d2, d3]), j6, j7, j8, j9, j10, j11, j12, j13, j14] (wipE [14] [a0, a1, a2, .val N, L, .val (.lst [d1, d2, d3]), j6, j7, j8, j9, j10, j11, j12, j13, j14]) = [a0, a1, a2, .val N, L, .val (.lst [d1, d2, d3]), j6, j7, j8, j9, j10, j11, j12, j13, k14] := ⟨_, rfl⟩
  refine ⟨k14, ?_⟩
  rw [h, hk]
  rfl
theorem f_vals (a b n k : Nat) (a0 a1 a2 a5 a6 a7 a8 a12 a13 a14 : Sl) (ds : List D) (hd : ∀ d ∈ ds, Va d ∨ Vb d) (j9 j10 j11 : Sl) : ∃ k9 k10 k11, forL (gN 9) l_law_1 ds [a0, a1, a2, .val (nums (a : Nat) (b : Nat) (n : Nat) (k : Nat)), .val (lim (a : Nat) (b : Nat) (n : Nat) (k : Nat)), a5, a6, a7, a8, j9, j10, j11, a12, a13, a14] = .ok .nx [a0, a1, a2, .val (nums (a : Nat) (b : Nat) (n : Nat) (k : Nat)), .val (lim (a : Nat) (b : Nat) (n : Nat) (k : Nat)), a5, a6, a7, a8, k9, k10, k11, a12, a13, a14] := by
  obtain ⟨e', h, k9, k10, k11, rfl⟩ := forL_inv (w := gN 9) (b := l_law_1) (fun e => ∃ k9 k10 k11, e = [a0, a1, a2, .val (nums (a : Nat) (b : Nat) (n : Nat) (k : Nat)), .val (lim (a : Nat) (b : Nat) (n : Nat) (k : Nat)), a5, a6, a7, a8, k9, k10, k11, a12, a13, a14]) (ds := ds) (e := [a0, a1, a2, .val (nums (a : Nat) (b : Nat) (n : Nat) (k : Nat)), .val (lim (a : Nat) (b : Nat) (n : Nat) (k : Nat)), a5, a6, a7, a8, j9, j10, j11, a12, a13, a14]) (fun d hx e he => by
    obtain ⟨k9, k10, k11, rfl⟩ := he
    obtain ⟨P, hP⟩ := due_ab a b n k d (hd d hx)
    obtain ⟨q, ht⟩ := t_val a b n k d P hP a0 a1 a2 a5 a6 a7 a8 a12 a13 a14 k9 k10 k11
    exact ⟨_, ht, _, _, _, rfl⟩) ⟨_, _, _, rfl⟩
  exact ⟨k9, k10, k11, h⟩
theorem f_bads (a0 a1 a2 a3 a4 a6 a7 a8 a9 a10 a11 a13 a14 : Sl) (v x : D) (g : gIx v (.int 0) = some x) (ds : List D) (hd : ∀ d ∈ ds, isC_Limits d = some false) (j12 : Sl) : ∃ k12, forL (gN 12) l_law_2 ds [a0, a1, a2, a3, a4, .val v, a6, a7, a8, a9, a10, a11, j12, a13, a14] = .ok .nx [a0, a1, a2, a3, a4, .val v, a6, a7, a8, a9, a10, a11, k12, a13, a14] := by
  obtain ⟨e', h, k12, rfl⟩ := forL_inv (w := gN 12) (b := l_law_2) (fun e => ∃ k12, e = [a0, a1, a2, a3, a4, .val v, a6, a7, a8, a9, a10, a11, k12, a13, a14]) (ds := ds) (e := [a0, a1, a2, a3, a4, .val v, a6, a7, a8, a9, a10, a11, j12, a13, a14]) (fun d hx e he => by
    obtain ⟨k12, rfl⟩ := he
    exact ⟨_, t_bad d x v a0 a1 a2 a3 a4 a6 a7 a8 a9 a10 a11 a13 a14 k12 (hd d hx) g, _, rfl⟩) ⟨_, rfl⟩
  exact ⟨k12, h⟩
theorem b_l3 (ns : List Int) (m c r1 r2 : Int) (N L H1 H3 dO B0 d0 : D) (C W S5 C5 Z1 Z2 : Str) (D1 D2 Ws : List D) (o o1 o2 o3 o4 o5 o6 o7 o8 o9 oA oB : D) (j1 j2 j3 j4 j5 j6 j7 j8 j9 j10 j11 j12 j13 j14 k9 k10 k11 k12 k13 k14 : Sl) (e1 : f__law_cell_at .non [.scr ns, .int m] = .ok (.int c) .non) (e2 : f__law_pen .non [.int c] = .ok o .non) (en : f__law_numbers o [.int 5] = .ok N o1) (el : f__law_limits .non [N] = .ok L .non)
    (d1 : f__law_draw o1 [.int 13] = .ok (.int r1) o2) (h1 : f__law_history o2 [N, .int r1] = .ok H1 o3) (d2 : f__law_draw o3 [.int 61] = .ok (.int r2) o4) (h3 : f__law_history o4 [N, .int r2] = .ok H3 o5) (ec : f__law_checks o5 [.int 9] = .ok (.str C) o6)
    (Y1 Y2 : M D) (hY1 : mLc [13] (mItems (mN 6)) (gN 13) t_law_1 e_law_1 = Y1) (hY2 : mLc [14] (mItems (mN 5)) (gN 14) t_law_2 e_law_2 = Y2) (X1 X2 : List D → M Fl) (hX1 : forL (gN 9) l_law_1 = X1) (hX2 : forL (gN 12) l_law_2 = X2)
    (y1 : Y1 [.val (.scr ns), .val (.int m), .own o6, .val N, .val L, .own (.lst [H1, .tup [.str "", .str ""], H3]), .val (.str C), j7, j8, j9, j10, j11, j12, j13, j14] = .ok (.lst Ws) [.val (.scr ns), .val (.int m), .own o7, .val N, .val L, .own (.lst [H1, .tup [.str "", .str ""], H3]), .val (.str C), j7, j8, j9, j10, j11, j12, k13, j14]) (hj : gJoin "" [.lst Ws] = some (.str W))
    (eo : f__law_odd o7 [] = .ok dO o8) (g0 : gIx H3 (.int 0) = some (.str Z1)) (g1 : gIx H3 (.int 1) = some (.str Z2)) (u1 : gMulA (.str Z1) (.int 5) = some (.str S5)) (u2 : gMulA (.str Z2) (.int 5) = some (.str C5)) (n1 : f__law_near o8 [H1] = .ok (.lst D1) o9) (n2 : f__law_near o9 [H3] = .ok (.lst D2) oA)
    (a1 : D1.length ≤ 100) (a2 : D2.length ≤ 100)
    (x1 : X1 ([H1, .tup [.str "", .str ""], H3, dO, .tup [.str W, .str C], .tup [.str S5, .str C5]] ++ D1 ++ D2) [.val (.scr ns), .val (.int m), .own oA, .val N, .val L, .val (.lst [H1, .tup [.str "", .str ""], H3]), .val (.str C), .val (.str W), .val (.lst [H1, .tup [.str "", .str ""], H3, dO, .tup [.str W, .str C], .tup [.str S5, .str C5]]), j9, j10, j11, j12, k13, j14] = .ok .nx [.val (.scr ns), .val (.int m), .own oA, .val N, .val L, .val (.lst [H1, .tup [.str "", .str ""], H3]), .val (.str C), .val (.str W), .val (.lst [H1, .tup [.str "", .str ""], H3, dO, .tup [.str W, .str C], .tup [.str S5, .str C5]]), k9, k10, k11, j12, k13, j14])
    (y2 : Y2 [.val (.scr ns), .val (.int m), .own oA, .val N, .val L, .val (.lst [H1, .tup [.str "", .str ""], H3]), .val (.str C), .val (.str W), .val (.lst [H1, .tup [.str "", .str ""], H3, dO, .tup [.str W, .str C], .tup [.str S5, .str C5]]), k9, k10, k11, j12, k13, j14] = .ok (.lst [.bl true, .bl true, .bl true]) [.val (.scr ns), .val (.int m), .own oA, .val N, .val L, .val (.lst [H1, .tup [.str "", .str ""], H3]), .val (.str C), .val (.str W), .val (.lst [H1, .tup [.str "", .str ""], H3, dO, .tup [.str W, .str C], .tup [.str S5, .str C5]]), k9, k10, k11, j12, k13, k14])
    (eb : f__law_odd oA [] = .ok B0 oB)
    (x2 : X2 [B0, .non, N] [.val (.scr ns), .val (.int m), .own oB, .val N, .val L, .val (.lst [H1, .tup [.str "", .str ""], H3]), .val (.str C), .val (.str W), .val (.lst [H1, .tup [.str "", .str ""], H3, dO, .tup [.str W, .str C], .tup [.str S5, .str C5]]), k9, k10, k11, j12, k13, k14] = .ok .nx [.val (.scr ns), .val (.int m), .own oB, .val N, .val L, .val (.lst [H1, .tup [.str "", .str ""], H3]), .val (.str C), .val (.str W), .val (.lst [H1, .tup [.str "", .str ""], H3, dO, .tup [.str W, .str C], .tup [.str S5, .str C5]]), k9, k10, k11, k12, k13, k14]) :
    turn (gN 1) l_law_3 (.int m) [.val (.scr ns), j1, j2, j3, j4, j5, j6, j7, j8, j9, j10, j11, j12, j13, j14] = .ok .nx [.val (.scr ns), .val (.int m), .own oB, .val N, .val L, .val (.lst [H1, .tup [.str "", .str ""], H3]), .val (.str C), .val (.str W), .val (.lst [H1, .tup [.str "", .str ""], H3, dO, .tup [.str W, .str C], .tup [.str S5, .str C5]]), k9, k10, k11, k12, k13, k14] := by
  have t3 : gMulA (.lst [.bl true]) (.int 3) = some (.lst [.bl true, .bl true, .bl true]) := by kernel_rfl
  have q : gNe (.lst [.bl true, .bl true, .bl true]) (.lst [.bl true, .bl true, .bl true]) = some (.bl false) := by kernel_rfl
  have ad1 := add_lst [H1, .tup [.str "", .str ""], H3] [dO, .tup [.str W, .str C], .tup [.str S5, .str C5]] (by simp)
  have ad2 := add_lst [H1, .tup [.str "", .str ""], H3, dO, .tup [.str W, .str C], .tup [.str S5, .str C5]] D1 (by simp; omega)
  have ad3 := add_lst ([H1, .tup [.str "", .str ""], H3, dO, .tup [.str W, .str C], .tup [.str S5, .str C5]] ++ D1) D2 (by simp; omega)
  simp only [List.cons_append, List.nil_append] at ad1 ad2 ad3 x1
  have i2 : gIx (.lst [H1, .tup [.str "", .str ""], H3]) (.int 2) = some H3 := rfl
  have i0 : gIx (.lst [H1, .tup [.str "", .str ""], H3]) (.int 0) = some H1 := rfl
  simp only [l_law_3, sFor, hX1, hX2, hY1, hY2]
  simp [mMt, asS, sizeLine, e1, e2, en, el, d1, h1, d2, h3, ec, y1, hj, eo, g0, g1, u1, u2, n1, n2, x1, y2, eb, x2, t3, q, ad1, ad2, ad3, i2, i0, mkF0, mkF1, fin0, fin1, st0, st1, bnd, Sr.ret, opt, mN, mNB, mB, der, m1, m2, m2b, m2r, mT, asB, mChain, mAnd, mOr, mNot, mAndV, mOrV, mNotV, mIf, mNil, mCons, mTup, mLst, mIsN, mNotN, Sr.isNon, mCal, mCal1, mIsi, mFldB, gFld, mC0, mC1, ap0, ap1, chkO, chkL, putL, mMk, apM, skp, sq, sDrop, sRet, sRetO, sIf, sSet, sSetO, sAsg, sPar, gN, gsN, gsC, gT, gA, sApp, sPutI, sNever, mItems, dItems, mRng, mRng2, gRng, gRng2, turn, gI, gI0, gLt, gLe, gGt, gGe, gAddI, gAddS, gAddT, gAddL, Sr.gSub, gMul, gMulI, gDiv, gMod, gPow, gNeg, dEq, eqS, gLen, gInt1, gMax2, gMin2, gAbs, gLtT, dInts, putD, gIsi, dKind, tInt, tOnly, List.map_cons, List.map_nil, List.length_cons, List.length_nil, List.cons_append, List.nil_append, List.getElem?_cons_zero, List.getElem?_cons_succ, List.set_cons_zero, List.set_cons_succ, List.replicate, Option.some_or, Option.none_or, Option.map_some, Option.map_none, Option.bind_some, Option.bind_none]
def InB (ns : List Int) (e : En) : Prop := ∃ j1 j2 j3 j4 j5 j6 j7 j8 j9 j10 j11 j12 j13 j14, e = [.val (.scr ns), j1, j2, j3, j4, j5, j6, j7, j8, j9, j10, j11, j12, j13, j14]
theorem s_outer (ns : List Int) (m : Int) (hk : 0 ≤ m) (e : En) (h : InB ns e) : ∃ e', turn (gN 1) l_law_3 (.int m) e = .ok .nx e' ∧ InB ns e' := by
  obtain ⟨j1, j2, j3, j4, j5, j6, j7, j8, j9, j10, j11, j12, j13, j14, rfl⟩ := h
  obtain ⟨cc, e1⟩ := s_cell ns m hk
  obtain ⟨o, e2, ho⟩ := s_pen cc
  obtain ⟨a, b, n, k, o1, en, ha, hb, hn, hk', v1⟩ := s_numN o ho
  have el := s_limits (a : Nat) (b : Nat) (n : Nat) (k : Nat) (by omega) (by omega) (by omega) (by omega)
  obtain ⟨r1, o2, d1, p1, p1', v2⟩ := s_draw o1 13 v1 (by omega) (by omega)
  obtain ⟨m1, rfl⟩ := toN r1 p1
  obtain ⟨s, c, o3, h1, l1, l1', al1, v3⟩ := s_history a b n k m1 hn.1 (by omega) o2 v2
  obtain ⟨r2, o4, d2, p2, p2', v4⟩ := s_draw o3 61 v3 (by omega) (by omega)
  obtain ⟨m2, rfl⟩ := toN r2 p2
  obtain ⟨s', c', o5, h3, l2, l2', al2, v5⟩ := s_history a b n k m2 hn.1 (by omega) o4 v4
  obtain ⟨w, o6, ec, lw, v6⟩ := s_checks o5 v5 9 (by omega) (by omega)
  obtain ⟨w2, o7, k13, y1, lw2, v7⟩ := s_drawn (.val (.scr ns)) (.val (.int m)) (.val (nums (a : Nat) (b : Nat) (n : Nat) (k : Nat))) (.val (lim (a : Nat) (b : Nat) (n : Nat) (k : Nat))) (.own (.lst [.tup [.str (sts s), .str (chk c)], .tup [.str "", .str ""], .tup [.str (sts s'), .str (chk c')]])) w (by omega) o6 v6 j7 j8 j9 j10 j11 j12 j13 j14
  obtain ⟨dO, o8, eo, mO, v8⟩ := s_odd o7 v7
  obtain ⟨S5, u1, t1⟩ := tx_mul (tx_le (tx_sts s') (by omega : s'.length ≤ 60)) (by omega) 5 (by omega)
  obtain ⟨C5, u2, t2⟩ := tx_mul (tx_le (tx_chk c') (by omega : c'.length ≤ 60)) (by omega) 5 (by omega)
  obtain ⟨D1, o9, n1, q1, z1, v9⟩ := s_near s c (by omega) (by omega) o8 v8
  obtain ⟨D2, oA, n2, q2, z2, vA⟩ := s_near s' c' (by omega) (by omega) o9 v9
  have hvals : ∀ d ∈ ([.tup [.str (sts s), .str (chk c)], .tup [.str "", .str ""], .tup [.str (sts s'), .str (chk c')], dO, .tup [.str (sts w2), .str (chk w)], .tup [.str S5, .str C5]] ++ D1 ++ D2 : List D), Va d ∨ Vb d := by
    intro d hd
    rw [List.mem_append, List.mem_append] at hd
    rcases hd with (hd | hd) | hd
    · simp only [List.mem_cons, List.not_mem_nil, or_false] at hd
      rcases hd with rfl | rfl | rfl | rfl | rfl | rfl
      · exact .inl (va_two (tx_sts s) (tx_chk c) (by omega) (by omega))
      · exact .inl (va_two (tx_lit "" 0 (by decide +kernel)) (tx_lit "" 0 (by decide +kernel)) (by omega) (by omega))
      · exact .inl (va_two (tx_sts s') (tx_chk c') (by omega) (by omega))
      · exact odd_ab _ mO
      · exact .inl (va_two (tx_sts w2) (tx_chk w) (by omega) (by omega))
      · exact .inl (va_two t1 t2 (by omega) (by omega))
    · exact q1 d hd
    · exact q2 d hd
  obtain ⟨k9, k10, k11, x1⟩ := f_vals a b n k (.val (.scr ns)) (.val (.int m)) (.own oA) (.val (.lst [.tup [.str (sts s), .str (chk c)], .tup [.str "", .str ""], .tup [.str (sts s'), .str (chk c')]])) (.val (.str (chk w))) (.val (.str (sts w2))) (.val (.lst [.tup [.str (sts s), .str (chk c)], .tup [.str "", .str ""], .tup [.str (sts s'), .str (chk c')], dO, .tup [.str (sts w2), .str (chk w)], .tup [.str S5, .str C5]])) j12 k13 j14 _ hvals j9 j10 j11
  have e0 : sts [] = ("" : Str) := by decide
  have e0' : chk [] = ("" : Str) := by decide
  have w1 : Al3 (nums (a : Nat) (b : Nat) (n : Nat) (k : Nat)) (.tup [.str (sts s), .str (chk c)]) := ⟨_, _, rfl, rfl, by rw [s_allowed a b n k s c (by omega) (by omega), al1]⟩
  have w3 : Al3 (nums (a : Nat) (b : Nat) (n : Nat) (k : Nat)) (.tup [.str (sts s'), .str (chk c')]) := ⟨_, _, rfl, rfl, by rw [s_allowed a b n k s' c' (by omega) (by omega), al2]⟩
  have w2' : Al3 (nums (a : Nat) (b : Nat) (n : Nat) (k : Nat)) (.tup [.str "", .str ""]) := ⟨_, _, rfl, rfl, by
    have := s_allowed a b n k [] [] rfl (by simp)
    rw [e0, e0'] at this
    rw [this]
    rfl⟩
  obtain ⟨k14, y2⟩ := s_three (.val (.scr ns)) (.val (.int m)) (.own oA) (.val (lim (a : Nat) (b : Nat) (n : Nat) (k : Nat))) (.val (.str (chk w))) (.val (.str (sts w2))) (.val (.lst [.tup [.str (sts s), .str (chk c)], .tup [.str "", .str ""], .tup [.str (sts s'), .str (chk c')], dO, .tup [.str (sts w2), .str (chk w)], .tup [.str S5, .str C5]])) k9 k10 k11 j12 k13 j14 _ _ _ _ w1 w2' w3
  obtain ⟨B0, oB, eb, mB, vB⟩ := s_odd oA vA
  obtain ⟨k12, x2⟩ := f_bads (.val (.scr ns)) (.val (.int m)) (.own oB) (.val (nums (a : Nat) (b : Nat) (n : Nat) (k : Nat))) (.val (lim (a : Nat) (b : Nat) (n : Nat) (k : Nat))) (.val (.str (chk w))) (.val (.str (sts w2))) (.val (.lst [.tup [.str (sts s), .str (chk c)], .tup [.str "", .str ""], .tup [.str (sts s'), .str (chk c')], dO, .tup [.str (sts w2), .str (chk w)], .tup [.str S5, .str C5]])) k9 k10 k11 k13 k14 (.lst [.tup [.str (sts s), .str (chk c)], .tup [.str "", .str ""], .tup [.str (sts s'), .str (chk c')]]) _ rfl [B0, .non, nums (a : Nat) (b : Nat) (n : Nat) (k : Nat)] (fun d hd => by
    simp only [List.mem_cons, List.not_mem_nil, or_false] at hd
    rcases hd with rfl | rfl | rfl
    · exact odd_lim _ mB
    · rfl
    · rfl) j12
  exact ⟨_, b_l3 ns m cc (m1 : Nat) (m2 : Nat) _ _ _ _ dO B0 .non _ _ _ _ _ _ _ _ _ o o1 o2 o3 o4 o5 o6 o7 o8 o9 oA oB j1 j2 j3 j4 j5 j6 j7 j8 j9 j10 j11 j12 j13 j14 k9 k10 k11 k12 k13 k14 e1 e2 en el d1 h1 d2 h3 ec _ _ rfl rfl _ _ rfl rfl y1 (gjoin_sts w2 (by omega)) eo rfl rfl u1 u2 n1 n2 (by omega) (by omega) x1 y2 eb x2, _, _, _, _, _, _, _, _, _, _, _, _, _, _, rfl⟩
theorem law_holds (ns : List Int) (hl : ns.length ≤ 63) : f_law .non [.scr ns] = .ok (.bl true) .non := by
  have hm : ∃ m : Int, m = (if (1 : Int) < (if 3 < (ns.length : Int) then 3 else (ns.length : Int)) then (if 3 < (ns.length : Int) then 3 else (ns.length : Int)) else 1) ∧ m ≤ 3 ∧ 0 ≤ m := ⟨_, rfl, by split <;> (try split) <;> omega, by split <;> (try split) <;> omega⟩
  obtain ⟨m, hm, hm1, hm2⟩ := hm
  have h0 : okR m = true := by unfold okR; simp; omega
  obtain ⟨e', h1, k1, k2, k3, k4, k5, k6, k7, k8, k9, k10, k11, k12, k13, k14, rfl⟩ := forL_inv (w := gN 1) (b := l_law_3) (InB ns) (ds := rngL 0 m) (e := [.val (.scr ns), .no, .no, .no, .no, .no, .no, .no, .no, .no, .no, .no, .no, .no, .no]) (fun d hd e h => by
    rw [rngL_eq, List.mem_map] at hd
    obtain ⟨k, hk, rfl⟩ := hd
    exact s_outer ns k (irng_mem hk).1 e h) ⟨_, _, _, _, _, _, _, _, _, _, _, _, _, _, rfl⟩
  simp [f_law, b_law, ← hm, h0, h1, mkF0, mkF1, fin0, fin1, st0, st1, bnd, Sr.ret, opt, mN, mNB, mB, der, m1, m2, m2b, m2r, mT, asB, mChain, mAnd, mOr, mNot, mAndV, mOrV, mNotV, mIf, mNil, mCons, mTup, mLst, mIsN, mNotN, Sr.isNon, mCal, mCal1, mIsi, mFldB, gFld, mC0, mC1, ap0, ap1, chkO, chkL, putL, mMk, apM, skp, sq, sDrop, sRet, sRetO, sIf, sSet, sSetO, sAsg, sPar, gN, gsN, gsC, gT, gA, sApp, sPutI, sNever, mItems, dItems, mRng, mRng2, gRng, gRng2, sFor, turn, gI, gI0, gLt, gLe, gGt, gGe, gAdd, gAddI, gAddS, gAddT, gAddL, Sr.gSub, gMul, gMulI, gDiv, gMod, gPow, gNeg, gEq, gNe, dEq, eqS, gLen, gInt1, gMax2, gMin2, gAbs, gIx, gLtT, dInts, putD, gIsi, dKind, tInt, tOnly, List.map_cons, List.map_nil, List.length_cons, List.length_nil, List.cons_append, List.nil_append, List.getElem?_cons_zero, List.getElem?_cons_succ, List.set_cons_zero, List.set_cons_succ, List.replicate, Option.some_or, Option.none_or, Option.map_some, Option.map_none, Option.bind_some, Option.bind_none]
end Lw
namespace Lw
open PySem hiding start
open PySem.Spec L2 Sr
open PyProof.Rows hiding St
structure Tx (K : PySem.W.Frag) (mg : Str → Option Value) : Prop where
  f_max : mg "max" = none
  f_int : mg "int" = none
  f_len : mg "len" = none
  f_min : mg "min" = none
  f_isinstance : mg "isinstance" = none
  f_bool : mg "bool" = none
  c_MOST_FALSE : ∃ t, mg "MOST_FALSE" = some (.int 5 t)
  c_MOST_SPAN : ∃ t, mg "MOST_SPAN" = some (.int 5 t)
  c_MOST_SETTLED : ∃ t, mg "MOST_SETTLED" = some (.int 4 t)
  f_range : mg "range" = none
  f_list : mg "list" = none
  f_tuple : mg "tuple" = none
  f_str : mg "str" = none
  f_repr : mg "repr" = none
  f_all : mg "all" = none
  c_UP : ∃ t, mg "UP" = some (.str "U" t)
  c_DOWN : ∃ t, mg "DOWN" = some (.str "D" t)
  c_PASS : ∃ t, mg "PASS" = some (.str "+" t)
  c_FAIL : ∃ t, mg "FAIL" = some (.str "-" t)
  f_zip : mg "zip" = none
  c_NO_ERROR : ∃ t, mg "NO_ERROR" = some (.str "." t)
  c_FALSE_PASS : ∃ t, mg "FALSE_PASS" = some (.str "p" t)
  c_FALSE_FAIL : ∃ t, mg "FALSE_FAIL" = some (.str "f" t)
  f_ValueError : mg "ValueError" = none
  k_Limits : mg "Limits" = some (.ref (He.ga K "Limits"))
  cl_Limits : Cls K (He.ga K "Limits")
  k_NumberError : mg "NumberError" = some (.ref (He.ga K "NumberError"))
  k_LimitsError : mg "LimitsError" = some (.ref (He.ga K "LimitsError"))
  n_Limits_most_passes : NoAttr K (He.ga K "Limits") "most_passes"
  n_Limits_most_fails : NoAttr K (He.ga K "Limits") "most_fails"
  n_Limits_most_checks : NoAttr K (He.ga K "Limits") "most_checks"
  n_Limits_least_stay : NoAttr K (He.ga K "Limits") "least_stay"
  i_int : IsiK K mg (.type "int") isB_int
  i_bool : IsiK K mg (.type "bool") isB_bool
  i_tuple : IsiK K mg (.type "tuple") isB_tuple
  i_str : IsiK K mg (.type "str") isB_str
  i_Limits : IsiK K mg (.ref (He.ga K "Limits")) isC_Limits
  x_NumberError : Rai K mg "NumberError"
  x_LimitsError : Rai K mg "LimitsError"
  ct_LimitsError : Cat K mg (.ref (He.ga K "LimitsError")) Lw.ct_LimitsError
  e_ValueError : IsE K mg (.type "ValueError") isE_ValueError
  e_NumberError : IsE K mg (.ref (He.ga K "NumberError")) isE_NumberError
def gV_Limits_3_settled : List V → List V → List V := fun vs zs => vs ++ zs
theorem rel_Limits_3_settled {K : PySem.W.Frag} {mg : Str → Option Value} (ds es : List D) (vs zs : List V) (F : Hp) (x : Addr) (h1 : RpL K mg F ds vs) (h2 : RpL K mg F es zs) (l1 : ds.length = 3) (l2 : es.length = 1) : ∃ ws, gV_Limits_3_settled (.ref x :: vs) zs = .ref x :: ws ∧ RpL K mg F ((fun ds es => ds ++ es) ds es) ws ∧ ((fun ds es => ds ++ es) ds es).length + 1 = 5 :=
  ⟨vs ++ zs, rfl, h1.append h2, by simp only [List.length_append, l1, l2]⟩
section
variable {P : Program} {w : World} {K : PySem.W.Frag} {mg : Str → Option Value} {base : Heap}
abbrev N__law_pen : List Str := ["_law_cell"]
theorem sc__law_pen : FnScope N__law_pen ["_law_cell"] (defScope st__law_pen) := ⟨rfl, rfl, rfl, by decide +kernel, rfl, by decide +kernel, by decide +kernel⟩
theorem d__law_pen (Z : Tx K mg)  {f : Addr} {cdv : Value} {A : Around} {outer : List Env} {s0 : Shared} {H : Hp} {E : XK} (hr : Room 0 (A.deeper (envOfC "_law_pen" (defScope st__law_pen) s0.heap.objs.size f cdv))) (hgu : A.guards = some []) : JSs (cxOf (L2.CX P w) P w K mg base N__law_pen "_law_pen" (defScope st__law_pen) f cdv A outer s0 H E) [] (WE0 E) (defBody st__law_pen) b__law_pen := by
  have hp : Pl (cxOf (L2.CX P w) P w K mg base N__law_pen "_law_pen" (defScope st__law_pen) f cdv A outer s0 H E) 0 := ⟨hr, hgu⟩
  exact (js_one (js_retO (jo_lst (jl_cons (jv_callB (c_max (by rfl)) (by rfl) Z.f_max bt_max (jl_cons jv_int (jl_cons (jv_bin o_sub (jv_name 0 rfl (Or.inl rfl)) (jv_bin o_pow jv_int jv_int)) jl_nil)).ja) (jl_cons (jv_bin o_add (jv_bin o_mod (jv_callTy c_int (by rfl) Z.f_int bt_int (jl_cons (jv_name 0 rfl (Or.inl rfl)) jl_nil).ja) jv_int) jv_int) (jl_cons jv_int jl_nil))).ja)))
theorem ok__law_pen (Z : Tx K mg)  {f : Addr} {fd : FuncData} {kws : List (Str × V)} (G : FunD K "_law_pen" "_law_pen" (defArgs st__law_pen) (defBody st__law_pen) (defScope st__law_pen) [] kws f fd) : FnG P w K mg base 1 f fd ["_law_cell"] (spF0 K mg true 1 f__law_pen) :=
  fn0 (P := P) (w := w) (mg := mg) (base := base) (ro := true) (s := b__law_pen) (N := N__law_pen) (ps := ["_law_cell"]) rfl rfl G sc__law_pen fun cdv A outer s0 H E hr hgu => d__law_pen Z  hr hgu
abbrev N__law_cell_at : List Str := ["_law_script", "_law_k"]
theorem sc__law_cell_at : FnScope N__law_cell_at ["_law_script", "_law_k"] (defScope st__law_cell_at) := ⟨rfl, rfl, rfl, by decide +kernel, rfl, by decide +kernel, by decide +kernel⟩
theorem d__law_cell_at (Z : Tx K mg)  {f : Addr} {cdv : Value} {A : Around} {outer : List Env} {s0 : Shared} {H : Hp} {E : XK} (hr : Room 0 (A.deeper (envOfC "_law_cell_at" (defScope st__law_cell_at) s0.heap.objs.size f cdv))) (hgu : A.guards = some []) : JSs (cxOf (L2.CX P w) P w K mg base N__law_cell_at "_law_cell_at" (defScope st__law_cell_at) f cdv A outer s0 H E) [] (WE0 E) (defBody st__law_cell_at) b__law_cell_at := by
  have hp : Pl (cxOf (L2.CX P w) P w K mg base N__law_cell_at "_law_cell_at" (defScope st__law_cell_at) f cdv A outer s0 H E) 0 := ⟨hr, hgu⟩
  exact (js_cons (js_if (jt_cmp (p_lt hp) (jv_name 1 rfl (Or.inl rfl)) (jv_callV1 c_len (by rfl) Z.f_len bt_len (jv_name 0 rfl (Or.inl rfl)))) (js_one (js_ret (jv_ix (jv_name 0 rfl (Or.inl rfl)) (jv_name 1 rfl (Or.inl rfl))))) js_nil)
    (js_one (js_ret jv_int)))
theorem ok__law_cell_at (Z : Tx K mg)  {f : Addr} {fd : FuncData} {kws : List (Str × V)} (G : FunD K "_law_cell_at" "_law_cell_at" (defArgs st__law_cell_at) (defBody st__law_cell_at) (defScope st__law_cell_at) [] kws f fd) : FnG P w K mg base 1 f fd ["_law_script", "_law_k"] (spF0 K mg false 2 f__law_cell_at) :=
  fn0 (P := P) (w := w) (mg := mg) (base := base) (ro := false) (s := b__law_cell_at) (N := N__law_cell_at) (ps := ["_law_script", "_law_k"]) rfl rfl G sc__law_cell_at fun cdv A outer s0 H E hr hgu => d__law_cell_at Z  hr hgu
abbrev N__law_draw : List Str := ["_law_pen_here", "_law_many", "_law_found", "_law_mixed"]
theorem sc__law_draw : FnScope N__law_draw ["_law_pen_here", "_law_many"] (defScope st__law_draw) := ⟨rfl, rfl, rfl, by decide +kernel, rfl, by decide +kernel, by decide +kernel⟩
theorem d__law_draw (Z : Tx K mg)  {f : Addr} {cdv : Value} {A : Around} {outer : List Env} {s0 : Shared} {H : Hp} {E : XK} {p : Addr} (hr : Room 0 (A.deeper (envOfC "_law_draw" (defScope st__law_draw) s0.heap.objs.size f cdv))) (hgu : A.guards = some []) : JSs (cxOf (L2.CX P w) P w K mg base N__law_draw "_law_draw" (defScope st__law_draw) f cdv A outer s0 H E) [(0, p)] (WE0 E) (defBody st__law_draw) b__law_draw := by
  have hp : Pl (cxOf (L2.CX P w) P w K mg base N__law_draw "_law_draw" (defScope st__law_draw) f cdv A outer s0 H E) 0 := ⟨hr, hgu⟩
  exact (js_cons (js_if (jt_cmp p_gt (jv_ixB (jb_name 0 rfl (Or.inl rfl)) jv_int) jv_int) (js_cons (js_set (noP_cons (by decide) noP_nil) sc__law_draw.nd rfl (Or.inl rfl) (jv_bin o_mod (jv_callTy c_int (by rfl) Z.f_int bt_int (jl_cons (jv_ixB (jb_name 0 rfl (Or.inl rfl)) jv_int) jl_nil).ja) (jv_name 1 rfl (Or.inl rfl))))
    (js_cons (js_putI rfl (Or.inl rfl) (jv_bin o_div (jv_ixB (jb_name 0 rfl (Or.inl rfl)) jv_int) (jv_name 1 rfl (Or.inl rfl))) jv_int)
    (js_one (js_ret (jv_name 2 rfl (Or.inl rfl)))))) js_nil)
    (js_cons (js_putI rfl (Or.inl rfl) (jv_bin o_add (jv_ixB (jb_name 0 rfl (Or.inl rfl)) jv_int) jv_int) jv_int)
    (js_cons (js_putI rfl (Or.inl rfl) (jv_bin o_mod (jv_callTy c_int (by rfl) Z.f_int bt_int (jl_cons (jv_bin o_add (jv_bin o_add (jv_bin o_mul (jv_ixB (jb_name 0 rfl (Or.inl rfl)) jv_int) jv_int) (jv_bin o_mul jv_int (jv_ixB (jb_name 0 rfl (Or.inl rfl)) jv_int))) jv_int) jl_nil).ja) jv_int) jv_int)
    (js_cons (js_set (noP_cons (by decide) noP_nil) sc__law_draw.nd rfl (Or.inl rfl) (jv_bin o_mod (jv_callTy c_int (by rfl) Z.f_int bt_int (jl_cons (jv_bin o_add (jv_bin o_add (jv_bin o_mul (jv_ixB (jb_name 0 rfl (Or.inl rfl)) jv_int) (jv_ixB (jb_name 0 rfl (Or.inl rfl)) jv_int)) (jv_bin o_mul jv_int (jv_ixB (jb_name 0 rfl (Or.inl rfl)) jv_int))) jv_int) jl_nil).ja) jv_int))
    (js_cons (js_set (noP_cons (by decide) noP_nil) sc__law_draw.nd rfl (Or.inl rfl) (jv_bin o_mod (jv_callTy c_int (by rfl) Z.f_int bt_int (jl_cons (jv_bin o_add (jv_bin o_mul (jv_name 3 rfl (Or.inl rfl)) (jv_name 3 rfl (Or.inl rfl))) (jv_bin o_mul jv_int (jv_name 3 rfl (Or.inl rfl)))) jl_nil).ja) jv_int))
    (js_one (js_ret (jv_bin o_mod (jv_callTy c_int (by rfl) Z.f_int bt_int (jl_cons (jv_bin o_div (jv_name 3 rfl (Or.inl rfl)) jv_int) jl_nil).ja) (jv_name 1 rfl (Or.inl rfl))))))))))
theorem ok__law_draw (Z : Tx K mg)  {f : Addr} {fd : FuncData} {kws : List (Str × V)} (G : FunD K "_law_draw" "_law_draw" (defArgs st__law_draw) (defBody st__law_draw) (defScope st__law_draw) [] kws f fd) : FnG P w K mg base 1 f fd ["_law_pen_here", "_law_many"] (spF1 K mg false 2 f__law_draw) :=
  fn1 (P := P) (w := w) (mg := mg) (base := base) (ro := false) (s := b__law_draw) (N := N__law_draw) (ps := ["_law_pen_here", "_law_many"]) rfl rfl G sc__law_draw fun cdv A outer s0 H E p hr hgu => d__law_draw Z  hr hgu
abbrev N__law_numbers : List Str := ["_law_pen_here", "_law_most", "_law_span", "_law_wide"]
theorem sc__law_numbers : FnScope N__law_numbers ["_law_pen_here", "_law_most"] (defScope st__law_numbers) := ⟨rfl, rfl, rfl, by decide +kernel, rfl, by decide +kernel, by decide +kernel⟩
theorem d__law_numbers (Z : Tx K mg) (hF__law_draw : FnC P w K mg base 1 "_law_draw" (spF1 K mg false 2 f__law_draw) ["_law_pen_here", "_law_many"] []) {f : Addr} {cdv : Value} {A : Around} {outer : List Env} {s0 : Shared} {H : Hp} {E : XK} {p : Addr} (hr : Room 1 (A.deeper (envOfC "_law_numbers" (defScope st__law_numbers) s0.heap.objs.size f cdv))) (hgu : A.guards = some []) : JSs (cxOf (L2.CX P w) P w K mg base N__law_numbers "_law_numbers" (defScope st__law_numbers) f cdv A outer s0 H E) [(0, p)] (WE0 E) (defBody st__law_numbers) b__law_numbers := by
  have hp : Pl (cxOf (L2.CX P w) P w K mg base N__law_numbers "_law_numbers" (defScope st__law_numbers) f cdv A outer s0 H E) 1 := ⟨hr, hgu⟩
  exact (js_cons (js_set (noP_cons (by decide) noP_nil) sc__law_numbers.nd rfl (Or.inl rfl) (jv_bin o_add jv_int (jv_c1 0 ⟨hF__law_draw⟩ hp (takes_of rfl rfl rfl rfl) nodd (by rfl) (by rfl) (Or.inl rfl) (jl_cons (jv_name 1 rfl (Or.inl rfl)) jl_nil))))
    (js_cons (js_set (noP_cons (by decide) noP_nil) sc__law_numbers.nd rfl (Or.inl rfl) (jv_callB (c_min (by rfl)) (by rfl) Z.f_min bt_min (jl_cons jv_int (jl_cons (jv_bin o_add (jv_name 2 rfl (Or.inl rfl)) jv_int) jl_nil)).ja))
    (js_one (js_ret (jv_tup (jl_cons (jv_c1 0 ⟨hF__law_draw⟩ hp (takes_of rfl rfl rfl rfl) nodd (by rfl) (by rfl) (Or.inl rfl) (jl_cons (jv_name 3 rfl (Or.inl rfl)) jl_nil)) (jl_cons (jv_c1 0 ⟨hF__law_draw⟩ hp (takes_of rfl rfl rfl rfl) nodd (by rfl) (by rfl) (Or.inl rfl) (jl_cons (jv_name 3 rfl (Or.inl rfl)) jl_nil)) (jl_cons (jv_name 2 rfl (Or.inl rfl)) (jl_cons (jv_bin o_add jv_int (jv_c1 0 ⟨hF__law_draw⟩ hp (takes_of rfl rfl rfl rfl) nodd (by rfl) (by rfl) (Or.inl rfl) (jl_cons jv_int jl_nil))) jl_nil)))).ja)))))
theorem ok__law_numbers (Z : Tx K mg) (hF__law_draw : FnC P w K mg base 1 "_law_draw" (spF1 K mg false 2 f__law_draw) ["_law_pen_here", "_law_many"] []) {f : Addr} {fd : FuncData} {kws : List (Str × V)} (G : FunD K "_law_numbers" "_law_numbers" (defArgs st__law_numbers) (defBody st__law_numbers) (defScope st__law_numbers) [] kws f fd) : FnG P w K mg base 2 f fd ["_law_pen_here", "_law_most"] (spF1 K mg false 2 f__law_numbers) :=
  fn1 (P := P) (w := w) (mg := mg) (base := base) (ro := false) (s := b__law_numbers) (N := N__law_numbers) (ps := ["_law_pen_here", "_law_most"]) rfl rfl G sc__law_numbers fun cdv A outer s0 H E p hr hgu => d__law_numbers Z hF__law_draw hr hgu
abbrev N_is_integer : List Str := ["value"]
theorem sc_is_integer : FnScope N_is_integer ["value"] (defScope st_is_integer) := ⟨rfl, rfl, rfl, by decide +kernel, rfl, by decide +kernel, by decide +kernel⟩
theorem d_is_integer (Z : Tx K mg)  {f : Addr} {cdv : Value} {A : Around} {outer : List Env} {s0 : Shared} {H : Hp} {E : XK} (hr : Room 0 (A.deeper (envOfC "is_integer" (defScope st_is_integer) s0.heap.objs.size f cdv))) (hgu : A.guards = some []) : JSs (cxOf (L2.CX P w) P w K mg base N_is_integer "is_integer" (defScope st_is_integer) f cdv A outer s0 H E) [] (WE0 E) (defBody st_is_integer) b_is_integer := by
  have hp : Pl (cxOf (L2.CX P w) P w K mg base N_is_integer "is_integer" (defScope st_is_integer) f cdv A outer s0 H E) 0 := ⟨hr, hgu⟩
  exact (js_one (js_ret (jv_and (jv_isiB Z.i_int (by rfl) Z.f_isinstance (by rfl) Z.f_int bt_int (jv_name 0 rfl (Or.inl rfl))) (jv_one (jv_not (jv_isiB Z.i_bool (by rfl) Z.f_isinstance (by rfl) Z.f_bool bt_bool (jv_name 0 rfl (Or.inl rfl))))))))
theorem ok_is_integer (Z : Tx K mg)  {f : Addr} {fd : FuncData} {kws : List (Str × V)} (G : FunD K "is_integer" "is_integer" (defArgs st_is_integer) (defBody st_is_integer) (defScope st_is_integer) [] kws f fd) : FnG P w K mg base 1 f fd ["value"] (spF0 K mg false 1 f_is_integer) :=
  fn0 (P := P) (w := w) (mg := mg) (base := base) (ro := false) (s := b_is_integer) (N := N_is_integer) (ps := ["value"]) rfl rfl G sc_is_integer fun cdv A outer s0 H E hr hgu => d_is_integer Z  hr hgu
abbrev N_is_between : List Str := ["value", "low", "high"]
theorem sc_is_between : FnScope N_is_between ["value", "low", "high"] (defScope st_is_between) := ⟨rfl, rfl, rfl, by decide +kernel, rfl, by decide +kernel, by decide +kernel⟩
theorem d_is_between (Z : Tx K mg) (hF_is_integer : FnC P w K mg base 1 "is_integer" (spF0 K mg false 1 f_is_integer) ["value"] []) {f : Addr} {cdv : Value} {A : Around} {outer : List Env} {s0 : Shared} {H : Hp} {E : XK} (hr : Room 1 (A.deeper (envOfC "is_between" (defScope st_is_between) s0.heap.objs.size f cdv))) (hgu : A.guards = some []) : JSs (cxOf (L2.CX P w) P w K mg base N_is_between "is_between" (defScope st_is_between) f cdv A outer s0 H E) [] (WE0 E) (defBody st_is_between) b_is_between := by
  have hp : Pl (cxOf (L2.CX P w) P w K mg base N_is_between "is_between" (defScope st_is_between) f cdv A outer s0 H E) 1 := ⟨hr, hgu⟩
  exact (js_one (js_ret (jv_and (jv_c0 ⟨hF_is_integer⟩ hp (takes_of rfl rfl rfl rfl) nodd (by rfl) (jl_cons (jv_name 0 rfl (Or.inl rfl)) jl_nil)) (jv_one (jv_chain p_le p_le (jv_name 1 rfl (Or.inl rfl)) (jv_name 0 rfl (Or.inl rfl)) (jv_name 2 rfl (Or.inl rfl)))))))
theorem ok_is_between (Z : Tx K mg) (hF_is_integer : FnC P w K mg base 1 "is_integer" (spF0 K mg false 1 f_is_integer) ["value"] []) {f : Addr} {fd : FuncData} {kws : List (Str × V)} (G : FunD K "is_between" "is_between" (defArgs st_is_between) (defBody st_is_between) (defScope st_is_between) [] kws f fd) : FnG P w K mg base 2 f fd ["value", "low", "high"] (spF0 K mg false 3 f_is_between) :=
  fn0 (P := P) (w := w) (mg := mg) (base := base) (ro := false) (s := b_is_between) (N := N_is_between) (ps := ["value", "low", "high"]) rfl rfl G sc_is_between fun cdv A outer s0 H E hr hgu => d_is_between Z hF_is_integer hr hgu
abbrev N_LimitsU_initU : List Str := ["self", "false_passes", "false_fails", "span", "settled", "bounds", "value", "low", "high"]
theorem sc_LimitsU_initU : FnScope N_LimitsU_initU ["self", "false_passes", "false_fails", "span", "settled"] (defScope st_LimitsU_initU) := ⟨rfl, rfl, rfl, by decide +kernel, rfl, by decide +kernel, by decide +kernel⟩
theorem d_LimitsU_initU (Z : Tx K mg) (hF_is_between : FnC P w K mg base 2 "is_between" (spF0 K mg false 3 f_is_between) ["value", "low", "high"] []) {f : Addr} {cdv : Value} {A : Around} {outer : List Env} {s0 : Shared} {H : Hp} {E : XK} {p : Addr} (hr : Room 2 (A.deeper (envOfC "Limits.__init__" (defScope st_LimitsU_initU) s0.heap.objs.size f cdv))) (hgu : A.guards = some []) : JSs (cxOf (L2.CX P w) P w K mg base N_LimitsU_initU "Limits.__init__" (defScope st_LimitsU_initU) f cdv A outer s0 H E) [(0, p)] (WE0 E) (defBody st_LimitsU_initU) b_LimitsU_initU := by
  have hp : Pl (cxOf (L2.CX P w) P w K mg base N_LimitsU_initU "Limits.__init__" (defScope st_LimitsU_initU) f cdv A outer s0 H E) 2 := ⟨hr, hgu⟩
  exact (js_cons (js_set (noP_cons (by decide) noP_nil) sc_LimitsU_initU.nd rfl (Or.inl rfl) (jv_tup (jl_cons (jv_tup (jl_cons (jv_name 1 rfl (Or.inl rfl)) (jl_cons jv_int (jl_cons (jv_gI (by rfl) Z.c_MOST_FALSE) jl_nil))).ja) (jl_cons (jv_tup (jl_cons (jv_name 2 rfl (Or.inl rfl)) (jl_cons jv_int (jl_cons (jv_gI (by rfl) Z.c_MOST_FALSE) jl_nil))).ja) (jl_cons (jv_tup (jl_cons (jv_name 3 rfl (Or.inl rfl)) (jl_cons jv_int (jl_cons (jv_gI (by rfl) Z.c_MOST_SPAN) jl_nil))).ja) jl_nil))).ja))
    (js_cons (js_for (passes_of rfl) rfl (ji_v (jv_bin o_add (jv_name 5 rfl (Or.inl rfl)) (jv_tup (jl_cons (jv_tup (jl_cons (jv_name 4 rfl (Or.inl rfl)) (jl_cons jv_int (jl_cons (jv_gI (by rfl) Z.c_MOST_SETTLED) jl_nil))).ja) jl_nil).ja))) (jg_tup rfl (jgs_cons (jg_name (noP_cons (by decide) noP_nil) sc_LimitsU_initU.nd rfl (Or.inl rfl)) (jgs_cons (jg_name (noP_cons (by decide) noP_nil) sc_LimitsU_initU.nd rfl (Or.inl rfl)) (jgs_cons (jg_name (noP_cons (by decide) noP_nil) sc_LimitsU_initU.nd rfl (Or.inl rfl)) jgs_nil)))) (ne_tup (nes_cons ne_name (nes_cons ne_name (nes_cons ne_name nes_nil))))
    (js_one (js_if (jt_not (jt_val (jv_c0 ⟨hF_is_between⟩ hp (takes_of rfl rfl rfl rfl) nodd (by rfl) (jl_cons (jv_name 6 rfl (Or.inl rfl)) (jl_cons (jv_name 7 rfl (Or.inl rfl)) (jl_cons (jv_name 8 rfl (Or.inl rfl)) jl_nil)))))) (js_one (js_raise rfl (takes_of rfl rfl rfl rfl) Z.x_NumberError (by rfl))) js_nil)))
    (js_cons (js_asg (jv_tup (jl_cons (jv_name 1 rfl (Or.inl rfl)) (jl_cons (jv_name 2 rfl (Or.inl rfl)) jl_nil)).ja) (jg_tup rfl (jgs_cons (jg_attr ⟨Z.k_Limits, Z.cl_Limits⟩ Z.n_Limits_most_passes rfl (Or.inl rfl)) (jgs_cons (jg_attr ⟨Z.k_Limits, Z.cl_Limits⟩ Z.n_Limits_most_fails rfl (Or.inl rfl)) jgs_nil))) (ne_tup (nes_cons ne_attr (nes_cons ne_attr nes_nil))))
    (js_one (js_asg (jv_tup (jl_cons (jv_name 3 rfl (Or.inl rfl)) (jl_cons (jv_name 4 rfl (Or.inl rfl)) jl_nil)).ja) (jg_tup rfl (jgs_cons (jg_attr ⟨Z.k_Limits, Z.cl_Limits⟩ Z.n_Limits_most_checks rfl (Or.inl rfl)) (jgs_cons (jg_attr ⟨Z.k_Limits, Z.cl_Limits⟩ Z.n_Limits_least_stay rfl (Or.inl rfl)) jgs_nil))) (ne_tup (nes_cons ne_attr (nes_cons ne_attr nes_nil))))))))
theorem ok_LimitsU_initU (Z : Tx K mg) (hF_is_between : FnC P w K mg base 2 "is_between" (spF0 K mg false 3 f_is_between) ["value", "low", "high"] []) {f : Addr} {fd : FuncData} {kws : List (Str × V)} (G : FunD K "__init__" "Limits.__init__" (defArgs st_LimitsU_initU) (defBody st_LimitsU_initU) (defScope st_LimitsU_initU) [] kws f fd) : FnG P w K mg base 3 f fd ["self", "false_passes", "false_fails", "span", "settled"] (spF1 K mg false 5 f_LimitsU_initU) :=
  fn1 (P := P) (w := w) (mg := mg) (base := base) (ro := false) (s := b_LimitsU_initU) (N := N_LimitsU_initU) (ps := ["self", "false_passes", "false_fails", "span", "settled"]) rfl rfl G sc_LimitsU_initU fun cdv A outer s0 H E p hr hgu => d_LimitsU_initU Z hF_is_between hr hgu
abbrev N__law_limits : List Str := ["_law_numbers_here"]
theorem sc__law_limits : FnScope N__law_limits ["_law_numbers_here"] (defScope st__law_limits) := ⟨rfl, rfl, rfl, by decide +kernel, rfl, by decide +kernel, by decide +kernel⟩
theorem d__law_limits (Z : Tx K mg) (hM_Limits_3_settled : ∃ f fd g, Mk K (He.ga K "Limits") f ∧ FnG P w K mg base 3 f fd ["self", "false_passes", "false_fails", "span", "settled"] (spF1 K mg false 5 f_LimitsU_initU) ∧ KBn K fd ["self", "false_passes", "false_fails", "span", "settled"] 4 ["settled"] g gV_Limits_3_settled) {f : Addr} {cdv : Value} {A : Around} {outer : List Env} {s0 : Shared} {H : Hp} {E : XK} (hr : Room 4 (A.deeper (envOfC "_law_limits" (defScope st__law_limits) s0.heap.objs.size f cdv))) (hgu : A.guards = some []) : JSs (cxOf (L2.CX P w) P w K mg base N__law_limits "_law_limits" (defScope st__law_limits) f cdv A outer s0 H E) [] (WE0 E) (defBody st__law_limits) b__law_limits := by
  have hp : Pl (cxOf (L2.CX P w) P w K mg base N__law_limits "_law_limits" (defScope st__law_limits) f cdv A outer s0 H E) 4 := ⟨hr, hgu⟩
  exact (js_one (js_ret (ofO (jo_make (C := He.ga K "Limits") ⟨⟨Z.k_Limits, Z.cl_Limits⟩, hM_Limits_3_settled⟩ (hp.room.mono (by decide)) hp.gu (takes_of rfl rfl rfl rfl) (by rfl) (jl_cons (jv_ix (jv_name 0 rfl (Or.inl rfl)) jv_int) (jl_cons (jv_ix (jv_name 0 rfl (Or.inl rfl)) jv_int) (jl_cons (jv_ix (jv_name 0 rfl (Or.inl rfl)) jv_int) jl_nil))) (jk_cons (jv_ix (jv_name 0 rfl (Or.inl rfl)) jv_int) jk_nil) rel_Limits_3_settled))))
theorem ok__law_limits (Z : Tx K mg) (hM_Limits_3_settled : ∃ f fd g, Mk K (He.ga K "Limits") f ∧ FnG P w K mg base 3 f fd ["self", "false_passes", "false_fails", "span", "settled"] (spF1 K mg false 5 f_LimitsU_initU) ∧ KBn K fd ["self", "false_passes", "false_fails", "span", "settled"] 4 ["settled"] g gV_Limits_3_settled) {f : Addr} {fd : FuncData} {kws : List (Str × V)} (G : FunD K "_law_limits" "_law_limits" (defArgs st__law_limits) (defBody st__law_limits) (defScope st__law_limits) [] kws f fd) : FnG P w K mg base 5 f fd ["_law_numbers_here"] (spF0 K mg false 1 f__law_limits) :=
  fn0 (P := P) (w := w) (mg := mg) (base := base) (ro := false) (s := b__law_limits) (N := N__law_limits) (ps := ["_law_numbers_here"]) rfl rfl G sc__law_limits fun cdv A outer s0 H E hr hgu => d__law_limits Z hM_Limits_3_settled hr hgu
abbrev N__law_let : List Str := ["_law_numbers_here", "_law_flags"]
theorem sc__law_let : FnScope N__law_let ["_law_numbers_here", "_law_flags"] (defScope st__law_let) := ⟨rfl, rfl, rfl, by decide +kernel, rfl, by decide +kernel, by decide +kernel⟩
theorem d__law_let (Z : Tx K mg)  {f : Addr} {cdv : Value} {A : Around} {outer : List Env} {s0 : Shared} {H : Hp} {E : XK} (hr : Room 0 (A.deeper (envOfC "_law_let" (defScope st__law_let) s0.heap.objs.size f cdv))) (hgu : A.guards = some []) : JSs (cxOf (L2.CX P w) P w K mg base N__law_let "_law_let" (defScope st__law_let) f cdv A outer s0 H E) [] (WE0 E) (defBody st__law_let) b__law_let := by
  have hp : Pl (cxOf (L2.CX P w) P w K mg base N__law_let "_law_let" (defScope st__law_let) f cdv A outer s0 H E) 0 := ⟨hr, hgu⟩
  exact (js_one (js_ret (jv_and (jv_cmp p_le (jv_mt PySem.F.slot_str_count PySem.F.type_str_count m_count (jv_name 1 rfl (Or.inl rfl)) (jl_cons jv_str jl_nil).ja) (jv_ix (jv_name 0 rfl (Or.inl rfl)) jv_int)) (jv_one (jv_cmp p_le (jv_mt PySem.F.slot_str_count PySem.F.type_str_count m_count (jv_name 1 rfl (Or.inl rfl)) (jl_cons jv_str jl_nil).ja) (jv_ix (jv_name 0 rfl (Or.inl rfl)) jv_int))))))
theorem ok__law_let (Z : Tx K mg)  {f : Addr} {fd : FuncData} {kws : List (Str × V)} (G : FunD K "_law_let" "_law_let" (defArgs st__law_let) (defBody st__law_let) (defScope st__law_let) [] kws f fd) : FnG P w K mg base 1 f fd ["_law_numbers_here", "_law_flags"] (spF0 K mg false 2 f__law_let) :=
  fn0 (P := P) (w := w) (mg := mg) (base := base) (ro := false) (s := b__law_let) (N := N__law_let) (ps := ["_law_numbers_here", "_law_flags"]) rfl rfl G sc__law_let fun cdv A outer s0 H E hr hgu => d__law_let Z  hr hgu
abbrev N__law_history : List Str := ["_law_pen_here", "_law_numbers_here", "_law_size", "_law_states", "_law_checks_here", "_law_flags", "_law_age", "_law_rare", "_law_state", "_law_at", "_law_flag_here", "_law_last", "_law_is_pass"]
theorem sc__law_history : FnScope N__law_history ["_law_pen_here", "_law_numbers_here", "_law_size"] (defScope st__law_history) := ⟨rfl, rfl, rfl, by decide +kernel, rfl, by decide +kernel, by decide +kernel⟩
theorem d__law_history (Z : Tx K mg) (hF__law_draw : FnC P w K mg base 1 "_law_draw" (spF1 K mg false 2 f__law_draw) ["_law_pen_here", "_law_many"] []) (hF__law_let : FnC P w K mg base 1 "_law_let" (spF0 K mg false 2 f__law_let) ["_law_numbers_here", "_law_flags"] []) {f : Addr} {cdv : Value} {A : Around} {outer : List Env} {s0 : Shared} {H : Hp} {E : XK} {p : Addr} (hr : Room 1 (A.deeper (envOfC "_law_history" (defScope st__law_history) s0.heap.objs.size f cdv))) (hgu : A.guards = some []) : JSs (cxOf (L2.CX P w) P w K mg base N__law_history "_law_history" (defScope st__law_history) f cdv A outer s0 H E) [(0, p)] (WE0 E) (defBody st__law_history) b__law_history := by
  have hp : Pl (cxOf (L2.CX P w) P w K mg base N__law_history "_law_history" (defScope st__law_history) f cdv A outer s0 H E) 1 := ⟨hr, hgu⟩
  exact (js_cons (js_asg (jv_tup (jl_cons jv_str (jl_cons jv_str (jl_cons jv_str jl_nil))).ja) (jg_tup rfl (jgs_cons (jg_name (noP_cons (by decide) noP_nil) sc__law_history.nd rfl (Or.inl rfl)) (jgs_cons (jg_name (noP_cons (by decide) noP_nil) sc__law_history.nd rfl (Or.inl rfl)) (jgs_cons (jg_name (noP_cons (by decide) noP_nil) sc__law_history.nd rfl (Or.inl rfl)) jgs_nil)))) (ne_tup (nes_cons ne_name (nes_cons ne_name (nes_cons ne_name nes_nil)))))
    (js_cons (js_par3 (noP_cons (by decide) noP_nil) (noP_cons (by decide) noP_nil) (noP_cons (by decide) noP_nil) rfl sc__law_history.nd rfl rfl rfl (by decide) (by decide) (by decide) rfl rfl rfl (jl_cons (jv_ix (jv_name 1 rfl (Or.inl rfl)) jv_int) (jl_cons (jv_c1 0 ⟨hF__law_draw⟩ hp (takes_of rfl rfl rfl rfl) nodd (by rfl) (by rfl) (Or.inl rfl) (jl_cons jv_int jl_nil)) (jl_cons (jv_ix jv_str (jv_c1 0 ⟨hF__law_draw⟩ hp (takes_of rfl rfl rfl rfl) nodd (by rfl) (by rfl) (Or.inl rfl) (jl_cons jv_int jl_nil))) jl_nil))).ja)
    (js_cons (js_for (passes_of rfl) rfl (ji_range1 (by rfl) Z.f_range (jl_cons (jv_name 2 rfl (Or.inl rfl)) jl_nil).ja) (jg_name (noP_cons (by decide) noP_nil) sc__law_history.nd rfl (Or.inl rfl)) ne_name
    (js_cons (js_if (ofW (jw_and (jt_cmp p_gt (jv_name 9 rfl (Or.inl rfl)) jv_int) (jw_and (jt_cmp p_ge (jv_name 6 rfl (Or.inl rfl)) (jv_ix (jv_name 1 rfl (Or.inl rfl)) jv_int)) (jw_and1 (jt_cmp (o_eq hp.u64) (jv_c1 0 ⟨hF__law_draw⟩ hp (takes_of rfl rfl rfl rfl) nodd (by rfl) (by rfl) (Or.inl rfl) (jl_cons jv_int jl_nil)) jv_int))))) (js_one (js_par (noP_cons (by decide) noP_nil) (noP_cons (by decide) noP_nil) rfl sc__law_history.nd rfl rfl (by decide) rfl rfl (jl_cons (jv_if (jt_cmp (o_eq hp.u64) (jv_name 8 rfl (Or.inl rfl)) jv_str) jv_str jv_str) (jl_cons jv_int jl_nil)).ja)) js_nil)
    (js_cons (js_set (noP_cons (by decide) noP_nil) sc__law_history.nd rfl (Or.inl rfl) (jv_if (jt_cmp (o_eq hp.u64) (jv_name 8 rfl (Or.inl rfl)) jv_str) jv_str jv_str))
    (js_cons (js_set (noP_cons (by decide) noP_nil) sc__law_history.nd rfl (Or.inl rfl) (jv_slice (jv_bin o_add (jv_name 5 rfl (Or.inl rfl)) (jv_name 10 rfl (Or.inl rfl))) (jp_some (jv_neg (jv_ix (jv_name 1 rfl (Or.inl rfl)) jv_int))) jp_none))
    (js_cons (js_if (ofW (jw_or (jt_cmp p_gt (jv_c1 0 ⟨hF__law_draw⟩ hp (takes_of rfl rfl rfl rfl) nodd (by rfl) (by rfl) (Or.inl rfl) (jl_cons (jv_bin o_add jv_int (jv_bin o_mul jv_int (jv_name 7 rfl (Or.inl rfl)))) jl_nil)) jv_int) (jw_or1 (jt_not (jt_val (jv_c0 ⟨hF__law_let⟩ hp (takes_of rfl rfl rfl rfl) nodd (by rfl) (jl_cons (jv_name 1 rfl (Or.inl rfl)) (jl_cons (jv_name 11 rfl (Or.inl rfl)) jl_nil)))))))) (js_one (js_set (noP_cons (by decide) noP_nil) sc__law_history.nd rfl (Or.inl rfl) jv_str)) js_nil)
    (js_cons (js_set (noP_cons (by decide) noP_nil) sc__law_history.nd rfl (Or.inl rfl) (jv_cmp (o_eq hp.u64) (jv_cmp (o_eq hp.u64) (jv_name 8 rfl (Or.inl rfl)) jv_str) (jv_cmp (o_eq hp.u64) (jv_name 10 rfl (Or.inl rfl)) jv_str)))
    (js_cons (js_set (noP_cons (by decide) noP_nil) sc__law_history.nd rfl (Or.inl rfl) (jv_bin o_add (jv_name 4 rfl (Or.inl rfl)) (jv_if (jt_val (jv_name 12 rfl (Or.inl rfl))) jv_str jv_str)))
    (js_one (js_par3 (noP_cons (by decide) noP_nil) (noP_cons (by decide) noP_nil) (noP_cons (by decide) noP_nil) rfl sc__law_history.nd rfl rfl rfl (by decide) (by decide) (by decide) rfl rfl rfl (jl_cons (jv_bin o_add (jv_name 3 rfl (Or.inl rfl)) (jv_name 8 rfl (Or.inl rfl))) (jl_cons (jv_bin o_add (jv_name 5 rfl (Or.inl rfl)) (jv_name 10 rfl (Or.inl rfl))) (jl_cons (jv_bin o_add (jv_name 6 rfl (Or.inl rfl)) jv_int) jl_nil))).ja)))))))))
    (js_one (js_ret (jv_tup (jl_cons (jv_name 3 rfl (Or.inl rfl)) (jl_cons (jv_name 4 rfl (Or.inl rfl)) jl_nil)).ja))))))
theorem ok__law_history (Z : Tx K mg) (hF__law_draw : FnC P w K mg base 1 "_law_draw" (spF1 K mg false 2 f__law_draw) ["_law_pen_here", "_law_many"] []) (hF__law_let : FnC P w K mg base 1 "_law_let" (spF0 K mg false 2 f__law_let) ["_law_numbers_here", "_law_flags"] []) {f : Addr} {fd : FuncData} {kws : List (Str × V)} (G : FunD K "_law_history" "_law_history" (defArgs st__law_history) (defBody st__law_history) (defScope st__law_history) [] kws f fd) : FnG P w K mg base 2 f fd ["_law_pen_here", "_law_numbers_here", "_law_size"] (spF1 K mg false 3 f__law_history) :=
  fn1 (P := P) (w := w) (mg := mg) (base := base) (ro := false) (s := b__law_history) (N := N__law_history) (ps := ["_law_pen_here", "_law_numbers_here", "_law_size"]) rfl rfl G sc__law_history fun cdv A outer s0 H E p hr hgu => d__law_history Z hF__law_draw hF__law_let hr hgu
abbrev N__law_checks : List Str := ["_law_pen_here", "_law_most", "_law_size", "_law_way", "_law_found", "_law_k"]
theorem sc__law_checks : FnScope N__law_checks ["_law_pen_here", "_law_most"] (defScope st__law_checks) := ⟨rfl, rfl, rfl, by decide +kernel, rfl, by decide +kernel, by decide +kernel⟩
theorem d__law_checks (Z : Tx K mg) (hF__law_draw : FnC P w K mg base 1 "_law_draw" (spF1 K mg false 2 f__law_draw) ["_law_pen_here", "_law_many"] []) {f : Addr} {cdv : Value} {A : Around} {outer : List Env} {s0 : Shared} {H : Hp} {E : XK} {p : Addr} (hr : Room 1 (A.deeper (envOfC "_law_checks" (defScope st__law_checks) s0.heap.objs.size f cdv))) (hgu : A.guards = some []) : JSs (cxOf (L2.CX P w) P w K mg base N__law_checks "_law_checks" (defScope st__law_checks) f cdv A outer s0 H E) [(0, p)] (WE0 E) (defBody st__law_checks) b__law_checks := by
  have hp : Pl (cxOf (L2.CX P w) P w K mg base N__law_checks "_law_checks" (defScope st__law_checks) f cdv A outer s0 H E) 1 := ⟨hr, hgu⟩
  exact (js_cons (js_par3 (noP_cons (by decide) noP_nil) (noP_cons (by decide) noP_nil) (noP_cons (by decide) noP_nil) rfl sc__law_checks.nd rfl rfl rfl (by decide) (by decide) (by decide) rfl rfl rfl (jl_cons (jv_c1 0 ⟨hF__law_draw⟩ hp (takes_of rfl rfl rfl rfl) nodd (by rfl) (by rfl) (Or.inl rfl) (jl_cons (jv_bin o_add (jv_name 1 rfl (Or.inl rfl)) jv_int) jl_nil)) (jl_cons (jv_c1 0 ⟨hF__law_draw⟩ hp (takes_of rfl rfl rfl rfl) nodd (by rfl) (by rfl) (Or.inl rfl) (jl_cons jv_int jl_nil)) (jl_cons jv_str jl_nil))).ja)
    (js_cons (js_for (passes_of rfl) rfl (ji_range1 (by rfl) Z.f_range (jl_cons (jv_name 2 rfl (Or.inl rfl)) jl_nil).ja) (jg_name (noP_cons (by decide) noP_nil) sc__law_checks.nd rfl (Or.inl rfl)) ne_name
    (js_one (js_if (ofW (jw_and (jt_cmp p_gt (jv_name 3 rfl (Or.inl rfl)) jv_int) (jw_and (jt_cmp (o_ne hp.u64) (jv_name 4 rfl (Or.inl rfl)) jv_str) (jw_and1 (jt_cmp p_gt (jv_c1 0 ⟨hF__law_draw⟩ hp (takes_of rfl rfl rfl rfl) nodd (by rfl) (by rfl) (Or.inl rfl) (jl_cons (jv_bin o_add jv_int (jv_name 3 rfl (Or.inl rfl))) jl_nil)) jv_int))))) (js_one (js_set (noP_cons (by decide) noP_nil) sc__law_checks.nd rfl (Or.inl rfl) (jv_bin o_add (jv_name 4 rfl (Or.inl rfl)) (jv_ix (jv_name 4 rfl (Or.inl rfl)) (jv_neg jv_int))))) (js_one (js_set (noP_cons (by decide) noP_nil) sc__law_checks.nd rfl (Or.inl rfl) (jv_bin o_add (jv_name 4 rfl (Or.inl rfl)) (jv_ix jv_str (jv_c1 0 ⟨hF__law_draw⟩ hp (takes_of rfl rfl rfl rfl) nodd (by rfl) (by rfl) (Or.inl rfl) (jl_cons jv_int jl_nil)))))))))
    (js_one (js_ret (jv_name 4 rfl (Or.inl rfl))))))
theorem ok__law_checks (Z : Tx K mg) (hF__law_draw : FnC P w K mg base 1 "_law_draw" (spF1 K mg false 2 f__law_draw) ["_law_pen_here", "_law_many"] []) {f : Addr} {fd : FuncData} {kws : List (Str × V)} (G : FunD K "_law_checks" "_law_checks" (defArgs st__law_checks) (defBody st__law_checks) (defScope st__law_checks) [] kws f fd) : FnG P w K mg base 2 f fd ["_law_pen_here", "_law_most"] (spF1 K mg false 2 f__law_checks) :=
  fn1 (P := P) (w := w) (mg := mg) (base := base) (ro := false) (s := b__law_checks) (N := N__law_checks) (ps := ["_law_pen_here", "_law_most"]) rfl rfl G sc__law_checks fun cdv A outer s0 H E p hr hgu => d__law_checks Z hF__law_draw hr hgu
abbrev N__law_pick : List Str := ["_law_pen_here", "_law_values"]
theorem sc__law_pick : FnScope N__law_pick ["_law_pen_here", "_law_values"] (defScope st__law_pick) := ⟨rfl, rfl, rfl, by decide +kernel, rfl, by decide +kernel, by decide +kernel⟩
theorem d__law_pick (Z : Tx K mg) (hF__law_draw : FnC P w K mg base 1 "_law_draw" (spF1 K mg false 2 f__law_draw) ["_law_pen_here", "_law_many"] []) {f : Addr} {cdv : Value} {A : Around} {outer : List Env} {s0 : Shared} {H : Hp} {E : XK} {p : Addr} (hr : Room 1 (A.deeper (envOfC "_law_pick" (defScope st__law_pick) s0.heap.objs.size f cdv))) (hgu : A.guards = some []) : JSs (cxOf (L2.CX P w) P w K mg base N__law_pick "_law_pick" (defScope st__law_pick) f cdv A outer s0 H E) [(0, p)] (WE0 E) (defBody st__law_pick) b__law_pick := by
  have hp : Pl (cxOf (L2.CX P w) P w K mg base N__law_pick "_law_pick" (defScope st__law_pick) f cdv A outer s0 H E) 1 := ⟨hr, hgu⟩
  exact (js_one (js_ret (jv_ix (jv_name 1 rfl (Or.inl rfl)) (jv_c1 0 ⟨hF__law_draw⟩ hp (takes_of rfl rfl rfl rfl) nodd (by rfl) (by rfl) (Or.inl rfl) (jl_cons (jv_callV1 c_len (by rfl) Z.f_len bt_len (jv_name 1 rfl (Or.inl rfl))) jl_nil)))))
theorem ok__law_pick (Z : Tx K mg) (hF__law_draw : FnC P w K mg base 1 "_law_draw" (spF1 K mg false 2 f__law_draw) ["_law_pen_here", "_law_many"] []) {f : Addr} {fd : FuncData} {kws : List (Str × V)} (G : FunD K "_law_pick" "_law_pick" (defArgs st__law_pick) (defBody st__law_pick) (defScope st__law_pick) [] kws f fd) : FnG P w K mg base 2 f fd ["_law_pen_here", "_law_values"] (spF1 K mg false 2 f__law_pick) :=
  fn1 (P := P) (w := w) (mg := mg) (base := base) (ro := false) (s := b__law_pick) (N := N__law_pick) (ps := ["_law_pen_here", "_law_values"]) rfl rfl G sc__law_pick fun cdv A outer s0 H E p hr hgu => d__law_pick Z hF__law_draw hr hgu
abbrev N__law_odd : List Str := ["_law_pen_here", "_law_some"]
theorem sc__law_odd : FnScope N__law_odd ["_law_pen_here"] (defScope st__law_odd) := ⟨rfl, rfl, rfl, by decide +kernel, rfl, by decide +kernel, by decide +kernel⟩
theorem d__law_odd (Z : Tx K mg) (hF__law_pick : FnC P w K mg base 2 "_law_pick" (spF1 K mg false 2 f__law_pick) ["_law_pen_here", "_law_values"] []) {f : Addr} {cdv : Value} {A : Around} {outer : List Env} {s0 : Shared} {H : Hp} {E : XK} {p : Addr} (hr : Room 2 (A.deeper (envOfC "_law_odd" (defScope st__law_odd) s0.heap.objs.size f cdv))) (hgu : A.guards = some []) : JSs (cxOf (L2.CX P w) P w K mg base N__law_odd "_law_odd" (defScope st__law_odd) f cdv A outer s0 H E) [(0, p)] (WE0 E) (defBody st__law_odd) b__law_odd := by
  have hp : Pl (cxOf (L2.CX P w) P w K mg base N__law_odd "_law_odd" (defScope st__law_odd) f cdv A outer s0 H E) 2 := ⟨hr, hgu⟩
  exact (js_cons (js_set (noP_cons (by decide) noP_nil) sc__law_odd.nd rfl (Or.inl rfl) (ofO (jo_lst (jl_cons jv_non (jl_cons jv_bl (jl_cons jv_bl (jl_cons (jv_neg jv_int) (jl_cons jv_int (jl_cons jv_int (jl_cons jv_int (jl_cons jv_int (jl_cons (jv_bin o_pow jv_int jv_int) (jl_cons jv_str (jl_cons jv_str (jl_cons jv_str (jl_cons jv_str (jl_cons jv_str (jl_cons jv_str (jl_cons jv_str (jl_cons (jv_tup jl_nil.ja) (jl_cons (ofO (jo_lst jl_nil.ja)) (jl_cons (ofO jo_dnewK) (jl_cons (jv_tup (jl_cons jv_int jl_nil).ja) (jl_cons (ofO (jo_lst (jl_cons jv_int jl_nil).ja)) jl_nil))))))))))))))))))))).ja)))
    (js_cons (js_set (noP_cons (by decide) noP_nil) sc__law_odd.nd rfl (Or.inl rfl) (jv_bin o_add (jv_name 1 rfl (Or.inl rfl)) (ofO (jo_lst (jl_cons (ofO (jo_disp (jps_cons jv_int jv_int jps_nil))) (jl_cons (jv_tup (jl_cons jv_str (jl_cons jv_int (jl_cons jv_int jl_nil))).ja) (jl_cons (jv_tup (jl_cons (jv_tup (jl_cons jv_str (jl_cons jv_int (jl_cons jv_int jl_nil))).ja) jl_nil).ja) (jl_cons (ofO (jo_lst (jl_cons (jv_tup (jl_cons jv_str (jl_cons jv_int (jl_cons jv_int jl_nil))).ja) jl_nil).ja)) (jl_cons (jv_tup (jl_cons jv_str (jl_cons jv_str jl_nil)).ja) (jl_cons (jv_tup (jl_cons jv_str (jl_cons jv_str jl_nil)).ja) (jl_cons jv_str (jl_cons (jv_tup (jl_cons jv_non jl_nil).ja) (jl_cons jv_str jl_nil))))))))).ja))))
    (js_one (js_ret (jv_c1 0 ⟨hF__law_pick⟩ hp (takes_of rfl rfl rfl rfl) nodd (by rfl) (by rfl) (Or.inl rfl) (jl_cons (jv_name 1 rfl (Or.inl rfl)) jl_nil))))))
theorem ok__law_odd (Z : Tx K mg) (hF__law_pick : FnC P w K mg base 2 "_law_pick" (spF1 K mg false 2 f__law_pick) ["_law_pen_here", "_law_values"] []) {f : Addr} {fd : FuncData} {kws : List (Str × V)} (G : FunD K "_law_odd" "_law_odd" (defArgs st__law_odd) (defBody st__law_odd) (defScope st__law_odd) [] kws f fd) : FnG P w K mg base 3 f fd ["_law_pen_here"] (spF1 K mg false 1 f__law_odd) :=
  fn1 (P := P) (w := w) (mg := mg) (base := base) (ro := false) (s := b__law_odd) (N := N__law_odd) (ps := ["_law_pen_here"]) rfl rfl G sc__law_odd fun cdv A outer s0 H E p hr hgu => d__law_odd Z hF__law_pick hr hgu
abbrev N__law_near : List Str := ["_law_pen_here", "_law_history_here", "_law_states", "_law_checks_here", "_law_at", "_law_sign", "_law_check", "_law_found", "_law_other", "_law_state"]
theorem sc__law_near : FnScope N__law_near ["_law_pen_here", "_law_history_here"] (defScope st__law_near) := ⟨rfl, rfl, rfl, by decide +kernel, rfl, by decide +kernel, by decide +kernel⟩
theorem d__law_near (Z : Tx K mg) (hF__law_draw : FnC P w K mg base 1 "_law_draw" (spF1 K mg false 2 f__law_draw) ["_law_pen_here", "_law_many"] []) (hF__law_pick : FnC P w K mg base 2 "_law_pick" (spF1 K mg false 2 f__law_pick) ["_law_pen_here", "_law_values"] []) {f : Addr} {cdv : Value} {A : Around} {outer : List Env} {s0 : Shared} {H : Hp} {E : XK} {p : Addr} (hr : Room 2 (A.deeper (envOfC "_law_near" (defScope st__law_near) s0.heap.objs.size f cdv))) (hgu : A.guards = some []) : JSs (cxOf (L2.CX P w) P w K mg base N__law_near "_law_near" (defScope st__law_near) f cdv A outer s0 H E) [(0, p)] (WE0 E) (defBody st__law_near) b__law_near := by
  have hp : Pl (cxOf (L2.CX P w) P w K mg base N__law_near "_law_near" (defScope st__law_near) f cdv A outer s0 H E) 2 := ⟨hr, hgu⟩
  exact (js_cons (js_asg (jv_name 1 rfl (Or.inl rfl)) (jg_tup rfl (jgs_cons (jg_name (noP_cons (by decide) noP_nil) sc__law_near.nd rfl (Or.inl rfl)) (jgs_cons (jg_name (noP_cons (by decide) noP_nil) sc__law_near.nd rfl (Or.inl rfl)) jgs_nil))) (ne_tup (nes_cons ne_name (nes_cons ne_name nes_nil))))
    (js_cons (js_set (noP_cons (by decide) noP_nil) sc__law_near.nd rfl (Or.inl rfl) (jv_c1 0 ⟨hF__law_draw⟩ hp (takes_of rfl rfl rfl rfl) nodd (by rfl) (by rfl) (Or.inl rfl) (jl_cons (jv_bin o_add (jv_callV1 c_len (by rfl) Z.f_len bt_len (jv_name 2 rfl (Or.inl rfl))) jv_int) jl_nil)))
    (js_cons (js_par (noP_cons (by decide) noP_nil) (noP_cons (by decide) noP_nil) rfl sc__law_near.nd rfl rfl (by decide) rfl rfl (jl_cons (jv_c1 0 ⟨hF__law_pick⟩ hp (takes_of rfl rfl rfl rfl) nodd (by rfl) (by rfl) (Or.inl rfl) (jl_cons (ofO (jo_lst (jl_cons jv_str (jl_cons jv_str (jl_cons jv_str (jl_cons jv_str jl_nil)))).ja)) jl_nil)) (jl_cons (jv_c1 0 ⟨hF__law_pick⟩ hp (takes_of rfl rfl rfl rfl) nodd (by rfl) (by rfl) (Or.inl rfl) (jl_cons (ofO (jo_lst (jl_cons jv_str (jl_cons jv_str (jl_cons jv_str (jl_cons jv_str jl_nil)))).ja)) jl_nil)) jl_nil)).ja)
    (js_cons (js_setO (noP_cons (by decide) noP_nil) sc__law_near.nd rfl (Or.inl rfl) (jo_lst (jl_cons (jv_tup (jl_cons (jv_bin o_add (jv_bin o_add (jv_slice (jv_name 2 rfl (Or.inl rfl)) jp_none (jp_some (jv_name 4 rfl (Or.inl rfl)))) (jv_name 5 rfl (Or.inl rfl))) (jv_slice (jv_name 2 rfl (Or.inl rfl)) (jp_some (jv_bin o_add (jv_name 4 rfl (Or.inl rfl)) jv_int)) jp_none)) (jl_cons (jv_name 3 rfl (Or.inl rfl)) jl_nil)).ja) jl_nil).ja))
    (js_cons (js_append (i := 7) rfl (Or.inl rfl) (jv_tup (jl_cons (jv_name 2 rfl (Or.inl rfl)) (jl_cons (jv_bin o_add (jv_bin o_add (jv_slice (jv_name 3 rfl (Or.inl rfl)) jp_none (jp_some (jv_name 4 rfl (Or.inl rfl)))) (jv_name 6 rfl (Or.inl rfl))) (jv_slice (jv_name 3 rfl (Or.inl rfl)) (jp_some (jv_bin o_add (jv_name 4 rfl (Or.inl rfl)) jv_int)) jp_none)) jl_nil)).ja))
    (js_cons (js_set (noP_cons (by decide) noP_nil) sc__law_near.nd rfl (Or.inl rfl) (jv_bin o_add (jv_name 7 rfl (Or.inl rfl)) (ofO (jo_lst (jl_cons (jv_tup (jl_cons (jv_back (jv_name 2 rfl (Or.inl rfl))) (jl_cons (jv_back (jv_name 3 rfl (Or.inl rfl))) jl_nil)).ja) (jl_cons (jv_tup (jl_cons (jv_bin o_add (jv_name 2 rfl (Or.inl rfl)) (jv_name 2 rfl (Or.inl rfl))) (jl_cons (jv_bin o_add (jv_name 3 rfl (Or.inl rfl)) (jv_name 3 rfl (Or.inl rfl))) jl_nil)).ja) jl_nil)).ja))))
    (js_cons (js_set (noP_cons (by decide) noP_nil) sc__law_near.nd rfl (Or.inl rfl) (jv_bin o_add (jv_name 7 rfl (Or.inl rfl)) (ofO (jo_lst (jl_cons (jv_tup (jl_cons (jv_name 3 rfl (Or.inl rfl)) (jl_cons (jv_name 2 rfl (Or.inl rfl)) jl_nil)).ja) (jl_cons (ofO (jo_lst (jl_cons (jv_name 2 rfl (Or.inl rfl)) (jl_cons (jv_name 3 rfl (Or.inl rfl)) jl_nil)).ja)) (jl_cons (jv_tup (jl_cons (jv_name 2 rfl (Or.inl rfl)) (jl_cons (jv_name 3 rfl (Or.inl rfl)) (jl_cons jv_str jl_nil))).ja) (jl_cons (jv_tup (jl_cons (jv_name 2 rfl (Or.inl rfl)) jl_nil).ja) jl_nil)))).ja))))
    (js_cons (js_set (noP_cons (by decide) noP_nil) sc__law_near.nd rfl (Or.inl rfl) (jv_bin o_add (jv_name 7 rfl (Or.inl rfl)) (ofO (jo_lst (jl_cons (jv_name 2 rfl (Or.inl rfl)) (jl_cons (jv_tup (jl_cons (jv_name 2 rfl (Or.inl rfl)) (jl_cons (jv_callT1 (c_listA (by rfl)) (by rfl) Z.f_list bt_list (jv_name 3 rfl (Or.inl rfl))) jl_nil)).ja) (jl_cons (jv_tup (jl_cons (jv_slice (jv_name 2 rfl (Or.inl rfl)) (jp_some jv_int) jp_none) (jl_cons (jv_slice (jv_name 3 rfl (Or.inl rfl)) (jp_some jv_int) jp_none) jl_nil)).ja) jl_nil))).ja))))
    (js_cons (js_set (noP_cons (by decide) noP_nil) sc__law_near.nd rfl (Or.inl rfl) (jv_mt PySem.F.slot_str_join PySem.F.type_str_join m_join jv_str (jl_cons (ofO (jo_lc [("_law_state", 9)] hp rfl sc__law_near.nd (noPs_cons (by decide) noPs_nil) (blkOk_by (by rfl)) (ji_v (jv_name 2 rfl (Or.inl rfl))) (fun s1 H1 C1 cl1 fp1 hp => (jh_name (noP_cons (by decide) noP_nil) sc__law_near.nd rfl (Or.inl rfl) (by decide))) (fun s1 H1 C1 cl1 fp1 hp => jts_nil) (fun s1 H1 C1 cl1 fp1 hp => (jv_if (jt_cmp (o_eq hp.u64) (jv_name 9 rfl (Or.inl rfl)) jv_str) jv_str jv_str)))) jl_nil).ja))
    (js_one (js_ret (jv_bin o_add (jv_name 7 rfl (Or.inl rfl)) (ofO (jo_lst (jl_cons (jv_tup (jl_cons (jv_name 8 rfl (Or.inl rfl)) (jl_cons (jv_name 3 rfl (Or.inl rfl)) jl_nil)).ja) (jl_cons (jv_tup (jl_cons (jv_slice (jv_name 2 rfl (Or.inl rfl)) jp_none (jp_some (jv_name 4 rfl (Or.inl rfl)))) (jl_cons (jv_slice (jv_name 3 rfl (Or.inl rfl)) jp_none (jp_some (jv_name 4 rfl (Or.inl rfl)))) jl_nil)).ja) jl_nil)).ja))))))))))))))
theorem ok__law_near (Z : Tx K mg) (hF__law_draw : FnC P w K mg base 1 "_law_draw" (spF1 K mg false 2 f__law_draw) ["_law_pen_here", "_law_many"] []) (hF__law_pick : FnC P w K mg base 2 "_law_pick" (spF1 K mg false 2 f__law_pick) ["_law_pen_here", "_law_values"] []) {f : Addr} {fd : FuncData} {kws : List (Str × V)} (G : FunD K "_law_near" "_law_near" (defArgs st__law_near) (defBody st__law_near) (defScope st__law_near) [] kws f fd) : FnG P w K mg base 3 f fd ["_law_pen_here", "_law_history_here"] (spF1 K mg false 2 f__law_near) :=
  fn1 (P := P) (w := w) (mg := mg) (base := base) (ro := false) (s := b__law_near) (N := N__law_near) (ps := ["_law_pen_here", "_law_history_here"]) rfl rfl G sc__law_near fun cdv A outer s0 H E p hr hgu => d__law_near Z hF__law_draw hF__law_pick hr hgu
abbrev N__law_is_history : List Str := ["_law_value"]
theorem sc__law_is_history : FnScope N__law_is_history ["_law_value"] (defScope st__law_is_history) := ⟨rfl, rfl, rfl, by decide +kernel, rfl, by decide +kernel, by decide +kernel⟩
theorem d__law_is_history (Z : Tx K mg)  {f : Addr} {cdv : Value} {A : Around} {outer : List Env} {s0 : Shared} {H : Hp} {E : XK} (hr : Room 0 (A.deeper (envOfC "_law_is_history" (defScope st__law_is_history) s0.heap.objs.size f cdv))) (hgu : A.guards = some []) : JSs (cxOf (L2.CX P w) P w K mg base N__law_is_history "_law_is_history" (defScope st__law_is_history) f cdv A outer s0 H E) [] (WE0 E) (defBody st__law_is_history) b__law_is_history := by
  have hp : Pl (cxOf (L2.CX P w) P w K mg base N__law_is_history "_law_is_history" (defScope st__law_is_history) f cdv A outer s0 H E) 0 := ⟨hr, hgu⟩
  exact (js_cons (js_if (ofW (jw_or (jt_not (jt_val (jv_isiB Z.i_tuple (by rfl) Z.f_isinstance (by rfl) Z.f_tuple bt_tuple (jv_name 0 rfl (Or.inl rfl))))) (jw_or1 (jt_cmp (o_ne hp.u64) (jv_callV1 c_len (by rfl) Z.f_len bt_len (jv_name 0 rfl (Or.inl rfl))) jv_int)))) (js_one (js_ret jv_bl)) js_nil)
    (js_cons (js_if (ofW (jw_or (jt_not (jt_val (jv_isiB Z.i_str (by rfl) Z.f_isinstance (by rfl) Z.f_str bt_str (jv_ix (jv_name 0 rfl (Or.inl rfl)) jv_int)))) (jw_or1 (jt_not (jt_val (jv_isiB Z.i_str (by rfl) Z.f_isinstance (by rfl) Z.f_str bt_str (jv_ix (jv_name 0 rfl (Or.inl rfl)) jv_int))))))) (js_one (js_ret jv_bl)) js_nil)
    (js_cons (js_if (jt_cmp (o_ne hp.u64) (jv_callV1 c_len (by rfl) Z.f_len bt_len (jv_ix (jv_name 0 rfl (Or.inl rfl)) jv_int)) (jv_callV1 c_len (by rfl) Z.f_len bt_len (jv_ix (jv_name 0 rfl (Or.inl rfl)) jv_int))) (js_one (js_ret jv_bl)) js_nil)
    (js_one (js_ret (jv_and (jv_cmp (o_eq hp.u64) (jv_mt PySem.F.slot_str_strip PySem.F.type_str_strip m_strip (jv_ix (jv_name 0 rfl (Or.inl rfl)) jv_int) (jl_cons jv_str jl_nil).ja) jv_str) (jv_one (jv_cmp (o_eq hp.u64) (jv_mt PySem.F.slot_str_strip PySem.F.type_str_strip m_strip (jv_ix (jv_name 0 rfl (Or.inl rfl)) jv_int) (jl_cons jv_str jl_nil).ja) jv_str))))))))
theorem ok__law_is_history (Z : Tx K mg)  {f : Addr} {fd : FuncData} {kws : List (Str × V)} (G : FunD K "_law_is_history" "_law_is_history" (defArgs st__law_is_history) (defBody st__law_is_history) (defScope st__law_is_history) [] kws f fd) : FnG P w K mg base 1 f fd ["_law_value"] (spF0 K mg false 1 f__law_is_history) :=
  fn0 (P := P) (w := w) (mg := mg) (base := base) (ro := false) (s := b__law_is_history) (N := N__law_is_history) (ps := ["_law_value"]) rfl rfl G sc__law_is_history fun cdv A outer s0 H E hr hgu => d__law_is_history Z  hr hgu
abbrev N__law_flag : List Str := ["_law_state", "_law_check"]
theorem sc__law_flag : FnScope N__law_flag ["_law_state", "_law_check"] (defScope st__law_flag) := ⟨rfl, rfl, rfl, by decide +kernel, rfl, by decide +kernel, by decide +kernel⟩
theorem d__law_flag (Z : Tx K mg)  {f : Addr} {cdv : Value} {A : Around} {outer : List Env} {s0 : Shared} {H : Hp} {E : XK} (hr : Room 0 (A.deeper (envOfC "_law_flag" (defScope st__law_flag) s0.heap.objs.size f cdv))) (hgu : A.guards = some []) : JSs (cxOf (L2.CX P w) P w K mg base N__law_flag "_law_flag" (defScope st__law_flag) f cdv A outer s0 H E) [] (WE0 E) (defBody st__law_flag) b__law_flag := by
  have hp : Pl (cxOf (L2.CX P w) P w K mg base N__law_flag "_law_flag" (defScope st__law_flag) f cdv A outer s0 H E) 0 := ⟨hr, hgu⟩
  exact (js_one (js_ret (jv_dget hp (ofO (jo_disp (jps_cons jv_str jv_str (jps_cons jv_str jv_str (jps_cons jv_str jv_str (jps_cons jv_str jv_str jps_nil)))))) (jv_bin o_add (jv_name 0 rfl (Or.inl rfl)) (jv_name 1 rfl (Or.inl rfl))))))
theorem ok__law_flag (Z : Tx K mg)  {f : Addr} {fd : FuncData} {kws : List (Str × V)} (G : FunD K "_law_flag" "_law_flag" (defArgs st__law_flag) (defBody st__law_flag) (defScope st__law_flag) [] kws f fd) : FnG P w K mg base 1 f fd ["_law_state", "_law_check"] (spF0 K mg false 2 f__law_flag) :=
  fn0 (P := P) (w := w) (mg := mg) (base := base) (ro := false) (s := b__law_flag) (N := N__law_flag) (ps := ["_law_state", "_law_check"]) rfl rfl G sc__law_flag fun cdv A outer s0 H E hr hgu => d__law_flag Z  hr hgu
abbrev N__law_allowed : List Str := ["_law_numbers_here", "_law_states", "_law_checks_here", "_law_flags", "_law_at", "_law_starts"]
theorem sc__law_allowed : FnScope N__law_allowed ["_law_numbers_here", "_law_states", "_law_checks_here"] (defScope st__law_allowed) := ⟨rfl, rfl, rfl, by decide +kernel, rfl, by decide +kernel, by decide +kernel⟩
theorem d__law_allowed (Z : Tx K mg) (hF__law_flag : FnC P w K mg base 1 "_law_flag" (spF0 K mg false 2 f__law_flag) ["_law_state", "_law_check"] []) (hF__law_let : FnC P w K mg base 1 "_law_let" (spF0 K mg false 2 f__law_let) ["_law_numbers_here", "_law_flags"] []) {f : Addr} {cdv : Value} {A : Around} {outer : List Env} {s0 : Shared} {H : Hp} {E : XK} (hr : Room 1 (A.deeper (envOfC "_law_allowed" (defScope st__law_allowed) s0.heap.objs.size f cdv))) (hgu : A.guards = some []) : JSs (cxOf (L2.CX P w) P w K mg base N__law_allowed "_law_allowed" (defScope st__law_allowed) f cdv A outer s0 H E) [] (WE0 E) (defBody st__law_allowed) b__law_allowed := by
  have hp : Pl (cxOf (L2.CX P w) P w K mg base N__law_allowed "_law_allowed" (defScope st__law_allowed) f cdv A outer s0 H E) 1 := ⟨hr, hgu⟩
  exact (js_cons (js_set noP_nil sc__law_allowed.nd rfl (Or.inl rfl) jv_str)
    (js_cons (js_for (passes_of rfl) rfl (ji_range1 (by rfl) Z.f_range (jl_cons (jv_callV1 c_len (by rfl) Z.f_len bt_len (jv_name 2 rfl (Or.inl rfl))) jl_nil).ja) (jg_name noP_nil sc__law_allowed.nd rfl (Or.inl rfl)) ne_name
    (js_one (js_set noP_nil sc__law_allowed.nd rfl (Or.inl rfl) (jv_bin o_add (jv_name 3 rfl (Or.inl rfl)) (jv_c0 ⟨hF__law_flag⟩ hp (takes_of rfl rfl rfl rfl) nodd (by rfl) (jl_cons (jv_ix (jv_name 1 rfl (Or.inr (Or.inl rfl))) (jv_name 4 rfl (Or.inl rfl))) (jl_cons (jv_ix (jv_name 2 rfl (Or.inl rfl)) (jv_name 4 rfl (Or.inl rfl))) jl_nil)))))))
    (js_cons (js_for (passes_of rfl) rfl (ji_range1 (by rfl) Z.f_range (jl_cons (jv_callV1 c_len (by rfl) Z.f_len bt_len (jv_name 3 rfl (Or.inl rfl))) jl_nil).ja) (jg_name noP_nil sc__law_allowed.nd rfl (Or.inl rfl)) ne_name
    (js_one (js_if (jt_not (jt_val (jv_c0 ⟨hF__law_let⟩ hp (takes_of rfl rfl rfl rfl) nodd (by rfl) (jl_cons (jv_name 0 rfl (Or.inl rfl)) (jl_cons (jv_slice (jv_name 3 rfl (Or.inl rfl)) (jp_some (jv_name 4 rfl (Or.inl rfl))) (jp_some (jv_bin o_add (jv_name 4 rfl (Or.inl rfl)) (jv_ix (jv_name 0 rfl (Or.inl rfl)) jv_int)))) jl_nil))))) (js_one (js_ret jv_bl)) js_nil)))
    (js_cons (js_setLc [("_law_at", 4)] hp rfl sc__law_allowed.nd noPs_nil (blkOk_by (by rfl)) noP_nil rfl rfl (sw_true rfl rfl rfl rfl) (ji_range2 (by rfl) Z.f_range (jl_cons jv_int (jl_cons (jv_callV1 c_len (by rfl) Z.f_len bt_len (jv_name 1 rfl (Or.inr (Or.inl rfl)))) jl_nil)).ja) (fun s1 H1 C1 cl1 fp1 hp => (jh_name noP_nil sc__law_allowed.nd rfl (Or.inl rfl) (by decide))) (fun s1 H1 C1 cl1 fp1 hp => (jts_one (jt_cmp (o_ne hp.u64) (jv_ix (jv_name 1 rfl (Or.inr (Or.inl rfl))) (jv_name 4 rfl (Or.inl rfl))) (jv_ix (jv_name 1 rfl (Or.inr (Or.inl rfl))) (jv_bin o_sub (jv_name 4 rfl (Or.inl rfl)) jv_int))))) (fun s1 H1 C1 cl1 fp1 hp => (jv_name 4 rfl (Or.inl rfl))))
    (js_cons (js_for (passes_of rfl) rfl (ji_range2 (by rfl) Z.f_range (jl_cons jv_int (jl_cons (jv_callV1 c_len (by rfl) Z.f_len bt_len (jv_name 5 rfl (Or.inl rfl))) jl_nil)).ja) (jg_name noP_nil sc__law_allowed.nd rfl (Or.inl rfl)) ne_name
    (js_one (js_if (jt_cmp (p_lt hp) (jv_bin o_sub (jv_ix (jv_name 5 rfl (Or.inl rfl)) (jv_name 4 rfl (Or.inl rfl))) (jv_ix (jv_name 5 rfl (Or.inl rfl)) (jv_bin o_sub (jv_name 4 rfl (Or.inl rfl)) jv_int))) (jv_ix (jv_name 0 rfl (Or.inl rfl)) jv_int)) (js_one (js_ret jv_bl)) js_nil)))
    (js_one (js_ret jv_bl)))))))
theorem ok__law_allowed (Z : Tx K mg) (hF__law_flag : FnC P w K mg base 1 "_law_flag" (spF0 K mg false 2 f__law_flag) ["_law_state", "_law_check"] []) (hF__law_let : FnC P w K mg base 1 "_law_let" (spF0 K mg false 2 f__law_let) ["_law_numbers_here", "_law_flags"] []) {f : Addr} {fd : FuncData} {kws : List (Str × V)} (G : FunD K "_law_allowed" "_law_allowed" (defArgs st__law_allowed) (defBody st__law_allowed) (defScope st__law_allowed) [] kws f fd) : FnG P w K mg base 2 f fd ["_law_numbers_here", "_law_states", "_law_checks_here"] (spF0 K mg false 3 f__law_allowed) :=
  fn0 (P := P) (w := w) (mg := mg) (base := base) (ro := false) (s := b__law_allowed) (N := N__law_allowed) (ps := ["_law_numbers_here", "_law_states", "_law_checks_here"]) rfl rfl G sc__law_allowed fun cdv A outer s0 H E hr hgu => d__law_allowed Z hF__law_flag hF__law_let hr hgu
abbrev N__law_same : List Str := ["_law_found", "_law_due"]
theorem sc__law_same : FnScope N__law_same ["_law_found", "_law_due"] (defScope st__law_same) := ⟨rfl, rfl, rfl, by decide +kernel, rfl, by decide +kernel, by decide +kernel⟩
theorem d__law_same (Z : Tx K mg)  {f : Addr} {cdv : Value} {A : Around} {outer : List Env} {s0 : Shared} {H : Hp} {E : XK} (hr : Room 0 (A.deeper (envOfC "_law_same" (defScope st__law_same) s0.heap.objs.size f cdv))) (hgu : A.guards = some []) : JSs (cxOf (L2.CX P w) P w K mg base N__law_same "_law_same" (defScope st__law_same) f cdv A outer s0 H E) [] (WE0 E) (defBody st__law_same) b__law_same := by
  have hp : Pl (cxOf (L2.CX P w) P w K mg base N__law_same "_law_same" (defScope st__law_same) f cdv A outer s0 H E) 0 := ⟨hr, hgu⟩
  exact (js_one (js_ret (jv_cmp (o_eq hp.u64) (jv_callV1 (c_reprB hp.gu hp.u100) (by rfl) Z.f_repr bt_repr (jv_name 0 rfl (Or.inl rfl))) (jv_callV1 (c_reprB hp.gu hp.u100) (by rfl) Z.f_repr bt_repr (jv_name 1 rfl (Or.inl rfl))))))
theorem ok__law_same (Z : Tx K mg)  {f : Addr} {fd : FuncData} {kws : List (Str × V)} (G : FunD K "_law_same" "_law_same" (defArgs st__law_same) (defBody st__law_same) (defScope st__law_same) [] kws f fd) : FnG P w K mg base 1 f fd ["_law_found", "_law_due"] (spF0 K mg false 2 f__law_same) :=
  fn0 (P := P) (w := w) (mg := mg) (base := base) (ro := false) (s := b__law_same) (N := N__law_same) (ps := ["_law_found", "_law_due"]) rfl rfl G sc__law_same fun cdv A outer s0 H E hr hgu => d__law_same Z  hr hgu
abbrev N_check_limits : List Str := ["value"]
theorem sc_check_limits : FnScope N_check_limits ["value"] (defScope st_check_limits) := ⟨rfl, rfl, rfl, by decide +kernel, rfl, by decide +kernel, by decide +kernel⟩
theorem d_check_limits (Z : Tx K mg)  {f : Addr} {cdv : Value} {A : Around} {outer : List Env} {s0 : Shared} {H : Hp} {E : XK} (hr : Room 0 (A.deeper (envOfC "check_limits" (defScope st_check_limits) s0.heap.objs.size f cdv))) (hgu : A.guards = some []) : JSs (cxOf (L2.CX P w) P w K mg base N_check_limits "check_limits" (defScope st_check_limits) f cdv A outer s0 H E) [] (WE0 E) (defBody st_check_limits) b_check_limits := by
  have hp : Pl (cxOf (L2.CX P w) P w K mg base N_check_limits "check_limits" (defScope st_check_limits) f cdv A outer s0 H E) 0 := ⟨hr, hgu⟩
  exact (js_one (js_if (jt_not (jt_val (jv_isiC (C := He.ga K "Limits") Z.i_Limits (by rfl) Z.f_isinstance (by rfl) Z.k_Limits (jv_name 0 rfl (Or.inl rfl))))) (js_one (js_raise rfl (takes_of rfl rfl rfl rfl) Z.x_LimitsError (by rfl))) js_nil))
theorem ok_check_limits (Z : Tx K mg)  {f : Addr} {fd : FuncData} {kws : List (Str × V)} (G : FunD K "check_limits" "check_limits" (defArgs st_check_limits) (defBody st_check_limits) (defScope st_check_limits) [] kws f fd) : FnG P w K mg base 1 f fd ["value"] (spF0 K mg false 1 f_check_limits) :=
  fn0 (P := P) (w := w) (mg := mg) (base := base) (ro := false) (s := b_check_limits) (N := N_check_limits) (ps := ["value"]) rfl rfl G sc_check_limits fun cdv A outer s0 H E hr hgu => d_check_limits Z  hr hgu
abbrev N_is_made_of : List Str := ["value", "signs", "sign"]
theorem sc_is_made_of : FnScope N_is_made_of ["value", "signs"] (defScope st_is_made_of) := ⟨rfl, rfl, rfl, by decide +kernel, rfl, by decide +kernel, by decide +kernel⟩
theorem d_is_made_of (Z : Tx K mg)  {f : Addr} {cdv : Value} {A : Around} {outer : List Env} {s0 : Shared} {H : Hp} {E : XK} (hr : Room 0 (A.deeper (envOfC "is_made_of" (defScope st_is_made_of) s0.heap.objs.size f cdv))) (hgu : A.guards = some []) : JSs (cxOf (L2.CX P w) P w K mg base N_is_made_of "is_made_of" (defScope st_is_made_of) f cdv A outer s0 H E) [] (WE0 E) (defBody st_is_made_of) b_is_made_of := by
  have hp : Pl (cxOf (L2.CX P w) P w K mg base N_is_made_of "is_made_of" (defScope st_is_made_of) f cdv A outer s0 H E) 0 := ⟨hr, hgu⟩
  exact (js_one (js_ret (jv_and (jv_isiB Z.i_str (by rfl) Z.f_isinstance (by rfl) Z.f_str bt_str (jv_name 0 rfl (Or.inl rfl))) (jv_one (jv_callV1 (c_all (by rfl)) (by rfl) Z.f_all bt_all (ofO (jo_lc [("sign", 2)] hp rfl sc_is_made_of.nd noPs_nil (blkOk_by (by rfl)) (ji_v (jv_name 0 rfl (Or.inl rfl))) (fun s1 H1 C1 cl1 fp1 hp => (jh_name noP_nil sc_is_made_of.nd rfl (Or.inl rfl) (by decide))) (fun s1 H1 C1 cl1 fp1 hp => jts_nil) (fun s1 H1 C1 cl1 fp1 hp => (jv_cmp (o_in hp) (jv_name 2 rfl (Or.inl rfl)) (jv_name 1 rfl (Or.inr (Or.inl rfl))))))))))))
theorem ok_is_made_of (Z : Tx K mg)  {f : Addr} {fd : FuncData} {kws : List (Str × V)} (G : FunD K "is_made_of" "is_made_of" (defArgs st_is_made_of) (defBody st_is_made_of) (defScope st_is_made_of) [] kws f fd) : FnG P w K mg base 1 f fd ["value", "signs"] (spF0 K mg false 2 f_is_made_of) :=
  fn0 (P := P) (w := w) (mg := mg) (base := base) (ro := false) (s := b_is_made_of) (N := N_is_made_of) (ps := ["value", "signs"]) rfl rfl G sc_is_made_of fun cdv A outer s0 H E hr hgu => d_is_made_of Z  hr hgu
abbrev N_is_history : List Str := ["value"]
theorem sc_is_history : FnScope N_is_history ["value"] (defScope st_is_history) := ⟨rfl, rfl, rfl, by decide +kernel, rfl, by decide +kernel, by decide +kernel⟩
theorem d_is_history (Z : Tx K mg) (hF_is_made_of : FnC P w K mg base 1 "is_made_of" (spF0 K mg false 2 f_is_made_of) ["value", "signs"] []) {f : Addr} {cdv : Value} {A : Around} {outer : List Env} {s0 : Shared} {H : Hp} {E : XK} (hr : Room 1 (A.deeper (envOfC "is_history" (defScope st_is_history) s0.heap.objs.size f cdv))) (hgu : A.guards = some []) : JSs (cxOf (L2.CX P w) P w K mg base N_is_history "is_history" (defScope st_is_history) f cdv A outer s0 H E) [] (WE0 E) (defBody st_is_history) b_is_history := by
  have hp : Pl (cxOf (L2.CX P w) P w K mg base N_is_history "is_history" (defScope st_is_history) f cdv A outer s0 H E) 1 := ⟨hr, hgu⟩
  exact (js_cons (js_if (ofW (jw_or (jt_not (jt_val (jv_isiB Z.i_tuple (by rfl) Z.f_isinstance (by rfl) Z.f_tuple bt_tuple (jv_name 0 rfl (Or.inl rfl))))) (jw_or1 (jt_cmp (o_ne hp.u64) (jv_callV1 c_len (by rfl) Z.f_len bt_len (jv_name 0 rfl (Or.inl rfl))) jv_int)))) (js_one (js_ret jv_bl)) js_nil)
    (js_cons (js_if (ofW (jw_or (jt_not (jt_val (jv_c0 ⟨hF_is_made_of⟩ hp (takes_of rfl rfl rfl rfl) nodd (by rfl) (jl_cons (jv_ix (jv_name 0 rfl (Or.inl rfl)) jv_int) (jl_cons (jv_bin o_add (jv_gS (by rfl) Z.c_UP) (jv_gS (by rfl) Z.c_DOWN)) jl_nil))))) (jw_or1 (jt_not (jt_val (jv_c0 ⟨hF_is_made_of⟩ hp (takes_of rfl rfl rfl rfl) nodd (by rfl) (jl_cons (jv_ix (jv_name 0 rfl (Or.inl rfl)) jv_int) (jl_cons (jv_bin o_add (jv_gS (by rfl) Z.c_PASS) (jv_gS (by rfl) Z.c_FAIL)) jl_nil)))))))) (js_one (js_ret jv_bl)) js_nil)
    (js_one (js_ret (jv_cmp (o_eq hp.u64) (jv_callV1 c_len (by rfl) Z.f_len bt_len (jv_ix (jv_name 0 rfl (Or.inl rfl)) jv_int)) (jv_callV1 c_len (by rfl) Z.f_len bt_len (jv_ix (jv_name 0 rfl (Or.inl rfl)) jv_int)))))))
theorem ok_is_history (Z : Tx K mg) (hF_is_made_of : FnC P w K mg base 1 "is_made_of" (spF0 K mg false 2 f_is_made_of) ["value", "signs"] []) {f : Addr} {fd : FuncData} {kws : List (Str × V)} (G : FunD K "is_history" "is_history" (defArgs st_is_history) (defBody st_is_history) (defScope st_is_history) [] kws f fd) : FnG P w K mg base 2 f fd ["value"] (spF0 K mg false 1 f_is_history) :=
  fn0 (P := P) (w := w) (mg := mg) (base := base) (ro := false) (s := b_is_history) (N := N_is_history) (ps := ["value"]) rfl rfl G sc_is_history fun cdv A outer s0 H E hr hgu => d_is_history Z hF_is_made_of hr hgu
abbrev N_are_stays_long : List Str := ["limits", "states", "starts", "at", "start", "later"]
theorem sc_are_stays_long : FnScope N_are_stays_long ["limits", "states"] (defScope st_are_stays_long) := ⟨rfl, rfl, rfl, by decide +kernel, rfl, by decide +kernel, by decide +kernel⟩
theorem d_are_stays_long (Z : Tx K mg) (hP_settled : ∃ pp ga fd, PropOf K (He.ga K "Limits") "settled" pp ga ∧ FnOk P w K mg base CX0 1 ga fd ["self"] (getSp (He.ga K "Limits") "least_stay") ∧ Binds K fd ["self"] []) {f : Addr} {cdv : Value} {A : Around} {outer : List Env} {s0 : Shared} {H : Hp} {E : XK} (hr : Room 2 (A.deeper (envOfC "are_stays_long" (defScope st_are_stays_long) s0.heap.objs.size f cdv))) (hgu : A.guards = some []) : JSs (cxOf (L2.CX P w) P w K mg base N_are_stays_long "are_stays_long" (defScope st_are_stays_long) f cdv A outer s0 H E) [] (WE0 E) (defBody st_are_stays_long) b_are_stays_long := by
  have hp : Pl (cxOf (L2.CX P w) P w K mg base N_are_stays_long "are_stays_long" (defScope st_are_stays_long) f cdv A outer s0 H E) 2 := ⟨hr, hgu⟩
  exact (js_cons (js_setLc [("at", 3)] hp rfl sc_are_stays_long.nd noPs_nil (blkOk_by (by rfl)) noP_nil rfl rfl (sw_true rfl rfl rfl rfl) (ji_range2 (by rfl) Z.f_range (jl_cons jv_int (jl_cons (jv_callV1 c_len (by rfl) Z.f_len bt_len (jv_name 1 rfl (Or.inr (Or.inl rfl)))) jl_nil)).ja) (fun s1 H1 C1 cl1 fp1 hp => (jh_name noP_nil sc_are_stays_long.nd rfl (Or.inl rfl) (by decide))) (fun s1 H1 C1 cl1 fp1 hp => (jts_one (jt_cmp (o_ne hp.u64) (jv_ix (jv_name 1 rfl (Or.inr (Or.inl rfl))) (jv_name 3 rfl (Or.inl rfl))) (jv_ix (jv_name 1 rfl (Or.inr (Or.inl rfl))) (jv_bin o_sub (jv_name 3 rfl (Or.inl rfl)) jv_int))))) (fun s1 H1 C1 cl1 fp1 hp => (jv_name 3 rfl (Or.inl rfl))))
    (js_one (js_ret (jv_callV1 (c_all (by rfl)) (by rfl) Z.f_all bt_all (ofO (jo_lc [("start", 4), ("later", 5)] hp rfl sc_are_stays_long.nd noPs_nil (blkOk_by (by rfl)) (ji_zipA (by rfl) Z.f_zip (jl_cons (jv_name 2 rfl (Or.inl rfl)) (jl_cons (jv_slice (jv_name 2 rfl (Or.inl rfl)) (jp_some jv_int) jp_none) jl_nil)).ja) (fun s1 H1 C1 cl1 fp1 hp => (jh_tup rfl (jhs_cons (jh_name noP_nil sc_are_stays_long.nd rfl (Or.inl rfl) (by decide)) (jhs_cons (jh_name noP_nil sc_are_stays_long.nd rfl (Or.inl rfl) (by decide)) jhs_nil)))) (fun s1 H1 C1 cl1 fp1 hp => jts_nil) (fun s1 H1 C1 cl1 fp1 hp => (jv_cmp p_ge (jv_bin o_sub (jv_name 5 rfl (Or.inl rfl)) (jv_name 4 rfl (Or.inl rfl))) (jv_propV ⟨⟨Z.k_Limits, Z.cl_Limits⟩, hP_settled⟩ hp (jv_name 0 rfl (Or.inr (Or.inl rfl))))))))))))
theorem ok_are_stays_long (Z : Tx K mg) (hP_settled : ∃ pp ga fd, PropOf K (He.ga K "Limits") "settled" pp ga ∧ FnOk P w K mg base CX0 1 ga fd ["self"] (getSp (He.ga K "Limits") "least_stay") ∧ Binds K fd ["self"] []) {f : Addr} {fd : FuncData} {kws : List (Str × V)} (G : FunD K "are_stays_long" "are_stays_long" (defArgs st_are_stays_long) (defBody st_are_stays_long) (defScope st_are_stays_long) [] kws f fd) : FnG P w K mg base 3 f fd ["limits", "states"] (spF0 K mg false 2 f_are_stays_long) :=
  fn0 (P := P) (w := w) (mg := mg) (base := base) (ro := false) (s := b_are_stays_long) (N := N_are_stays_long) (ps := ["limits", "states"]) rfl rfl G sc_are_stays_long fun cdv A outer s0 H E hr hgu => d_are_stays_long Z hP_settled hr hgu
abbrev N_flag_of : List Str := ["state", "check"]
theorem sc_flag_of : FnScope N_flag_of ["state", "check"] (defScope st_flag_of) := ⟨rfl, rfl, rfl, by decide +kernel, rfl, by decide +kernel, by decide +kernel⟩
theorem d_flag_of (Z : Tx K mg)  {f : Addr} {cdv : Value} {A : Around} {outer : List Env} {s0 : Shared} {H : Hp} {E : XK} (hr : Room 0 (A.deeper (envOfC "flag_of" (defScope st_flag_of) s0.heap.objs.size f cdv))) (hgu : A.guards = some []) : JSs (cxOf (L2.CX P w) P w K mg base N_flag_of "flag_of" (defScope st_flag_of) f cdv A outer s0 H E) [] (WE0 E) (defBody st_flag_of) b_flag_of := by
  have hp : Pl (cxOf (L2.CX P w) P w K mg base N_flag_of "flag_of" (defScope st_flag_of) f cdv A outer s0 H E) 0 := ⟨hr, hgu⟩
  exact (js_cons (js_if (jt_cmp (o_eq hp.u64) (jv_cmp (o_eq hp.u64) (jv_name 0 rfl (Or.inl rfl)) (jv_gS (by rfl) Z.c_UP)) (jv_cmp (o_eq hp.u64) (jv_name 1 rfl (Or.inl rfl)) (jv_gS (by rfl) Z.c_PASS))) (js_one (js_ret (jv_gS (by rfl) Z.c_NO_ERROR))) js_nil)
    (js_one (js_ret (jv_if (jt_cmp (o_eq hp.u64) (jv_name 1 rfl (Or.inl rfl)) (jv_gS (by rfl) Z.c_PASS)) (jv_gS (by rfl) Z.c_FALSE_PASS) (jv_gS (by rfl) Z.c_FALSE_FAIL)))))
theorem ok_flag_of (Z : Tx K mg)  {f : Addr} {fd : FuncData} {kws : List (Str × V)} (G : FunD K "flag_of" "flag_of" (defArgs st_flag_of) (defBody st_flag_of) (defScope st_flag_of) [] kws f fd) : FnG P w K mg base 1 f fd ["state", "check"] (spF0 K mg false 2 f_flag_of) :=
  fn0 (P := P) (w := w) (mg := mg) (base := base) (ro := false) (s := b_flag_of) (N := N_flag_of) (ps := ["state", "check"]) rfl rfl G sc_flag_of fun cdv A outer s0 H E hr hgu => d_flag_of Z  hr hgu
abbrev N_Limits_let : List Str := ["self", "flags"]
theorem sc_Limits_let : FnScope N_Limits_let ["self", "flags"] (defScope st_Limits_let) := ⟨rfl, rfl, rfl, by decide +kernel, rfl, by decide +kernel, by decide +kernel⟩
theorem d_Limits_let (Z : Tx K mg)  {f : Addr} {cdv : Value} {A : Around} {outer : List Env} {s0 : Shared} {H : Hp} {E : XK} (hr : Room 0 (A.deeper (envOfC "Limits.let" (defScope st_Limits_let) s0.heap.objs.size f cdv))) (hgu : A.guards = some []) : JSs (cxOf (L2.CX P w) P w K mg base N_Limits_let "Limits.let" (defScope st_Limits_let) f cdv A outer s0 H E) [] (WE0 E) (defBody st_Limits_let) b_Limits_let := by
  have hp : Pl (cxOf (L2.CX P w) P w K mg base N_Limits_let "Limits.let" (defScope st_Limits_let) f cdv A outer s0 H E) 0 := ⟨hr, hgu⟩
  exact (js_one (js_ret (jv_and (jv_cmp p_le (jv_mt PySem.F.slot_str_count PySem.F.type_str_count m_count (jv_name 1 rfl (Or.inl rfl)) (jl_cons (jv_gS (by rfl) Z.c_FALSE_PASS) jl_nil).ja) (jv_fldV ⟨Z.k_Limits, Z.cl_Limits⟩ Z.n_Limits_most_passes (jv_name 0 rfl (Or.inl rfl)))) (jv_one (jv_cmp p_le (jv_mt PySem.F.slot_str_count PySem.F.type_str_count m_count (jv_name 1 rfl (Or.inl rfl)) (jl_cons (jv_gS (by rfl) Z.c_FALSE_FAIL) jl_nil).ja) (jv_fldV ⟨Z.k_Limits, Z.cl_Limits⟩ Z.n_Limits_most_fails (jv_name 0 rfl (Or.inl rfl))))))))
theorem ok_Limits_let (Z : Tx K mg)  {f : Addr} {fd : FuncData} {kws : List (Str × V)} (G : FunD K "let" "Limits.let" (defArgs st_Limits_let) (defBody st_Limits_let) (defScope st_Limits_let) [] kws f fd) : FnG P w K mg base 1 f fd ["self", "flags"] (spF0 K mg false 2 f_Limits_let) :=
  fn0 (P := P) (w := w) (mg := mg) (base := base) (ro := false) (s := b_Limits_let) (N := N_Limits_let) (ps := ["self", "flags"]) rfl rfl G sc_Limits_let fun cdv A outer s0 H E hr hgu => d_Limits_let Z  hr hgu
abbrev N_is_allowed : List Str := ["limits", "value", "flags", "state", "check", "at"]
theorem sc_is_allowed : FnScope N_is_allowed ["limits", "value"] (defScope st_is_allowed) := ⟨rfl, rfl, rfl, by decide +kernel, rfl, by decide +kernel, by decide +kernel⟩
theorem d_is_allowed (Z : Tx K mg) (hF_check_limits : FnC P w K mg base 1 "check_limits" (spF0 K mg false 1 f_check_limits) ["value"] []) (hF_is_history : FnC P w K mg base 2 "is_history" (spF0 K mg false 1 f_is_history) ["value"] []) (hF_are_stays_long : FnC P w K mg base 3 "are_stays_long" (spF0 K mg false 2 f_are_stays_long) ["limits", "states"] []) (hF_flag_of : FnC P w K mg base 1 "flag_of" (spF0 K mg false 2 f_flag_of) ["state", "check"] []) (hO_Limits_let : ∃ fa fd, Meth K (He.ga K "Limits") "let" fa ∧ FnG P w K mg base 1 fa fd ["self", "flags"] (spF0 K mg false 2 f_Limits_let) ∧ Binds K fd ["self", "flags"] []) (hP_span : ∃ pp ga fd, PropOf K (He.ga K "Limits") "span" pp ga ∧ FnOk P w K mg base CX0 1 ga fd ["self"] (getSp (He.ga K "Limits") "most_checks") ∧ Binds K fd ["self"] []) {f : Addr} {cdv : Value} {A : Around} {outer : List Env} {s0 : Shared} {H : Hp} {E : XK} (hr : Room 3 (A.deeper (envOfC "is_allowed" (defScope st_is_allowed) s0.heap.objs.size f cdv))) (hgu : A.guards = some []) : JSs (cxOf (L2.CX P w) P w K mg base N_is_allowed "is_allowed" (defScope st_is_allowed) f cdv A outer s0 H E) [] (WE0 E) (defBody st_is_allowed) b_is_allowed := by
  have hp : Pl (cxOf (L2.CX P w) P w K mg base N_is_allowed "is_allowed" (defScope st_is_allowed) f cdv A outer s0 H E) 3 := ⟨hr, hgu⟩
  exact (js_cons (js_expr (jv_c0 ⟨hF_check_limits⟩ hp (takes_of rfl rfl rfl rfl) nodd (by rfl) (jl_cons (jv_name 0 rfl (Or.inr (Or.inl rfl))) jl_nil)))
    (js_cons (js_if (ofW (jw_or (jt_not (jt_val (jv_c0 ⟨hF_is_history⟩ hp (takes_of rfl rfl rfl rfl) nodd (by rfl) (jl_cons (jv_name 1 rfl (Or.inl rfl)) jl_nil)))) (jw_or1 (jt_not (jt_val (jv_c0 ⟨hF_are_stays_long⟩ hp (takes_of rfl rfl rfl rfl) nodd (by rfl) (jl_cons (jv_name 0 rfl (Or.inr (Or.inl rfl))) (jl_cons (jv_ix (jv_name 1 rfl (Or.inl rfl)) jv_int) jl_nil)))))))) (js_one (js_ret jv_bl)) js_nil)
    (js_cons (js_set noP_nil sc_is_allowed.nd rfl (Or.inr rfl) (jv_mt PySem.F.slot_str_join PySem.F.type_str_join m_join jv_str (jl_cons (ofO (jo_lc [("state", 3), ("check", 4)] hp rfl sc_is_allowed.nd noPs_nil (blkOk_by (by rfl)) (ji_zipA (by rfl) Z.f_zip (jl_cons (jv_ix (jv_name 1 rfl (Or.inl rfl)) jv_int) (jl_cons (jv_ix (jv_name 1 rfl (Or.inl rfl)) jv_int) jl_nil)).ja) (fun s1 H1 C1 cl1 fp1 hp => (jh_tup rfl (jhs_cons (jh_name noP_nil sc_is_allowed.nd rfl (Or.inl rfl) (by decide)) (jhs_cons (jh_name noP_nil sc_is_allowed.nd rfl (Or.inl rfl) (by decide)) jhs_nil)))) (fun s1 H1 C1 cl1 fp1 hp => jts_nil) (fun s1 H1 C1 cl1 fp1 hp => (jv_c0 ⟨hF_flag_of⟩ hp Sr.takes0 nodd (by rfl) (jl_cons (jv_name 3 rfl (Or.inl rfl)) (jl_cons (jv_name 4 rfl (Or.inl rfl)) jl_nil)))))) jl_nil).ja))
    (js_one (js_ret (jv_callV1 (c_all (by rfl)) (by rfl) Z.f_all bt_all (ofO (jo_lc [("at", 5)] hp rfl sc_is_allowed.nd noPs_nil (blkOk_by (by rfl)) (ji_range1 (by rfl) Z.f_range (jl_cons (jv_callV1 c_len (by rfl) Z.f_len bt_len (jv_name 2 rfl (Or.inr (Or.inl rfl)))) jl_nil).ja) (fun s1 H1 C1 cl1 fp1 hp => (jh_name noP_nil sc_is_allowed.nd rfl (Or.inl rfl) (by decide))) (fun s1 H1 C1 cl1 fp1 hp => jts_nil) (fun s1 H1 C1 cl1 fp1 hp => (jv_me ⟨⟨Z.k_Limits, Z.cl_Limits⟩, hO_Limits_let⟩ hp Sr.takes0 (jv_name 0 rfl (Or.inr (Or.inl rfl))) (jl_cons (jv_slice (jv_name 2 rfl (Or.inr (Or.inl rfl))) (jp_some (jv_name 5 rfl (Or.inl rfl))) (jp_some (jv_bin o_add (jv_name 5 rfl (Or.inl rfl)) (jv_propV ⟨⟨Z.k_Limits, Z.cl_Limits⟩, hP_span⟩ hp (jv_name 0 rfl (Or.inr (Or.inl rfl))))))) jl_nil)))))))))))
theorem ok_is_allowed (Z : Tx K mg) (hF_check_limits : FnC P w K mg base 1 "check_limits" (spF0 K mg false 1 f_check_limits) ["value"] []) (hF_is_history : FnC P w K mg base 2 "is_history" (spF0 K mg false 1 f_is_history) ["value"] []) (hF_are_stays_long : FnC P w K mg base 3 "are_stays_long" (spF0 K mg false 2 f_are_stays_long) ["limits", "states"] []) (hF_flag_of : FnC P w K mg base 1 "flag_of" (spF0 K mg false 2 f_flag_of) ["state", "check"] []) (hO_Limits_let : ∃ fa fd, Meth K (He.ga K "Limits") "let" fa ∧ FnG P w K mg base 1 fa fd ["self", "flags"] (spF0 K mg false 2 f_Limits_let) ∧ Binds K fd ["self", "flags"] []) (hP_span : ∃ pp ga fd, PropOf K (He.ga K "Limits") "span" pp ga ∧ FnOk P w K mg base CX0 1 ga fd ["self"] (getSp (He.ga K "Limits") "most_checks") ∧ Binds K fd ["self"] []) {f : Addr} {fd : FuncData} {kws : List (Str × V)} (G : FunD K "is_allowed" "is_allowed" (defArgs st_is_allowed) (defBody st_is_allowed) (defScope st_is_allowed) [] kws f fd) : FnG P w K mg base 4 f fd ["limits", "value"] (spF0 K mg false 2 f_is_allowed) :=
  fn0 (P := P) (w := w) (mg := mg) (base := base) (ro := false) (s := b_is_allowed) (N := N_is_allowed) (ps := ["limits", "value"]) rfl rfl G sc_is_allowed fun cdv A outer s0 H E hr hgu => d_is_allowed Z hF_check_limits hF_is_history hF_are_stays_long hF_flag_of hO_Limits_let hP_span hr hgu
abbrev N__law_refused : List Str := ["_law_limits_here", "_law_value", "e"]
theorem sc__law_refused : FnScope N__law_refused ["_law_limits_here", "_law_value"] (defScope st__law_refused) := ⟨rfl, rfl, rfl, by decide +kernel, rfl, by decide +kernel, by decide +kernel⟩
theorem d__law_refused (Z : Tx K mg) (hF_is_allowed : FnC P w K mg base 4 "is_allowed" (spF0 K mg false 2 f_is_allowed) ["limits", "value"] []) {f : Addr} {cdv : Value} {A : Around} {outer : List Env} {s0 : Shared} {H : Hp} {E : XK} (hr : Room 4 (A.deeper (envOfC "_law_refused" (defScope st__law_refused) s0.heap.objs.size f cdv))) (hgu : A.guards = some []) : JSs (cxOf (L2.CX P w) P w K mg base N__law_refused "_law_refused" (defScope st__law_refused) f cdv A outer s0 H E) [] (WE0 E) (defBody st__law_refused) b__law_refused := by
  have hp : Pl (cxOf (L2.CX P w) P w K mg base N__law_refused "_law_refused" (defScope st__law_refused) f cdv A outer s0 H E) 4 := ⟨hr, hgu⟩
  exact (js_cons (js_try hp rfl rfl sc__law_refused.nd rfl rfl ⟨by rfl, by decide, .inl Z.k_LimitsError⟩ (takes_of rfl rfl rfl rfl) noP_nil Z.ct_LimitsError (fun W1 pn1 xe1 hp tk pp => (js_one (js_expr (jv_c0 ⟨hF_is_allowed⟩ hp tk nodd (by rfl) (jl_cons (jv_name 0 rfl (Or.inl rfl)) (jl_cons (jv_name 1 rfl (Or.inl rfl)) jl_nil))))))
    (fun a1 oe1 cls1 d1 pn1 ex hz hfs hm hd => (js_one (js_ret (jv_and (jv_isE (c := .ty "ValueError") Z.e_ValueError hz hfs hm hd (fun u h => h) (pe_bltn (v := .ty "ValueError") (by rfl) Z.f_ValueError bt_ValueError rfl (by decide) (by decide)) (fun _ _ _ h => h) (by rfl) Z.f_isinstance rfl (Or.inl rfl)) (jv_one (jv_not (jv_isE (c := .ref (He.ga K "NumberError")) Z.e_NumberError hz hfs hm hd (fun u h => h) (pe_glob (v := .ref (He.ga K "NumberError")) (by rfl) Z.k_NumberError rfl (by decide)) (fun _ _ _ h => h) (by rfl) Z.f_isinstance rfl (Or.inl rfl)))))))))
    (js_one (js_ret jv_bl)))
theorem ok__law_refused (Z : Tx K mg) (hF_is_allowed : FnC P w K mg base 4 "is_allowed" (spF0 K mg false 2 f_is_allowed) ["limits", "value"] []) {f : Addr} {fd : FuncData} {kws : List (Str × V)} (G : FunD K "_law_refused" "_law_refused" (defArgs st__law_refused) (defBody st__law_refused) (defScope st__law_refused) [] kws f fd) : FnG P w K mg base 5 f fd ["_law_limits_here", "_law_value"] (spF0 K mg false 2 f__law_refused) :=
  fn0 (P := P) (w := w) (mg := mg) (base := base) (ro := false) (s := b__law_refused) (N := N__law_refused) (ps := ["_law_limits_here", "_law_value"]) rfl rfl G sc__law_refused fun cdv A outer s0 H E hr hgu => d__law_refused Z hF_is_allowed hr hgu
abbrev N_law : List Str := ["_law_script", "_law_k", "_law_pen_here", "_law_numbers_here", "_law_limits_here", "_law_some", "_law_checks_here", "_law_states", "_law_values", "_law_value", "_law_kept", "_law_due", "_law_bad", "_law_check", "_law_one"]
theorem sc_law : FnScope N_law ["_law_script"] (defScope st_law) := ⟨rfl, rfl, rfl, by decide +kernel, rfl, by decide +kernel, by decide +kernel⟩
theorem d_law (Z : Tx K mg) (hF__law_pen : FnC P w K mg base 1 "_law_pen" (spF0 K mg true 1 f__law_pen) ["_law_cell"] []) (hF__law_cell_at : FnC P w K mg base 1 "_law_cell_at" (spF0 K mg false 2 f__law_cell_at) ["_law_script", "_law_k"] []) (hF__law_numbers : FnC P w K mg base 2 "_law_numbers" (spF1 K mg false 2 f__law_numbers) ["_law_pen_here", "_law_most"] []) (hF__law_limits : FnC P w K mg base 5 "_law_limits" (spF0 K mg false 1 f__law_limits) ["_law_numbers_here"] []) (hF__law_history : FnC P w K mg base 2 "_law_history" (spF1 K mg false 3 f__law_history) ["_law_pen_here", "_law_numbers_here", "_law_size"] []) (hF__law_draw : FnC P w K mg base 1 "_law_draw" (spF1 K mg false 2 f__law_draw) ["_law_pen_here", "_law_many"] []) (hF__law_checks : FnC P w K mg base 2 "_law_checks" (spF1 K mg false 2 f__law_checks) ["_law_pen_here", "_law_most"] []) (hF__law_odd : FnC P w K mg base 3 "_law_odd" (spF1 K mg false 1 f__law_odd) ["_law_pen_here"] []) (hF__law_near : FnC P w K mg base 3 "_law_near" (spF1 K mg false 2 f__law_near) ["_law_pen_here", "_law_history_here"] []) (hF__law_is_history : FnC P w K mg base 1 "_law_is_history" (spF0 K mg false 1 f__law_is_history) ["_law_value"] []) (hF__law_allowed : FnC P w K mg base 2 "_law_allowed" (spF0 K mg false 3 f__law_allowed) ["_law_numbers_here", "_law_states", "_law_checks_here"] []) (hF__law_same : FnC P w K mg base 1 "_law_same" (spF0 K mg false 2 f__law_same) ["_law_found", "_law_due"] []) (hF_is_allowed : FnC P w K mg base 4 "is_allowed" (spF0 K mg false 2 f_is_allowed) ["limits", "value"] []) (hF__law_refused : FnC P w K mg base 5 "_law_refused" (spF0 K mg false 2 f__law_refused) ["_law_limits_here", "_law_value"] []) {f : Addr} {cdv : Value} {A : Around} {outer : List Env} {s0 : Shared} {H : Hp} {E : XK} (hr : Room 5 (A.deeper (envOfC "law" (defScope st_law) s0.heap.objs.size f cdv))) (hgu : A.guards = some []) : JSs (cxOf (L2.CX P w) P w K mg base N_law "law" (defScope st_law) f cdv A outer s0 H E) [] (WE0 E) (defBody st_law) b_law := by
  have hp : Pl (cxOf (L2.CX P w) P w K mg base N_law "law" (defScope st_law) f cdv A outer s0 H E) 5 := ⟨hr, hgu⟩
  exact (js_cons (js_for (passes_of rfl) rfl (ji_range1 (by rfl) Z.f_range (jl_cons (jv_callB (c_max (by rfl)) (by rfl) Z.f_max bt_max (jl_cons jv_int (jl_cons (jv_callB (c_min (by rfl)) (by rfl) Z.f_min bt_min (jl_cons (jv_callV1 c_len (by rfl) Z.f_len bt_len (jv_name 0 rfl (Or.inl rfl))) (jl_cons jv_int jl_nil)).ja) jl_nil)).ja) jl_nil).ja) (jg_name noP_nil sc_law.nd rfl (Or.inl rfl)) ne_name
    (js_cons (js_setO noP_nil sc_law.nd rfl (Or.inr rfl) (jo_c0 ⟨hF__law_pen⟩ hp (takes_of rfl rfl rfl rfl) nodd (by rfl) (jl_cons (jv_c0 ⟨hF__law_cell_at⟩ hp (takes_of rfl rfl rfl rfl) nodd (by rfl) (jl_cons (jv_name 0 rfl (Or.inl rfl)) (jl_cons (jv_name 1 rfl (Or.inl rfl)) jl_nil))) jl_nil)))
    (js_cons (js_set noP_nil sc_law.nd rfl (Or.inr rfl) (jv_c1 2 ⟨hF__law_numbers⟩ hp (takes_of rfl rfl rfl rfl) nodd (by rfl) (by rfl) (Or.inr (Or.inl rfl)) (jl_cons jv_int jl_nil)))
    (js_cons (js_set noP_nil sc_law.nd rfl (Or.inl rfl) (jv_c0 ⟨hF__law_limits⟩ hp (takes_of rfl rfl rfl rfl) nodd (by rfl) (jl_cons (jv_name 3 rfl (Or.inr (Or.inl rfl))) jl_nil)))
    (js_cons (js_setO noP_nil sc_law.nd rfl (Or.inl rfl) (jo_lst (jl_cons (jv_c1 2 ⟨hF__law_history⟩ hp (takes_of rfl rfl rfl rfl) nodd (by rfl) (by rfl) (Or.inr (Or.inl rfl)) (jl_cons (jv_name 3 rfl (Or.inr (Or.inl rfl))) (jl_cons (jv_c1 2 ⟨hF__law_draw⟩ hp (takes_of rfl rfl rfl rfl) nodd (by rfl) (by rfl) (Or.inr (Or.inl rfl)) (jl_cons jv_int jl_nil)) jl_nil))) (jl_cons (jv_tup (jl_cons jv_str (jl_cons jv_str jl_nil)).ja) jl_nil)).ja))
    (js_cons (js_append (i := 5) rfl (Or.inl rfl) (jv_c1 2 ⟨hF__law_history⟩ hp (takes_of rfl rfl rfl rfl) nodd (by rfl) (by rfl) (Or.inr (Or.inl rfl)) (jl_cons (jv_name 3 rfl (Or.inr (Or.inl rfl))) (jl_cons (jv_c1 2 ⟨hF__law_draw⟩ hp (takes_of rfl rfl rfl rfl) nodd (by rfl) (by rfl) (Or.inr (Or.inl rfl)) (jl_cons jv_int jl_nil)) jl_nil))))
    (js_cons (js_set noP_nil sc_law.nd rfl (Or.inl rfl) (jv_c1 2 ⟨hF__law_checks⟩ hp (takes_of rfl rfl rfl rfl) nodd (by rfl) (by rfl) (Or.inr (Or.inl rfl)) (jl_cons jv_int jl_nil)))
    (js_cons (js_set noP_nil sc_law.nd rfl (Or.inl rfl) (jv_mt PySem.F.slot_str_join PySem.F.type_str_join m_join jv_str (jl_cons (ofO (jo_lc [("_law_check", 13)] hp rfl sc_law.nd noPs_nil (blkOk_by (by rfl)) (ji_v (jv_name 6 rfl (Or.inl rfl))) (fun s1 H1 C1 cl1 fp1 hp => (jh_name noP_nil sc_law.nd rfl (Or.inl rfl) (by decide))) (fun s1 H1 C1 cl1 fp1 hp => jts_nil) (fun s1 H1 C1 cl1 fp1 hp => (jv_ix jv_str (jv_c1 2 ⟨hF__law_draw⟩ hp Sr.takes0 nodd (by rfl) (by rfl) (Or.inr (Or.inl rfl)) (jl_cons jv_int jl_nil)))))) jl_nil).ja))
    (js_cons (js_set noP_nil sc_law.nd rfl (Or.inl rfl) (jv_bin o_add (jv_name 5 rfl (Or.inl rfl)) (ofO (jo_lst (jl_cons (jv_c1 2 ⟨hF__law_odd⟩ hp (takes_of rfl rfl rfl rfl) nodd (by rfl) (by rfl) (Or.inr (Or.inl rfl)) jl_nil) (jl_cons (jv_tup (jl_cons (jv_name 7 rfl (Or.inl rfl)) (jl_cons (jv_name 6 rfl (Or.inl rfl)) jl_nil)).ja) (jl_cons (jv_tup (jl_cons (jv_bin o_mulA (jv_ix (jv_ixB (jb_name 5 rfl (Or.inl rfl)) jv_int) jv_int) jv_int) (jl_cons (jv_bin o_mulA (jv_ix (jv_ixB (jb_name 5 rfl (Or.inl rfl)) jv_int) jv_int) jv_int) jl_nil)).ja) jl_nil))).ja))))
    (js_cons (js_for (passes_of rfl) rfl (ji_v (jv_bin o_add (jv_bin o_add (jv_name 8 rfl (Or.inl rfl)) (jv_c1 2 ⟨hF__law_near⟩ hp (takes_of rfl rfl rfl rfl) nodd (by rfl) (by rfl) (Or.inr (Or.inl rfl)) (jl_cons (jv_ixB (jb_name 5 rfl (Or.inl rfl)) jv_int) jl_nil))) (jv_c1 2 ⟨hF__law_near⟩ hp (takes_of rfl rfl rfl rfl) nodd (by rfl) (by rfl) (Or.inr (Or.inl rfl)) (jl_cons (jv_ixB (jb_name 5 rfl (Or.inl rfl)) jv_int) jl_nil)))) (jg_name noP_nil sc_law.nd rfl (Or.inl rfl)) ne_name
    (js_cons (js_set noP_nil sc_law.nd rfl (Or.inl rfl) (jv_callV1 (c_reprB hp.gu hp.u100) (by rfl) Z.f_repr bt_repr (jv_name 9 rfl (Or.inl rfl))))
    (js_cons (js_set noP_nil sc_law.nd rfl (Or.inl rfl) (jv_and (jv_c0 ⟨hF__law_is_history⟩ hp (takes_of rfl rfl rfl rfl) nodd (by rfl) (jl_cons (jv_name 9 rfl (Or.inl rfl)) jl_nil)) (jv_one (jv_c0 ⟨hF__law_allowed⟩ hp (takes_of rfl rfl rfl rfl) nodd (by rfl) (jl_cons (jv_name 3 rfl (Or.inr (Or.inl rfl))) (jl_cons (jv_ix (jv_name 9 rfl (Or.inl rfl)) jv_int) (jl_cons (jv_ix (jv_name 9 rfl (Or.inl rfl)) jv_int) jl_nil)))))))
    (js_one (js_if (ofW (jw_or (jt_not (jt_val (jv_c0 ⟨hF__law_same⟩ hp (takes_of rfl rfl rfl rfl) nodd (by rfl) (jl_cons (jv_c0 ⟨hF_is_allowed⟩ hp (takes_of rfl rfl rfl rfl) nodd (by rfl) (jl_cons (jv_name 4 rfl (Or.inl rfl)) (jl_cons (jv_name 9 rfl (Or.inl rfl)) jl_nil))) (jl_cons (jv_name 11 rfl (Or.inl rfl)) jl_nil))))) (jw_or1 (jt_cmp (o_ne hp.u64) (jv_callV1 (c_reprB hp.gu hp.u100) (by rfl) Z.f_repr bt_repr (jv_name 9 rfl (Or.inl rfl))) (jv_name 10 rfl (Or.inl rfl)))))) (js_one (js_ret jv_bl)) js_nil)))))
    (js_cons (js_if (jt_cmp (o_ne hp.u64) (ofO (jo_lc [("_law_one", 14)] hp rfl sc_law.nd noPs_nil (blkOk_by (by rfl)) (ji_v (jv_name 5 rfl (Or.inl rfl))) (fun s1 H1 C1 cl1 fp1 hp => (jh_name noP_nil sc_law.nd rfl (Or.inl rfl) (by decide))) (fun s1 H1 C1 cl1 fp1 hp => jts_nil) (fun s1 H1 C1 cl1 fp1 hp => (jv_c0 ⟨hF__law_allowed⟩ hp Sr.takes0 nodd (by rfl) (jl_cons (jv_name 3 rfl (Or.inr (Or.inl rfl))) (jl_cons (jv_ix (jv_name 14 rfl (Or.inl rfl)) jv_int) (jl_cons (jv_ix (jv_name 14 rfl (Or.inl rfl)) jv_int) jl_nil))))))) (jv_bin o_mulA (ofO (jo_lst (jl_cons jv_bl jl_nil).ja)) jv_int)) (js_one (js_ret jv_bl)) js_nil)
    (js_one (js_for (passes_of rfl) rfl (ji_v (ofO (jo_lst (jl_cons (jv_c1 2 ⟨hF__law_odd⟩ hp (takes_of rfl rfl rfl rfl) nodd (by rfl) (by rfl) (Or.inr (Or.inl rfl)) jl_nil) (jl_cons jv_non (jl_cons (jv_name 3 rfl (Or.inr (Or.inl rfl))) jl_nil))).ja))) (jg_name noP_nil sc_law.nd rfl (Or.inl rfl)) ne_name
    (js_one (js_if (ofW (jw_or (jt_not (jt_val (jv_c0 ⟨hF__law_refused⟩ hp (takes_of rfl rfl rfl rfl) nodd (by rfl) (jl_cons (jv_name 12 rfl (Or.inl rfl)) (jl_cons (jv_ixB (jb_name 5 rfl (Or.inl rfl)) jv_int) jl_nil))))) (jw_or1 (jt_not (jt_val (jv_c0 ⟨hF__law_refused⟩ hp (takes_of rfl rfl rfl rfl) nodd (by rfl) (jl_cons (jv_name 12 rfl (Or.inl rfl)) (jl_cons jv_non jl_nil)))))))) (js_one (js_ret jv_bl)) js_nil)))))))))))))))
    (js_one (js_ret jv_bl)))
theorem ok_law (Z : Tx K mg) (hF__law_pen : FnC P w K mg base 1 "_law_pen" (spF0 K mg true 1 f__law_pen) ["_law_cell"] []) (hF__law_cell_at : FnC P w K mg base 1 "_law_cell_at" (spF0 K mg false 2 f__law_cell_at) ["_law_script", "_law_k"] []) (hF__law_numbers : FnC P w K mg base 2 "_law_numbers" (spF1 K mg false 2 f__law_numbers) ["_law_pen_here", "_law_most"] []) (hF__law_limits : FnC P w K mg base 5 "_law_limits" (spF0 K mg false 1 f__law_limits) ["_law_numbers_here"] []) (hF__law_history : FnC P w K mg base 2 "_law_history" (spF1 K mg false 3 f__law_history) ["_law_pen_here", "_law_numbers_here", "_law_size"] []) (hF__law_draw : FnC P w K mg base 1 "_law_draw" (spF1 K mg false 2 f__law_draw) ["_law_pen_here", "_law_many"] []) (hF__law_checks : FnC P w K mg base 2 "_law_checks" (spF1 K mg false 2 f__law_checks) ["_law_pen_here", "_law_most"] []) (hF__law_odd : FnC P w K mg base 3 "_law_odd" (spF1 K mg false 1 f__law_odd) ["_law_pen_here"] []) (hF__law_near : FnC P w K mg base 3 "_law_near" (spF1 K mg false 2 f__law_near) ["_law_pen_here", "_law_history_here"] []) (hF__law_is_history : FnC P w K mg base 1 "_law_is_history" (spF0 K mg false 1 f__law_is_history) ["_law_value"] []) (hF__law_allowed : FnC P w K mg base 2 "_law_allowed" (spF0 K mg false 3 f__law_allowed) ["_law_numbers_here", "_law_states", "_law_checks_here"] []) (hF__law_same : FnC P w K mg base 1 "_law_same" (spF0 K mg false 2 f__law_same) ["_law_found", "_law_due"] []) (hF_is_allowed : FnC P w K mg base 4 "is_allowed" (spF0 K mg false 2 f_is_allowed) ["limits", "value"] []) (hF__law_refused : FnC P w K mg base 5 "_law_refused" (spF0 K mg false 2 f__law_refused) ["_law_limits_here", "_law_value"] []) {f : Addr} {fd : FuncData} {kws : List (Str × V)} (G : FunD K "law" "law" (defArgs st_law) (defBody st_law) (defScope st_law) [] kws f fd) : FnG P w K mg base 6 f fd ["_law_script"] (spF0 K mg false 1 f_law) :=
  fn0 (P := P) (w := w) (mg := mg) (base := base) (ro := false) (s := b_law) (N := N_law) (ps := ["_law_script"]) rfl rfl G sc_law fun cdv A outer s0 H E hr hgu => d_law Z hF__law_pen hF__law_cell_at hF__law_numbers hF__law_limits hF__law_history hF__law_draw hF__law_checks hF__law_odd hF__law_near hF__law_is_history hF__law_allowed hF__law_same hF_is_allowed hF__law_refused hr hgu
end
end Lw
namespace Lw
open PySem hiding start
open PySem.Spec L2 Sr
open PyProof.Rows hiding St
def fa : List He.Fa := [.free "max", .free "int", .free "len", .free "min", .free "isinstance", .free "bool", .int "MOST_FALSE" 5, .int "MOST_SPAN" 5, .int "MOST_SETTLED" 4, .free "range", .free "list", .free "tuple", .free "str", .free "repr", .free "all", .str "UP" "U", .str "DOWN" "D", .str "PASS" "+", .str "FAIL" "-", .free "zip", .str "NO_ERROR" ".", .str "FALSE_PASS" "p", .str "FALSE_FAIL" "f", .free "ValueError", .glo "Limits", .cls "Limits", .glo "NumberError", .glo "LimitsError", .noat "Limits" "most_passes", .noat "Limits" "most_fails", .noat "Limits" "most_checks", .noat "Limits" "least_stay", .exc "NumberError", .exc "LimitsError", .meth "Limits" "let", .mkr "Limits", .glo "_law_pen", .glo "_law_cell_at", .glo "_law_draw", .glo "_law_numbers", .glo "is_integer", .glo "is_between", .glo "_law_limits", .glo "_law_let", .glo "_law_history", .glo "_law_checks", .glo "_law_pick", .glo "_law_odd", .glo "_law_near", .glo "_law_is_history", .glo "_law_flag", .glo "_law_allowed", .glo "_law_same", .glo "check_limits", .glo "is_made_of", .glo "is_history", .glo "are_stays_long", .glo "flag_of", .glo "is_allowed", .glo "_law_refused", .glo "law"]
def dz__law_pen : DefZ := ⟨fun K => He.ga K "_law_pen", "_law_pen", "_law_pen", st__law_pen, []⟩
def dz__law_cell_at : DefZ := ⟨fun K => He.ga K "_law_cell_at", "_law_cell_at", "_law_cell_at", st__law_cell_at, []⟩
def dz__law_draw : DefZ := ⟨fun K => He.ga K "_law_draw", "_law_draw", "_law_draw", st__law_draw, []⟩
def dz__law_numbers : DefZ := ⟨fun K => He.ga K "_law_numbers", "_law_numbers", "_law_numbers", st__law_numbers, []⟩
def dz_is_integer : DefZ := ⟨fun K => He.ga K "is_integer", "is_integer", "is_integer", st_is_integer, []⟩
def dz_is_between : DefZ := ⟨fun K => He.ga K "is_between", "is_between", "is_between", st_is_between, []⟩
def dz_LimitsU_initU : DefZ := ⟨fun K => He.ma K (He.ga K "Limits") "__init__", "__init__", "Limits.__init__", st_LimitsU_initU, [("settled", .int 1)]⟩
def dz__law_limits : DefZ := ⟨fun K => He.ga K "_law_limits", "_law_limits", "_law_limits", st__law_limits, []⟩
def dz__law_let : DefZ := ⟨fun K => He.ga K "_law_let", "_law_let", "_law_let", st__law_let, []⟩
def dz__law_history : DefZ := ⟨fun K => He.ga K "_law_history", "_law_history", "_law_history", st__law_history, []⟩
def dz__law_checks : DefZ := ⟨fun K => He.ga K "_law_checks", "_law_checks", "_law_checks", st__law_checks, []⟩
def dz__law_pick : DefZ := ⟨fun K => He.ga K "_law_pick", "_law_pick", "_law_pick", st__law_pick, []⟩
def dz__law_odd : DefZ := ⟨fun K => He.ga K "_law_odd", "_law_odd", "_law_odd", st__law_odd, []⟩
def dz__law_near : DefZ := ⟨fun K => He.ga K "_law_near", "_law_near", "_law_near", st__law_near, []⟩
def dz__law_is_history : DefZ := ⟨fun K => He.ga K "_law_is_history", "_law_is_history", "_law_is_history", st__law_is_history, []⟩
def dz__law_flag : DefZ := ⟨fun K => He.ga K "_law_flag", "_law_flag", "_law_flag", st__law_flag, []⟩
def dz__law_allowed : DefZ := ⟨fun K => He.ga K "_law_allowed", "_law_allowed", "_law_allowed", st__law_allowed, []⟩
def dz__law_same : DefZ := ⟨fun K => He.ga K "_law_same", "_law_same", "_law_same", st__law_same, []⟩
def dz_check_limits : DefZ := ⟨fun K => He.ga K "check_limits", "check_limits", "check_limits", st_check_limits, []⟩
def dz_is_made_of : DefZ := ⟨fun K => He.ga K "is_made_of", "is_made_of", "is_made_of", st_is_made_of, []⟩
def dz_is_history : DefZ := ⟨fun K => He.ga K "is_history", "is_history", "is_history", st_is_history, []⟩
def dz_are_stays_long : DefZ := ⟨fun K => He.ga K "are_stays_long", "are_stays_long", "are_stays_long", st_are_stays_long, []⟩
def dz_flag_of : DefZ := ⟨fun K => He.ga K "flag_of", "flag_of", "flag_of", st_flag_of, []⟩
def dz_Limits_let : DefZ := ⟨fun K => He.ma K (He.ga K "Limits") "let", "let", "Limits.let", st_Limits_let, []⟩
def dz_is_allowed : DefZ := ⟨fun K => He.ga K "is_allowed", "is_allowed", "is_allowed", st_is_allowed, []⟩
def dz__law_refused : DefZ := ⟨fun K => He.ga K "_law_refused", "_law_refused", "_law_refused", st__law_refused, []⟩
def dz_law : DefZ := ⟨fun K => He.ga K "law", "law", "law", st_law, []⟩
def dz_Limits_settled : DefZ := ⟨fun K => (prG K "Limits" "settled").2, "settled", "Limits.settled", st_Limits_settled, []⟩
def dz_Limits_span : DefZ := ⟨fun K => (prG K "Limits" "span").2, "span", "Limits.span", st_Limits_span, []⟩
def fn : List DefZ := [dz__law_pen, dz__law_cell_at, dz__law_draw, dz__law_numbers, dz_is_integer, dz_is_between, dz_LimitsU_initU, dz__law_limits, dz__law_let, dz__law_history, dz__law_checks, dz__law_pick, dz__law_odd, dz__law_near, dz__law_is_history, dz__law_flag, dz__law_allowed, dz__law_same, dz_check_limits, dz_is_made_of, dz_is_history, dz_are_stays_long, dz_flag_of, dz_Limits_let, dz_is_allowed, dz__law_refused, dz_law, dz_Limits_settled, dz_Limits_span]
def ex (K : PySem.W.Frag) : Bool := cliB K "Limits" && (ownB K (.type "int") isl_int && (ownB K (.type "bool") isl_bool && (ownB K (.type "tuple") isl_tuple && (ownB K (.type "str") isl_str && (noKd K "Limits" && (ownB K (.ref (He.ga K "Limits")) isl_Limits && (catB K (.ref (He.ga K "LimitsError")) ctl_LimitsError && (exsB K (.type "ValueError") isE_ValueError && (exsB K (.ref (He.ga K "NumberError")) isE_NumberError && (propB K "Limits" "settled" && (propB K "Limits" "span")))))))))))
section
variable {P : Program} {w : World} {K : PySem.W.Frag} {h : Heap} {mg : Str → Option Value}
theorem tx_mk (X : K.In h) (G : h.Ns mainGlobals mg) (c : SaysZ fa fn ex K) : Tx K mg := by
  have hx : (cliB K "Limits" && (ownB K (.type "int") isl_int && (ownB K (.type "bool") isl_bool && (ownB K (.type "tuple") isl_tuple && (ownB K (.type "str") isl_str && (noKd K "Limits" && (ownB K (.ref (He.ga K "Limits")) isl_Limits && (catB K (.ref (He.ga K "LimitsError")) ctl_LimitsError && (exsB K (.type "ValueError") isE_ValueError && (exsB K (.ref (He.ga K "NumberError")) isE_NumberError && (propB K "Limits" "settled" && (propB K "Limits" "span")))))))))))) = true := c.all.2.2
  simp only [Bool.and_eq_true] at hx
  obtain ⟨hx0, hx1, hx2, hx3, hx4, hx5, hx6, hx7, hx8, hx9, hx10, hx11⟩ := hx
  have hI_int : ∀ q ∈ isl_int, ClI K mg q.1 (He.ga K q.1) := by
    intro q hq
    simp only [isl_int, List.mem_cons, List.not_mem_nil, or_false] at hq
    subst hq
    exact cliB_ok ⟨He.glo_ok X G (c.fact 24), He.cls_ok (c.fact 25)⟩ hx0
  have hI_bool : ∀ q ∈ isl_bool, ClI K mg q.1 (He.ga K q.1) := by
    intro q hq
    simp only [isl_bool, List.mem_cons, List.not_mem_nil, or_false] at hq
    subst hq
    exact cliB_ok ⟨He.glo_ok X G (c.fact 24), He.cls_ok (c.fact 25)⟩ hx0
  have hI_tuple : ∀ q ∈ isl_tuple, ClI K mg q.1 (He.ga K q.1) := by
    intro q hq
    simp only [isl_tuple, List.mem_cons, List.not_mem_nil, or_false] at hq
    subst hq
    exact cliB_ok ⟨He.glo_ok X G (c.fact 24), He.cls_ok (c.fact 25)⟩ hx0
  have hI_str : ∀ q ∈ isl_str, ClI K mg q.1 (He.ga K q.1) := by
    intro q hq
    simp only [isl_str, List.mem_cons, List.not_mem_nil, or_false] at hq
    subst hq
    exact cliB_ok ⟨He.glo_ok X G (c.fact 24), He.cls_ok (c.fact 25)⟩ hx0
  have hI_Limits : ∀ q ∈ isl_Limits, ClI K mg q.1 (He.ga K q.1) := by
    intro q hq
    simp only [isl_Limits, List.mem_cons, List.not_mem_nil, or_false] at hq
    subst hq
    exact cliB_ok ⟨He.glo_ok X G (c.fact 24), He.cls_ok (c.fact 25)⟩ hx0
  exact ⟨He.free_ok X G (c.fact 0), He.free_ok X G (c.fact 1), He.free_ok X G (c.fact 2), He.free_ok X G (c.fact 3), He.free_ok X G (c.fact 4), He.free_ok X G (c.fact 5), He.int_ok X G (c.fact 6), He.int_ok X G (c.fact 7), He.int_ok X G (c.fact 8), He.free_ok X G (c.fact 9), He.free_ok X G (c.fact 10), He.free_ok X G (c.fact 11), He.free_ok X G (c.fact 12), He.free_ok X G (c.fact 13), He.free_ok X G (c.fact 14), He.str_ok X G (c.fact 15), He.str_ok X G (c.fact 16), He.str_ok X G (c.fact 17), He.str_ok X G (c.fact 18), He.free_ok X G (c.fact 19), He.str_ok X G (c.fact 20), He.str_ok X G (c.fact 21), He.str_ok X G (c.fact 22), He.free_ok X G (c.fact 23), He.glo_ok X G (c.fact 24), He.cls_ok (c.fact 25), He.glo_ok X G (c.fact 26), He.glo_ok X G (c.fact 27), He.noat_ok (c.fact 28), He.noat_ok (c.fact 29), He.noat_ok (c.fact 30), He.noat_ok (c.fact 31), isi_of tInt_ok (ownB_ok hx1 hI_int), isi_of tBool_ok (ownB_ok hx2 hI_bool), isi_of tTuple_ok (ownB_ok hx3 hI_tuple), isi_of tStr_ok (ownB_ok hx4 hI_str), isi_of (noKd_ok hx5) (ownB_ok hx6 hI_Limits), rai_of (He.glo_ok X G (c.fact 26)) (c.fact 32), rai_of (He.glo_ok X G (c.fact 27)) (c.fact 33), cat_of hx7 (by intro q hq; simp only [ctl_LimitsError, List.mem_cons, List.not_mem_nil, or_false] at hq; rcases hq with rfl | rfl <;> first | exact He.glo_ok X G (c.fact 26) | exact He.glo_ok X G (c.fact 27)), isE_of hx8 (by intro q hq; simp only [isE_ValueError, List.mem_cons, List.not_mem_nil, or_false] at hq; rcases hq with rfl | rfl <;> first | exact He.glo_ok X G (c.fact 26) | exact He.glo_ok X G (c.fact 27)), isE_of hx9 (by intro q hq; simp only [isE_NumberError, List.mem_cons, List.not_mem_nil, or_false] at hq; rcases hq with rfl | rfl <;> first | exact He.glo_ok X G (c.fact 26) | exact He.glo_ok X G (c.fact 27))⟩
theorem all_mk {fl : Addr} (X : K.In h) (G : h.Ns mainGlobals mg) (hl : mg "law" = some (.ref fl)) (c : SaysZ fa fn ex K) : ∃ fd : FuncData, (∀ (s : Shared) (v : Value), BindsTo s fd ⟨[v], []⟩ [("_law_script", v)]) ∧ ∀ base : Heap, FnG P w K mg base 6 fl fd ["_law_script"] (spF0 K mg false 1 f_law) := by
  have Z : Tx K mg := tx_mk X G c
  have hx : (cliB K "Limits" && (ownB K (.type "int") isl_int && (ownB K (.type "bool") isl_bool && (ownB K (.type "tuple") isl_tuple && (ownB K (.type "str") isl_str && (noKd K "Limits" && (ownB K (.ref (He.ga K "Limits")) isl_Limits && (catB K (.ref (He.ga K "LimitsError")) ctl_LimitsError && (exsB K (.type "ValueError") isE_ValueError && (exsB K (.ref (He.ga K "NumberError")) isE_NumberError && (propB K "Limits" "settled" && (propB K "Limits" "span")))))))))))) = true := c.all.2.2
  simp only [Bool.and_eq_true] at hx
  obtain ⟨hx0, hx1, hx2, hx3, hx4, hx5, hx6, hx7, hx8, hx9, hx10, hx11⟩ := hx
  obtain ⟨fd__law_pen, G__law_pen⟩ := c.def_ 0 (d := dz__law_pen)
  obtain ⟨fd__law_cell_at, G__law_cell_at⟩ := c.def_ 1 (d := dz__law_cell_at)
  obtain ⟨fd__law_draw, G__law_draw⟩ := c.def_ 2 (d := dz__law_draw)
  obtain ⟨fd__law_numbers, G__law_numbers⟩ := c.def_ 3 (d := dz__law_numbers)
  obtain ⟨fd_is_integer, G_is_integer⟩ := c.def_ 4 (d := dz_is_integer)
  obtain ⟨fd_is_between, G_is_between⟩ := c.def_ 5 (d := dz_is_between)
  obtain ⟨fd_LimitsU_initU, G_LimitsU_initU⟩ := c.def_ 6 (d := dz_LimitsU_initU)
  obtain ⟨fd__law_limits, G__law_limits⟩ := c.def_ 7 (d := dz__law_limits)
  obtain ⟨fd__law_let, G__law_let⟩ := c.def_ 8 (d := dz__law_let)
  obtain ⟨fd__law_history, G__law_history⟩ := c.def_ 9 (d := dz__law_history)
  obtain ⟨fd__law_checks, G__law_checks⟩ := c.def_ 10 (d := dz__law_checks)
  obtain ⟨fd__law_pick, G__law_pick⟩ := c.def_ 11 (d := dz__law_pick)
  obtain ⟨fd__law_odd, G__law_odd⟩ := c.def_ 12 (d := dz__law_odd)
  obtain ⟨fd__law_near, G__law_near⟩ := c.def_ 13 (d := dz__law_near)
  obtain ⟨fd__law_is_history, G__law_is_history⟩ := c.def_ 14 (d := dz__law_is_history)
  obtain ⟨fd__law_flag, G__law_flag⟩ := c.def_ 15 (d := dz__law_flag)
  obtain ⟨fd__law_allowed, G__law_allowed⟩ := c.def_ 16 (d := dz__law_allowed)
  obtain ⟨fd__law_same, G__law_same⟩ := c.def_ 17 (d := dz__law_same)
  obtain ⟨fd_check_limits, G_check_limits⟩ := c.def_ 18 (d := dz_check_limits)
  obtain ⟨fd_is_made_of, G_is_made_of⟩ := c.def_ 19 (d := dz_is_made_of)
  obtain ⟨fd_is_history, G_is_history⟩ := c.def_ 20 (d := dz_is_history)
  obtain ⟨fd_are_stays_long, G_are_stays_long⟩ := c.def_ 21 (d := dz_are_stays_long)
  obtain ⟨fd_flag_of, G_flag_of⟩ := c.def_ 22 (d := dz_flag_of)
  obtain ⟨fd_Limits_let, G_Limits_let⟩ := c.def_ 23 (d := dz_Limits_let)
  obtain ⟨fd_is_allowed, G_is_allowed⟩ := c.def_ 24 (d := dz_is_allowed)
  obtain ⟨fd__law_refused, G__law_refused⟩ := c.def_ 25 (d := dz__law_refused)
  obtain ⟨fd_law, G_law⟩ := c.def_ 26 (d := dz_law)
  obtain ⟨fd_Limits_settled, G_Limits_settled⟩ := c.def_ 27 (d := dz_Limits_settled)
  obtain ⟨fd_Limits_span, G_Limits_span⟩ := c.def_ 28 (d := dz_Limits_span)
  have e := hl.symm.trans (He.glo_ok X G (c.fact 60))
  cases e
  refine ⟨fd_law, fun s v => FunD.bindsA (ps := ["_law_script"]) G_law (fun _ _ _ _ _ _ us hl => match us, hl with | [_], _ => rfl) s [v] rfl, fun base => ?_⟩
  have hP_settled : ∃ pp ga fd, PropOf K (He.ga K "Limits") "settled" pp ga ∧ FnOk P w K mg base CX0 1 ga fd ["self"] (getSp (He.ga K "Limits") "least_stay") ∧ Binds K fd ["self"] [] := ⟨_, _, fd_Limits_settled, propB_ok hx10, fn_get G_Limits_settled Z.cl_Limits Z.n_Limits_least_stay ⟨rfl, rfl, rfl, by decide +kernel, rfl, by decide +kernel, by decide +kernel⟩ rfl, G_Limits_settled.bindsN fun _ _ _ _ _ _ us hl => match us, hl with | [_], _ => rfl⟩
  have hP_span : ∃ pp ga fd, PropOf K (He.ga K "Limits") "span" pp ga ∧ FnOk P w K mg base CX0 1 ga fd ["self"] (getSp (He.ga K "Limits") "most_checks") ∧ Binds K fd ["self"] [] := ⟨_, _, fd_Limits_span, propB_ok hx11, fn_get G_Limits_span Z.cl_Limits Z.n_Limits_most_checks ⟨rfl, rfl, rfl, by decide +kernel, rfl, by decide +kernel, by decide +kernel⟩ rfl, G_Limits_span.bindsN fun _ _ _ _ _ _ us hl => match us, hl with | [_], _ => rfl⟩
  have hG__law_pen : FnG P w K mg base 1 _ fd__law_pen ["_law_cell"] (spF0 K mg true 1 f__law_pen) := ok__law_pen Z  G__law_pen
  have hF__law_pen : FnC P w K mg base 1 "_law_pen" (spF0 K mg true 1 f__law_pen) ["_law_cell"] [] := ⟨_, _, [], hG__law_pen, He.glo_ok X G (c.fact 36), G__law_pen.kp, G__law_pen.bindsN fun _ _ _ _ _ _ us hl => (match us, hl with | [_], _ => rfl), .nil⟩
  have hG__law_cell_at : FnG P w K mg base 1 _ fd__law_cell_at ["_law_script", "_law_k"] (spF0 K mg false 2 f__law_cell_at) := ok__law_cell_at Z  G__law_cell_at
  have hF__law_cell_at : FnC P w K mg base 1 "_law_cell_at" (spF0 K mg false 2 f__law_cell_at) ["_law_script", "_law_k"] [] := ⟨_, _, [], hG__law_cell_at, He.glo_ok X G (c.fact 37), G__law_cell_at.kp, G__law_cell_at.bindsN fun _ _ _ _ _ _ us hl => (match us, hl with | [_, _], _ => rfl), .nil⟩
  have hG__law_draw : FnG P w K mg base 1 _ fd__law_draw ["_law_pen_here", "_law_many"] (spF1 K mg false 2 f__law_draw) := ok__law_draw Z  G__law_draw
  have hF__law_draw : FnC P w K mg base 1 "_law_draw" (spF1 K mg false 2 f__law_draw) ["_law_pen_here", "_law_many"] [] := ⟨_, _, [], hG__law_draw, He.glo_ok X G (c.fact 38), G__law_draw.kp, G__law_draw.bindsN fun _ _ _ _ _ _ us hl => (match us, hl with | [_, _], _ => rfl), .nil⟩
  have hG__law_numbers : FnG P w K mg base 2 _ fd__law_numbers ["_law_pen_here", "_law_most"] (spF1 K mg false 2 f__law_numbers) := ok__law_numbers Z hF__law_draw G__law_numbers
  have hF__law_numbers : FnC P w K mg base 2 "_law_numbers" (spF1 K mg false 2 f__law_numbers) ["_law_pen_here", "_law_most"] [] := ⟨_, _, [], hG__law_numbers, He.glo_ok X G (c.fact 39), G__law_numbers.kp, G__law_numbers.bindsN fun _ _ _ _ _ _ us hl => (match us, hl with | [_, _], _ => rfl), .nil⟩
  have hG_is_integer : FnG P w K mg base 1 _ fd_is_integer ["value"] (spF0 K mg false 1 f_is_integer) := ok_is_integer Z  G_is_integer
  have hF_is_integer : FnC P w K mg base 1 "is_integer" (spF0 K mg false 1 f_is_integer) ["value"] [] := ⟨_, _, [], hG_is_integer, He.glo_ok X G (c.fact 40), G_is_integer.kp, G_is_integer.bindsN fun _ _ _ _ _ _ us hl => (match us, hl with | [_], _ => rfl), .nil⟩
  have hG_is_between : FnG P w K mg base 2 _ fd_is_between ["value", "low", "high"] (spF0 K mg false 3 f_is_between) := ok_is_between Z hF_is_integer G_is_between
  have hF_is_between : FnC P w K mg base 2 "is_between" (spF0 K mg false 3 f_is_between) ["value", "low", "high"] [] := ⟨_, _, [], hG_is_between, He.glo_ok X G (c.fact 41), G_is_between.kp, G_is_between.bindsN fun _ _ _ _ _ _ us hl => (match us, hl with | [_, _, _], _ => rfl), .nil⟩
  have hG_LimitsU_initU : FnG P w K mg base 3 _ fd_LimitsU_initU ["self", "false_passes", "false_fails", "span", "settled"] (spF1 K mg false 5 f_LimitsU_initU) := ok_LimitsU_initU Z hF_is_between G_LimitsU_initU
  obtain ⟨mv_Limits_3_settled, kb_Limits_3_settled⟩ := G_LimitsU_initU.kbinds0 (ps := ["self", "false_passes", "false_fails", "span", "settled"]) 4 ["settled"] [] (fun us mv ws => us ++ ws) (by decide) (fun q hq => by cases hq) (fun r1 r2 r3 => r1.append r3) (fun D doc pm an cdv ct us mv ws l1 l2 l3 => match us, mv, ws, l1, l2, l3 with | [_, _, _, _], [], [_], _, _, _ => rfl)
  have hM_Limits_3_settled : ∃ f fd g, Mk K (He.ga K "Limits") f ∧ FnG P w K mg base 3 f fd ["self", "false_passes", "false_fails", "span", "settled"] (spF1 K mg false 5 f_LimitsU_initU) ∧ KBn K fd ["self", "false_passes", "false_fails", "span", "settled"] 4 ["settled"] g gV_Limits_3_settled := ⟨_, _, _, He.mkr_ok (c.fact 35), hG_LimitsU_initU, kb_Limits_3_settled⟩
  have hG__law_limits : FnG P w K mg base 5 _ fd__law_limits ["_law_numbers_here"] (spF0 K mg false 1 f__law_limits) := ok__law_limits Z hM_Limits_3_settled G__law_limits
  have hF__law_limits : FnC P w K mg base 5 "_law_limits" (spF0 K mg false 1 f__law_limits) ["_law_numbers_here"] [] := ⟨_, _, [], hG__law_limits, He.glo_ok X G (c.fact 42), G__law_limits.kp, G__law_limits.bindsN fun _ _ _ _ _ _ us hl => (match us, hl with | [_], _ => rfl), .nil⟩
  have hG__law_let : FnG P w K mg base 1 _ fd__law_let ["_law_numbers_here", "_law_flags"] (spF0 K mg false 2 f__law_let) := ok__law_let Z  G__law_let
  have hF__law_let : FnC P w K mg base 1 "_law_let" (spF0 K mg false 2 f__law_let) ["_law_numbers_here", "_law_flags"] [] := ⟨_, _, [], hG__law_let, He.glo_ok X G (c.fact 43), G__law_let.kp, G__law_let.bindsN fun _ _ _ _ _ _ us hl => (match us, hl with | [_, _], _ => rfl), .nil⟩
  have hG__law_history : FnG P w K mg base 2 _ fd__law_history ["_law_pen_here", "_law_numbers_here", "_law_size"] (spF1 K mg false 3 f__law_history) := ok__law_history Z hF__law_draw hF__law_let G__law_history
  have hF__law_history : FnC P w K mg base 2 "_law_history" (spF1 K mg false 3 f__law_history) ["_law_pen_here", "_law_numbers_here", "_law_size"] [] := ⟨_, _, [], hG__law_history, He.glo_ok X G (c.fact 44), G__law_history.kp, G__law_history.bindsN fun _ _ _ _ _ _ us hl => (match us, hl with | [_, _, _], _ => rfl), .nil⟩
  have hG__law_checks : FnG P w K mg base 2 _ fd__law_checks ["_law_pen_here", "_law_most"] (spF1 K mg false 2 f__law_checks) := ok__law_checks Z hF__law_draw G__law_checks
  have hF__law_checks : FnC P w K mg base 2 "_law_checks" (spF1 K mg false 2 f__law_checks) ["_law_pen_here", "_law_most"] [] := ⟨_, _, [], hG__law_checks, He.glo_ok X G (c.fact 45), G__law_checks.kp, G__law_checks.bindsN fun _ _ _ _ _ _ us hl => (match us, hl with | [_, _], _ => rfl), .nil⟩
  have hG__law_pick : FnG P w K mg base 2 _ fd__law_pick ["_law_pen_here", "_law_values"] (spF1 K mg false 2 f__law_pick) := ok__law_pick Z hF__law_draw G__law_pick
  have hF__law_pick : FnC P w K mg base 2 "_law_pick" (spF1 K mg false 2 f__law_pick) ["_law_pen_here", "_law_values"] [] := ⟨_, _, [], hG__law_pick, He.glo_ok X G (c.fact 46), G__law_pick.kp, G__law_pick.bindsN fun _ _ _ _ _ _ us hl => (match us, hl with | [_, _], _ => rfl), .nil⟩
  have hG__law_odd : FnG P w K mg base 3 _ fd__law_odd ["_law_pen_here"] (spF1 K mg false 1 f__law_odd) := ok__law_odd Z hF__law_pick G__law_odd
  have hF__law_odd : FnC P w K mg base 3 "_law_odd" (spF1 K mg false 1 f__law_odd) ["_law_pen_here"] [] := ⟨_, _, [], hG__law_odd, He.glo_ok X G (c.fact 47), G__law_odd.kp, G__law_odd.bindsN fun _ _ _ _ _ _ us hl => (match us, hl with | [_], _ => rfl), .nil⟩
  have hG__law_near : FnG P w K mg base 3 _ fd__law_near ["_law_pen_here", "_law_history_here"] (spF1 K mg false 2 f__law_near) := ok__law_near Z hF__law_draw hF__law_pick G__law_near
  have hF__law_near : FnC P w K mg base 3 "_law_near" (spF1 K mg false 2 f__law_near) ["_law_pen_here", "_law_history_here"] [] := ⟨_, _, [], hG__law_near, He.glo_ok X G (c.fact 48), G__law_near.kp, G__law_near.bindsN fun _ _ _ _ _ _ us hl => (match us, hl with | [_, _], _ => rfl), .nil⟩
  have hG__law_is_history : FnG P w K mg base 1 _ fd__law_is_history ["_law_value"] (spF0 K mg false 1 f__law_is_history) := ok__law_is_history Z  G__law_is_history
  have hF__law_is_history : FnC P w K mg base 1 "_law_is_history" (spF0 K mg false 1 f__law_is_history) ["_law_value"] [] := ⟨_, _, [], hG__law_is_history, He.glo_ok X G (c.fact 49), G__law_is_history.kp, G__law_is_history.bindsN fun _ _ _ _ _ _ us hl => (match us, hl with | [_], _ => rfl), .nil⟩
  have hG__law_flag : FnG P w K mg base 1 _ fd__law_flag ["_law_state", "_law_check"] (spF0 K mg false 2 f__law_flag) := ok__law_flag Z  G__law_flag
  have hF__law_flag : FnC P w K mg base 1 "_law_flag" (spF0 K mg false 2 f__law_flag) ["_law_state", "_law_check"] [] := ⟨_, _, [], hG__law_flag, He.glo_ok X G (c.fact 50), G__law_flag.kp, G__law_flag.bindsN fun _ _ _ _ _ _ us hl => (match us, hl with | [_, _], _ => rfl), .nil⟩
  have hG__law_allowed : FnG P w K mg base 2 _ fd__law_allowed ["_law_numbers_here", "_law_states", "_law_checks_here"] (spF0 K mg false 3 f__law_allowed) := ok__law_allowed Z hF__law_flag hF__law_let G__law_allowed
  have hF__law_allowed : FnC P w K mg base 2 "_law_allowed" (spF0 K mg false 3 f__law_allowed) ["_law_numbers_here", "_law_states", "_law_checks_here"] [] := ⟨_, _, [], hG__law_allowed, He.glo_ok X G (c.fact 51), G__law_allowed.kp, G__law_allowed.bindsN fun _ _ _ _ _ _ us hl => (match us, hl with | [_, _, _], _ => rfl), .nil⟩
  have hG__law_same : FnG P w K mg base 1 _ fd__law_same ["_law_found", "_law_due"] (spF0 K mg false 2 f__law_same) := ok__law_same Z  G__law_same
  have hF__law_same : FnC P w K mg base 1 "_law_same" (spF0 K mg false 2 f__law_same) ["_law_found", "_law_due"] [] := ⟨_, _, [], hG__law_same, He.glo_ok X G (c.fact 52), G__law_same.kp, G__law_same.bindsN fun _ _ _ _ _ _ us hl => (match us, hl with | [_, _], _ => rfl), .nil⟩
  have hG_check_limits : FnG P w K mg base 1 _ fd_check_limits ["value"] (spF0 K mg false 1 f_check_limits) := ok_check_limits Z  G_check_limits
  have hF_check_limits : FnC P w K mg base 1 "check_limits" (spF0 K mg false 1 f_check_limits) ["value"] [] := ⟨_, _, [], hG_check_limits, He.glo_ok X G (c.fact 53), G_check_limits.kp, G_check_limits.bindsN fun _ _ _ _ _ _ us hl => (match us, hl with | [_], _ => rfl), .nil⟩
  have hG_is_made_of : FnG P w K mg base 1 _ fd_is_made_of ["value", "signs"] (spF0 K mg false 2 f_is_made_of) := ok_is_made_of Z  G_is_made_of
  have hF_is_made_of : FnC P w K mg base 1 "is_made_of" (spF0 K mg false 2 f_is_made_of) ["value", "signs"] [] := ⟨_, _, [], hG_is_made_of, He.glo_ok X G (c.fact 54), G_is_made_of.kp, G_is_made_of.bindsN fun _ _ _ _ _ _ us hl => (match us, hl with | [_, _], _ => rfl), .nil⟩
  have hG_is_history : FnG P w K mg base 2 _ fd_is_history ["value"] (spF0 K mg false 1 f_is_history) := ok_is_history Z hF_is_made_of G_is_history
  have hF_is_history : FnC P w K mg base 2 "is_history" (spF0 K mg false 1 f_is_history) ["value"] [] := ⟨_, _, [], hG_is_history, He.glo_ok X G (c.fact 55), G_is_history.kp, G_is_history.bindsN fun _ _ _ _ _ _ us hl => (match us, hl with | [_], _ => rfl), .nil⟩
  have hG_are_stays_long : FnG P w K mg base 3 _ fd_are_stays_long ["limits", "states"] (spF0 K mg false 2 f_are_stays_long) := ok_are_stays_long Z hP_settled G_are_stays_long
  have hF_are_stays_long : FnC P w K mg base 3 "are_stays_long" (spF0 K mg false 2 f_are_stays_long) ["limits", "states"] [] := ⟨_, _, [], hG_are_stays_long, He.glo_ok X G (c.fact 56), G_are_stays_long.kp, G_are_stays_long.bindsN fun _ _ _ _ _ _ us hl => (match us, hl with | [_, _], _ => rfl), .nil⟩
  have hG_flag_of : FnG P w K mg base 1 _ fd_flag_of ["state", "check"] (spF0 K mg false 2 f_flag_of) := ok_flag_of Z  G_flag_of
  have hF_flag_of : FnC P w K mg base 1 "flag_of" (spF0 K mg false 2 f_flag_of) ["state", "check"] [] := ⟨_, _, [], hG_flag_of, He.glo_ok X G (c.fact 57), G_flag_of.kp, G_flag_of.bindsN fun _ _ _ _ _ _ us hl => (match us, hl with | [_, _], _ => rfl), .nil⟩
  have hG_Limits_let : FnG P w K mg base 1 _ fd_Limits_let ["self", "flags"] (spF0 K mg false 2 f_Limits_let) := ok_Limits_let Z  G_Limits_let
  have hO_Limits_let : ∃ fa fd, Meth K (He.ga K "Limits") "let" fa ∧ FnG P w K mg base 1 fa fd ["self", "flags"] (spF0 K mg false 2 f_Limits_let) ∧ Binds K fd ["self", "flags"] [] := ⟨_, _, He.meth_ok (c.fact 34), hG_Limits_let, G_Limits_let.bindsN fun _ _ _ _ _ _ us hl => (match us, hl with | [_, _], _ => rfl)⟩
  have hG_is_allowed : FnG P w K mg base 4 _ fd_is_allowed ["limits", "value"] (spF0 K mg false 2 f_is_allowed) := ok_is_allowed Z hF_check_limits hF_is_history hF_are_stays_long hF_flag_of hO_Limits_let hP_span G_is_allowed
  have hF_is_allowed : FnC P w K mg base 4 "is_allowed" (spF0 K mg false 2 f_is_allowed) ["limits", "value"] [] := ⟨_, _, [], hG_is_allowed, He.glo_ok X G (c.fact 58), G_is_allowed.kp, G_is_allowed.bindsN fun _ _ _ _ _ _ us hl => (match us, hl with | [_, _], _ => rfl), .nil⟩
  have hG__law_refused : FnG P w K mg base 5 _ fd__law_refused ["_law_limits_here", "_law_value"] (spF0 K mg false 2 f__law_refused) := ok__law_refused Z hF_is_allowed G__law_refused
  have hF__law_refused : FnC P w K mg base 5 "_law_refused" (spF0 K mg false 2 f__law_refused) ["_law_limits_here", "_law_value"] [] := ⟨_, _, [], hG__law_refused, He.glo_ok X G (c.fact 59), G__law_refused.kp, G__law_refused.bindsN fun _ _ _ _ _ _ us hl => (match us, hl with | [_, _], _ => rfl), .nil⟩
  exact ok_law Z hF__law_pen hF__law_cell_at hF__law_numbers hF__law_limits hF__law_history hF__law_draw hF__law_checks hF__law_odd hF__law_near hF__law_is_history hF__law_allowed hF__law_same hF_is_allowed hF__law_refused G_law
end
end Lw
namespace Lw
open PySem hiding start
open PySem.Spec L2 Sr
open PyProof.Rows hiding St
abbrev R : PySem.W.OpenRow := PySem.W.OpenLaw.row PySem.Challenge.rw_statusrules_k18_histories_allowed
abbrev hk : PySem.W.Hook := hookZ 6 fa fn ex
def ob (s : PySem.W.SharedT) : AlZ := obsZ 6 fa fn ex (HandSHeadRun.getT s)
theorem ob_eq (s : PySem.W.SharedT) : ob s = hk.obs s.abs := obsZ_eq (HandSHeadRun.getT_eq s)
def lo : List Str := (["StatusError", "NumberError", "LimitsError", "UP", "DOWN", "PASS", "FAIL", "is_integer", "is_between", "is_made_of", "MOST_FALSE", "MOST_SPAN", "MOST_SETTLED", "FALSE_PASS", "FALSE_FAIL", "NO_ERROR", "Limits", "check_limits", "flag_of", "is_history", "are_stays_long", "is_allowed", "_law_cell_at", "_law_pen", "_law_draw", "_law_numbers", "_law_limits", "_law_let", "_law_history", "_law_flag"] : List Str) ++ (["_law_allowed", "_law_checks", "_law_pick", "_law_odd", "_law_same", "_law_is_history", "_law_near", "_law_refused", "__name__"] : List Str)
theorem run (w : World) : HandSHeadRun.RunEq R (PySem.W.view R.prog [42]) hk ob 20000 lo w := by
  intro os
  kernel_rfl
end Lw
open PySem PySem.W PySem.Calls PyProof.Rows
theorem PySem.Challenge.cw_statusrules_k18_histories_allowed_holds : PySem.Challenge.rw_statusrules_k18_histories_allowed.Holds := by
  w_on; o_law
  refine HandSHeadRun.head_any (r := OpenLaw.row PySem.Challenge.rw_statusrules_k18_histories_allowed) (q := view (OpenLaw.row PySem.Challenge.rw_statusrules_k18_histories_allowed).prog [42]) (H := Lw.hk) (ob := Lw.ob) (M := 20000) (loose := Lw.lo) (d := HandSHeadRun.topDef (OpenLaw.row PySem.Challenge.rw_statusrules_k18_histories_allowed).prog 42) (kwd := []) Lw.ob_eq
    (by kernel_rfl) (fun s => by kernel_rfl) Lw.run (by kernel_rfl) (by kernel_rfl) (by kernel_rfl) (by rfl) (by first | assumption | decide +kernel) (by decide +kernel) ⟨rfl, rfl, rfl, rfl, rfl, by decide +kernel⟩ ?hw ?hc
  case hw => w_witness2
  case hc =>
    refine Sr.walk_g (l := PySem.Challenge.rw_statusrules_k18_histories_allowed) (n := 63) (k := 6) (x := "_law_script") rfl (by decide) (by kernel_rfl) ⟨rfl, by decide, by decide⟩ ?F
    intro w mg fa h Y G hm0
    obtain ⟨K, KX, c⟩ := Y
    have hm : mg ("law" : PySem.Str) = some (.ref fa) := by
      have e : (HandSHeadRun.topDef (OpenLaw.row PySem.Challenge.rw_statusrules_k18_histories_allowed).prog 42).name = ("law" : PySem.Str) := by kernel_rfl
      rw [← e]
      exact hm0
    obtain ⟨fd, hb, hF⟩ := Lw.all_mk (P := (PySem.Challenge.rw_statusrules_k18_histories_allowed).prog) (w := w) KX G hm c
    refine ⟨K, fd, _, KX, hb, fun H a ns hl hS => ?_, fun base _ _ => hF base⟩
    exact Sr.law_true (Lw.law_holds ns hl) hS
