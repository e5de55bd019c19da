import PyProof.Rows.All
import Wide.All
import OpenK.AllK
import Wide.FinOn
import HandS.ForMost
import HandS.Walk
import HandS.HotCalls
import HandS.Exc
import HandS.CallSlots
import HandS.WordsExc
import HandS.Lambda
import KE.KDictKeyed
import PyProof.DictRoadsH
import HandS.TupAny
import HandS.IsInst
import HandS.Deep
import HandS.TupLe
import HandS.Style
import HandS.Defaults
import HandS.MakeKwOnly
import HandS.Property
import HandS.HeadEnd
import HandS.Ends
import Lean
import HandS.Head0
import HandS.Head1
import HandS.Head2
import HandS.HeadHook1
import HandS.HeadHook2
import HandS.Comp
import HandS.ExcOwn
import HandS.ExcIs
import HandS.TryOnly
import HandS.Text
import HandS.List
import HandS.StrMore
import HandS.RaiseMore
import HandS.FStr
import HandS.Dict
import HandS.Zip
import HandS.TupMul
import HandS.RevRange
import HandS.TupLen
import HandS.ClsMeth
import KE.KCallOwn
import KE.KOpsOwn
import KE.GoesEnum
import PyProof.ListStr
import PyProof.ListMulRight
import PyProof.Rows.ListMulR
import PyProof.Rows.StrIntSpec
import OpenK.KOwn
import KE.GoesMore
import HandS.More
import HandS.Strs
import HandS.Hot
import HandS.HeadHook4
import HandS.EndTab
import KE.OsSortAny
import PyProof.Rows.SortShellAny
import PyProof.Rows.StrMeet
import HandS.DictComp
import KE.KDictList
import HandS.Conv
import HandS.Sort
import HandS.Bytes
import HandS.BytesMake
import HandS.ToBytes
import HandS.Iter
import KE.BytesMulAny
import KE.KBytesStep
import PyProof.StrLawsRepr
import PyProof.Rows.RegReprOcc
import PySem.Challenge.RW_statusrules_k52_fewest_errors
set_option Elab.async false
set_option autoImplicit false
set_option linter.all false
set_option maxHeartbeats 4000000
set_option maxRecDepth 100000
namespace Sr
open PySem PySem.Spec L2
inductive D where
  | non
  | bl (b : Bool)
  | int (i : Int)
  | str (x : Str)
  | byt (b : Array UInt8)
  | lst (xs : List D)
  | tup (xs : List D)
  | dk (kvs : List (Key × D))
  | dt (kvs : List (List Key × D))
  | obj (c : Str) (fs : List (Str × D))
  | scr (ns : List Int)
  | ct (xs : List D)
  | dl (ks : List (List Key))
instance : Inhabited D := ⟨.non⟩
section
variable (K : PySem.W.Frag) (mg : Str → Option Value) (F : Hp)
mutual
def Rp : D → V → Prop
  | .non, v => v = .non
  | .bl b, v => v = .bl b
  | .int i, v => v = .int i
  | .str x, v => v = .str x
  | .byt b, v => v = .byt b
  | .lst ds, v => ∃ a xs, v = .ref a ∧ F a = some (.lst xs) ∧ RpL ds xs
  | .tup ds, v => ∃ a xs, v = .ref a ∧ F a = some (.tup xs) ∧ RpL ds xs
  | .ct ds, v => ∃ a xs, v = .ref a ∧ SqT K F a xs ∧ RpL ds xs
  | .dk kvs, v => ∃ a ys, v = .ref a ∧ Rd F a (.dK ys) ∧ RpK kvs ys
  | .dt kvs, v => ∃ a ys, v = .ref a ∧ F a = some (.dT ys) ∧ RpT kvs ys
  | .obj c fs, v => ∃ a C dx gs, v = .ref a ∧ mg c = some (.ref C) ∧ F a = some (.ins C dx gs) ∧ RpF fs gs
  | .scr ns, v => ∃ a, v = .ref a ∧ SqL K F a (ns.map V.int)
  | .dl _, v => ∃ a φ, v = .ref a ∧ F a = some (.ext φ)
def RpL : List D → List V → Prop
  | [], xs => xs = []
  | d :: ds, xs => ∃ v vs, xs = v :: vs ∧ Rp d v ∧ RpL ds vs
def RpK : List (Key × D) → List (Key × V) → Prop
  | [], xs => xs = []
  | (k, d) :: ds, xs => ∃ v vs, xs = (k, v) :: vs ∧ Rp d v ∧ RpK ds vs
def RpT : List (List Key × D) → List (List Key × V) → Prop
  | [], xs => xs = []
  | (k, d) :: ds, xs => ∃ v vs, xs = (k, v) :: vs ∧ Rp d v ∧ RpT ds vs
def RpF : List (Str × D) → List (Str × V) → Prop
  | [], xs => xs = []
  | (k, d) :: ds, xs => ∃ v vs, xs = (k, v) :: vs ∧ Rp d v ∧ RpF ds vs
end
end
theorem seqC_mono {K : PySem.W.Frag} {H H' : Hp} {a : Addr} {xs : List V} (e : Same H H') (h : SqT K H a xs) : SqT K H' a xs := by
  rcases h with (h | ⟨o, h⟩) | h
  · exact .inl (.inl (e _ _ h))
  · exact .inl (.inr ⟨o, e _ _ h⟩)
  · exact .inr h
theorem rd_mono {H H' : Hp} {a : Addr} {u : HO} (e : Same H H') (h : Rd H a u) : Rd H' a u := by
  rcases h with h | ⟨o, h⟩
  · exact .inl (e _ _ h)
  · exact .inr ⟨o, e _ _ h⟩
section
variable {K : PySem.W.Frag} {mg : Str → Option Value} {F F' : Hp}
mutual
theorem Rp.mono (s : Same F F') : ∀ (d : D) (v : V), Rp K mg F d v → Rp K mg F' d v
  | .non, v, h => h
  | .bl b, v, h => h
  | .int i, v, h => h
  | .str x, v, h => h
  | .byt b, v, h => h
  | .lst ds, v, h => by
    unfold Rp at h ⊢
    obtain ⟨a, xs, e, q, r⟩ := h
    exact ⟨a, xs, e, s _ _ q, RpL.mono s ds xs r⟩
  | .tup ds, v, h => by
    unfold Rp at h ⊢
    obtain ⟨a, xs, e, q, r⟩ := h
    exact ⟨a, xs, e, s _ _ q, RpL.mono s ds xs r⟩
  | .ct ds, v, h => by
    unfold Rp at h ⊢
    obtain ⟨a, xs, e, q, r⟩ := h
    exact ⟨a, xs, e, seqC_mono s q, RpL.mono s ds xs r⟩
  | .dk ds, v, h => by
    unfold Rp at h ⊢
    obtain ⟨a, xs, e, q, r⟩ := h
    exact ⟨a, xs, e, rd_mono s q, RpK.mono s ds xs r⟩
  | .dt ds, v, h => by
    unfold Rp at h ⊢
    obtain ⟨a, xs, e, q, r⟩ := h
    exact ⟨a, xs, e, s _ _ q, RpT.mono s ds xs r⟩
  | .obj c fs, v, h => by
    unfold Rp at h ⊢
    obtain ⟨a, C, dx, gs, e, m, q, r⟩ := h
    exact ⟨a, C, dx, gs, e, m, s _ _ q, RpF.mono s fs gs r⟩
  | .scr ns, v, h => by
    unfold Rp at h ⊢
    obtain ⟨a, e, q⟩ := h
    exact ⟨a, e, s.seq q⟩
  | .dl ks, v, h => by
    unfold Rp at h ⊢
    obtain ⟨a, φ, e, q⟩ := h
    exact ⟨a, φ, e, s _ _ q⟩
theorem RpL.mono (s : Same F F') : ∀ (ds : List D) (xs : List V), RpL K mg F ds xs → RpL K mg F' ds xs
  | [], xs, h => h
  | d :: ds, xs, h => by
    unfold RpL at h ⊢
    obtain ⟨v, vs, e, r, q⟩ := h
    exact ⟨v, vs, e, Rp.mono s d v r, RpL.mono s ds vs q⟩
theorem RpK.mono (s : Same F F') : ∀ (ds : List (Key × D)) (xs : List (Key × V)), RpK K mg F ds xs → RpK K mg F' ds xs
  | [], xs, h => h
  | (k, d) :: ds, xs, h => by
    unfold RpK at h ⊢
    obtain ⟨v, vs, e, r, q⟩ := h
    exact ⟨v, vs, e, Rp.mono s d v r, RpK.mono s ds vs q⟩
theorem RpT.mono (s : Same F F') : ∀ (ds : List (List Key × D)) (xs : List (List Key × V)), RpT K mg F ds xs → RpT K mg F' ds xs
  | [], xs, h => h
  | (k, d) :: ds, xs, h => by
    unfold RpT at h ⊢
    obtain ⟨v, vs, e, r, q⟩ := h
    exact ⟨v, vs, e, Rp.mono s d v r, RpT.mono s ds vs q⟩
theorem RpF.mono (s : Same F F') : ∀ (ds : List (Str × D)) (xs : List (Str × V)), RpF K mg F ds xs → RpF K mg F' ds xs
  | [], xs, h => h
  | (k, d) :: ds, xs, h => by
    unfold RpF at h ⊢
    obtain ⟨v, vs, e, r, q⟩ := h
    exact ⟨v, vs, e, Rp.mono s d v r, RpF.mono s ds vs q⟩
end
end
end Sr
namespace Sr
open PySem PySem.Spec L2
class TabL where
  l : List (Addr × Str)
  P : Program
  w : World
def kL : Key → Leaf
  | .inl i => .num i
  | .inr x => .text x
def LKy (P : Program) (w : World) (a : Addr) (xs : List (List Key × Addr)) : HO := .ext fun h => xs.length ≤ sizeLine ∧ (a == sysModules) = false ∧
  ∃ o es ep, h.get? a = some o ∧ o.ExactDict ∧ o.data = .dict es ep ∧ es.toList = (xs.map fun x => (x.1.map kL, x.2, Value.bool true)).map (entryOfKey (tupleKind (leafKind P w))) ∧ ((xs.map fun x => (x.1.map kL, x.2, Value.bool true)).map (·.1)).Nodup
def kOf : V → Option Key
  | .int i => some (.inl i)
  | .bl b => some (.inl (if b then 1 else 0))
  | .str x => some (.inr x)
  | _ => none
abbrev NTb (o : HO) : Prop := ∀ ps, o ≠ .tbl ps
structure TbOk [TabL] (H F : Hp) : Prop where
  tabs : LamX.Tabs TabL.l H
  nt : ∀ a o, F a = some o → NTb o
  all : ∀ a ps, H a = some (.tbl ps) → ∃ q ∈ TabL.l, q.1 = a
variable [TabL]
inductive Sl where
  | no
  | val (d : D)
  | own (d : D)
abbrev En := List Sl
structure Ex where
  c : Str
  fs : List (Str × D)
inductive Out (A : Type) where
  | ok (a : A) (e : En)
  | exc (x : Ex) (e : En)
  | bad
abbrev M (A : Type) := En → Out A
def bnd {A B : Type} (m : M A) (f : A → M B) : M B := fun e => match m e with
  | .ok a e1 => f a e1
  | .exc x e1 => .exc x e1
  | .bad => .bad
def ret {A : Type} (a : A) : M A := fun e => .ok a e
def opt {A : Type} (o : Option A) : M A := fun e => match o with
  | some a => .ok a e
  | none => .bad
section
variable (K : PySem.W.Frag) (mg : Str → Option Value)
def OwnAt (H F : Hp) (p : Addr) : D → Prop
  | .lst ds => ∃ xs, H p = some (.lst xs) ∧ RpL K mg F ds xs
  | .dk ds => ∃ xs, H p = some (.dK xs) ∧ RpK K mg F ds xs
  | .dt ds => ∃ xs, H p = some (.dT xs) ∧ RpT K mg F ds xs
  | .obj c fs => ∃ C dx gs, mg c = some (.ref C) ∧ H p = some (.ins C dx gs) ∧ RpF K mg F fs gs
  | .dl ks => ∃ xs : List (List Key × Addr), H p = some (LKy TabL.P TabL.w p xs) ∧ xs.map (·.1) = ks ∧ ∀ x ∈ xs, ∃ vs, F x.2 = some (.tup vs) ∧ vs.map kOf = x.1.map some
  | _ => False
end
def Ow (e : En) (σ : St) (a : Addr) : Prop := ∃ (i : Nat) (d : D), e[i]? = some (Sl.own d) ∧ σ[i]? = some (some (V.ref a))
abbrev Pn := List (Nat × Addr)
structure ER (K : PySem.W.Frag) (mg : Str → Option Value) (T : Pn) (e : En) (σ : St) (H F : Hp) : Prop where
  sub : Same F H
  val : ∀ (i : Nat) (d : D), e[i]? = some (.val d) → ∃ v, σ[i]? = some (some v) ∧ Rp K mg F d v
  own : ∀ (i : Nat) (d : D), e[i]? = some (.own d) → ∃ p, σ[i]? = some (some (.ref p)) ∧ F p = none ∧ OwnAt K mg H F p d
  inj : ∀ (i j : Nat) (p : Addr) (d d' : D), e[i]? = some (.own d) → e[j]? = some (.own d') → σ[i]? = some (some (.ref p)) → σ[j]? = some (some (.ref p)) → i = j
  len : e.length = σ.length
  pin : ∀ q ∈ T, σ[q.1]? = some (some (.ref q.2))
  tb : TbOk H F
structure Mv (e : En) (σ : St) (H F : Hp) (e' : En) (σ' : St) (H' F' : Hp) : Prop where
  sub : Same F F'
  keep : ∀ a o, H a = some o → ¬ Ow e σ a → (NTb o → H' a = some o) ∧ ¬ Ow e' σ' a
  new : ∀ a o, F' a = some o → F a = some o ∨ H a = none ∨ Ow e σ a
  there : ∀ a, H' a = none → H a = none
theorem Mv.refl {e : En} {σ : St} {H F : Hp} : Mv e σ H F e σ H F := ⟨Same.refl _, fun _ _ h n => ⟨fun _ => h, n⟩, fun _ _ h => .inl h, fun _ h => h⟩
theorem Mv.trans {e e1 e2 : En} {σ σ1 σ2 : St} {H F H1 F1 H2 F2 : Hp} (a : Mv e σ H F e1 σ1 H1 F1) (b : Mv e1 σ1 H1 F1 e2 σ2 H2 F2) : Mv e σ H F e2 σ2 H2 F2 := by
  refine ⟨a.sub.trans b.sub, fun c o h n => ?_, fun c o h => ?_, fun c h => a.there c (b.there c h)⟩
  · obtain ⟨h1, n1⟩ := a.keep c o h n
    refine ⟨fun z => (b.keep c o (h1 z) n1).1 z, ?_⟩
    cases q : H1 c with
    | none => rw [a.there c q] at h; cases h
    | some u => exact (b.keep c u q n1).2
  · rcases b.new c o h with h1 | h1 | h1
    · exact a.new c o h1
    · exact .inr (.inl (a.there c h1))
    · cases q : H c with
      | none => exact .inr (.inl rfl)
      | some u =>
        by_cases w : Ow e σ c
        · exact .inr (.inr w)
        · exact absurd h1 (a.keep c u q w).2
def Al (H F H' F' : Hp) : Prop := (H' = H ∧ F' = F) ∨ ∃ p o, H p = none ∧ H' = upd H p o ∧ F' = upd F p o ∧ NTb o
theorem Al.refl {H F : Hp} : Al H F H F := .inl ⟨rfl, rfl⟩
theorem same_upd {H : Hp} {p : Addr} {o : HO} (h : H p = none) : Same H (upd H p o) := fun b u e => by
  rw [upd_ne (ne_of_none e h)]; exact e
theorem Al.same {H F H' F' : Hp} (s : Same F H) (a : Al H F H' F') : Same F F' ∧ Same H H' ∧ Same F' H' := by
  rcases a with ⟨rfl, rfl⟩ | ⟨p, o, h, rfl, rfl, _⟩
  · exact ⟨Same.refl _, Same.refl _, s⟩
  · refine ⟨same_upd (s.free h), same_upd h, fun b u e => ?_⟩
    by_cases hb : b = p
    · subst hb; rw [upd_same] at e ⊢; exact e
    · rw [upd_ne hb] at e ⊢; exact s b u e
theorem TbOk.updF {H F : Hp} (t : TbOk H F) {p : Addr} {o : HO} (n : NTb o) : TbOk H (upd F p o) := ⟨t.tabs, fun a u h => by
  by_cases hb : a = p
  · subst hb; rw [upd_same] at h; cases h; exact n
  · rw [upd_ne hb] at h; exact t.nt a u h, t.all⟩
theorem TbOk.push {H F : Hp} (t : TbOk H F) {p : Addr} {o : HO} (h : H p = none) (n : NTb o) : TbOk (upd H p o) F := ⟨t.tabs.ext (same_upd h), t.nt, fun a ps z => by
  by_cases hb : a = p
  · subst hb; rw [upd_same] at z; cases z; exact (n ps rfl).elim
  · rw [upd_ne hb] at z; exact t.all a ps z⟩
theorem TbOk.al {H F H' F' : Hp} (t : TbOk H F) (a : Al H F H' F') : TbOk H' F' := by
  rcases a with ⟨rfl, rfl⟩ | ⟨p, o, h, rfl, rfl, n⟩
  · exact t
  · exact (t.push h n).updF n
section
variable {K : PySem.W.Frag} {mg : Str → Option Value} {T : Pn} {e e' : En} {σ σ' : St} {H F H' F' : Hp} {p a : Addr} {d : D} {v : V}
theorem OwnAt.nt (h : OwnAt K mg H F p d) {o : HO} (ho : H p = some o) : NTb o := by
  cases d <;> try (exact h.elim)
  · obtain ⟨xs, h1, h2⟩ := h; rw [h1] at ho; cases ho; exact fun _ z => nomatch z
  · obtain ⟨xs, h1, h2⟩ := h; rw [h1] at ho; cases ho; exact fun _ z => nomatch z
  · obtain ⟨xs, h1, h2⟩ := h; rw [h1] at ho; cases ho; exact fun _ z => nomatch z
  · obtain ⟨C, dx, xs, m, h1, h2⟩ := h; rw [h1] at ho; cases ho; exact fun _ z => nomatch z
  · obtain ⟨xs, h1, h2⟩ := h; rw [h1] at ho; cases ho; exact fun _ z => nomatch z
theorem OwnAt.keep (h : OwnAt K mg H F p d) (s : Same F F') (q : ∀ o, H p = some o → H' p = some o) : OwnAt K mg H' F' p d := by
  cases d <;> try (exact h.elim)
  · obtain ⟨xs, h1, h2⟩ := h
    exact ⟨xs, q _ h1, RpL.mono s _ _ h2⟩
  · obtain ⟨xs, h1, h2⟩ := h
    exact ⟨xs, q _ h1, RpK.mono s _ _ h2⟩
  · obtain ⟨xs, h1, h2⟩ := h
    exact ⟨xs, q _ h1, RpT.mono s _ _ h2⟩
  · obtain ⟨C, dx, xs, m, h1, h2⟩ := h
    exact ⟨C, dx, xs, m, q _ h1, RpF.mono s _ _ h2⟩
  · obtain ⟨xs, h1, h2, h3⟩ := h
    exact ⟨xs, q _ h1, h2, fun x hx => let ⟨vs, a, b⟩ := h3 x hx; ⟨vs, s _ _ a, b⟩⟩
theorem OwnAt.there (h : OwnAt K mg H F p d) : ∃ o, H p = some o := by
  cases d <;> try (exact h.elim)
  · obtain ⟨xs, h1, h2⟩ := h; exact ⟨_, h1⟩
  · obtain ⟨xs, h1, h2⟩ := h; exact ⟨_, h1⟩
  · obtain ⟨xs, h1, h2⟩ := h; exact ⟨_, h1⟩
  · obtain ⟨C, dx, xs, m, h1, h2⟩ := h; exact ⟨_, h1⟩
  · obtain ⟨xs, h1, h2⟩ := h; exact ⟨_, h1⟩
theorem ER.al (r : ER K mg T e σ H F) (a : Al H F H' F') : ER K mg T e σ H' F' := by
  obtain ⟨s1, s2, s3⟩ := a.same r.sub
  refine ⟨s3, fun i d h => ?_, fun i d h => ?_, r.inj, r.len, r.pin, r.tb.al a⟩
  · obtain ⟨v, h1, h2⟩ := r.val i d h
    exact ⟨v, h1, Rp.mono s1 _ _ h2⟩
  · obtain ⟨p, h1, h2, h3⟩ := r.own i d h
    refine ⟨p, h1, ?_, h3.keep s1 (s2 p)⟩
    obtain ⟨o, ho⟩ := h3.there
    rcases a with ⟨rfl, rfl⟩ | ⟨q, u, hq, rfl, rfl, nu⟩
    · exact h2
    · rw [upd_ne (ne_of_none ho hq)]; exact h2
theorem Mv.al (r : ER K mg T e σ H F) (a : Al H F H' F') : Mv e σ H F e σ H' F' := by
  obtain ⟨s1, s2, s3⟩ := a.same r.sub
  refine ⟨s1, fun b o h n => ⟨fun _ => s2 b o h, n⟩, fun b o h => ?_, fun b h => s2.free h⟩
  rcases a with ⟨rfl, rfl⟩ | ⟨q, u, hq, rfl, rfl, nu⟩
  · exact .inl h
  · by_cases hb : b = q
    · subst hb; exact .inr (.inl hq)
    · rw [upd_ne hb] at h; exact .inl h
end
def XR (K : PySem.W.Frag) (mg : Str → Option Value) (x : Ex) (cl : Value) (dd : Option Addr) (H F : Hp) : Prop :=
  mg x.c = some cl ∧ ((x.fs = [] ∧ dd = none) ∨ (x.fs ≠ [] ∧ ∃ a gs, dd = some a ∧ H a = some (.xd gs) ∧ RpF K mg F x.fs gs))
section
variable (K : PySem.W.Frag) (mg : Str → Option Value) (T : Pn) (W : WX)
def RunAt {A : Type} (e : En) (F : Hp) (m : M A) (σ : St) (H : Hp) (P : A → En → Hp → Hp → Prop) : Prop :=
  match m e with
  | .ok a e' => ∀ H' F', ER K mg T e' σ H' F' → Mv e σ H F e' σ H' F' → P a e' H' F'
  | .exc x e' => ∀ H' F' cl dd, ER K mg T e' σ H' F' → Mv e σ H F e' σ H' F' → XR K mg x cl dd H' F' → W cl dd σ H'
  | .bad => False
end
section
variable {K : PySem.W.Frag} {mg : Str → Option Value} {T : Pn} {W : WX} {A B : Type} {e : En} {σ : St} {H F : Hp}
theorem RunAt.mono {m : M A} {P P' : A → En → Hp → Hp → Prop} (h : RunAt K mg T W e F m σ H P) (hp : ∀ a e' H' F', ER K mg T e' σ H' F' → Mv e σ H F e' σ H' F' → P a e' H' F' → P' a e' H' F') : RunAt K mg T W e F m σ H P' := by
  unfold RunAt at h ⊢
  cases q : m e with
  | ok a e' =>
    rw [q] at h
    exact fun H' F' er mv => hp _ _ _ _ er mv (h H' F' er mv)
  | exc x e' => rw [q] at h; exact h
  | bad => rw [q] at h; exact h
theorem RunAt.fin {o : Option A} {P : A → En → Hp → Hp → Prop} (h : RunAt K mg T W e F (opt o) σ H P) (er : ER K mg T e σ H F) : ∃ a, o = some a ∧ ∀ H' F', Al H F H' F' → P a e H' F' := by
  unfold RunAt opt at h
  cases o with
  | none => exact h.elim
  | some a => exact ⟨a, rfl, fun H' F' al => h H' F' (er.al al) (Mv.al er al)⟩
end
end Sr
namespace Sr
variable [TabL]
open PySem PySem.Spec L2
open PyProof.Rows hiding St
inductive Bv where
  | val (d : D)
  | slot (i : Nat)
def BwR (K : PySem.W.Frag) (mg : Str → Option Value) (σ : St) (F : Hp) : Bv → V → Prop
  | .val d, v => Rp K mg F d v
  | .slot i, v => σ[i]? = some (some v)
section
variable {K : PySem.W.Frag} {mg : Str → Option Value} {T : Pn} {W : WX} {e : En} {σ : St} {H F F' : Hp} {b : Bv} {v : V}
theorem BwR.mono (s : Same F F') (h : BwR K mg σ F b v) : BwR K mg σ F' b v := by
  cases b with
  | val d => exact Rp.mono s _ _ h
  | slot i => exact h
end
section
variable {X : Cx} {T : Pn} {W : WX} {pos : Pos} {a b c : Expr} {ma mb mc : M D}
variable {rest : List Expr} {n n' : M Bool}
theorem RpL.isEmpty {K : PySem.W.Frag} {mg : Str → Option Value} {F : Hp} {ds : List D} {xs : List V} (h : RpL K mg F ds xs) : ds.isEmpty = xs.isEmpty := by
  cases ds with
  | nil => unfold RpL at h; subst h; rfl
  | cons d ds => unfold RpL at h; obtain ⟨v, vs, rfl, _⟩ := h; rfl
theorem RpK.isEmpty {K : PySem.W.Frag} {mg : Str → Option Value} {F : Hp} {ds : List (Key × D)} {xs : List (Key × V)} (h : RpK K mg F ds xs) : ds.isEmpty = xs.isEmpty := by
  cases ds with
  | nil => unfold RpK at h; subst h; rfl
  | cons d ds => obtain ⟨k, d⟩ := d; unfold RpK at h; obtain ⟨v, vs, rfl, _⟩ := h; rfl
theorem RpL.len {K : PySem.W.Frag} {mg : Str → Option Value} {F : Hp} : ∀ {ds : List D} {xs : List V}, RpL K mg F ds xs → ds.length = xs.length
  | [], xs, h => by unfold RpL at h; subst h; rfl
  | d :: ds, xs, h => by unfold RpL at h; obtain ⟨v, vs, rfl, _, q⟩ := h; rw [List.length_cons, List.length_cons, q.len]
end
theorem RunAt.new {K : PySem.W.Frag} {mg : Str → Option Value} {T : Pn} {W : WX} {e : En} {σ : St} {H F : Hp} {d : D} {P : D → En → Hp → Hp → Prop} {p : Addr} {o : HO} (h : RunAt K mg T W e F (ret d) σ H P) (er : ER K mg T e σ H F) (hp : H p = none) (nt : NTb o := by first | assumption | (intro _ z; exact nomatch z) | (intro _ z; cases z)) : P d e (upd H p o) F := by
  have s : Same H (upd H p o) := same_upd hp
  refine h _ F ⟨er.sub.trans s, er.val, fun i d q => ?_, er.inj, er.len, er.pin, er.tb.push hp nt⟩ ⟨Same.refl _, fun a u q n => ⟨fun _ => s a u q, n⟩, fun a u q => .inl q, fun a q => s.free q⟩
  obtain ⟨p', h1, h2, h3⟩ := er.own i d q
  exact ⟨p', h1, h2, h3.keep (Same.refl _) (s p')⟩
end Sr
namespace Sr
variable [TabL]
open PySem PySem.Spec L2
open PyProof.Rows hiding St
section
variable {K : PySem.W.Frag} {mg : Str → Option Value} {F H : Hp}
theorem rl_nil {xs : List V} : RpL K mg F [] xs ↔ xs = [] := by rw [RpL]
theorem rl_cons {d : D} {ds : List D} {xs : List V} : RpL K mg F (d :: ds) xs ↔ ∃ v vs, xs = v :: vs ∧ Rp K mg F d v ∧ RpL K mg F ds vs := by rw [RpL]
theorem RpL.append : ∀ {ds es : List D} {xs ys : List V}, RpL K mg F ds xs → RpL K mg F es ys → RpL K mg F (ds ++ es) (xs ++ ys)
  | [], es, xs, ys, h, q => by rw [rl_nil] at h; subst h; exact q
  | d :: ds, es, xs, ys, h, q => by
    rw [rl_cons] at h
    obtain ⟨v, vs, rfl, r, h⟩ := h
    rw [List.cons_append, rl_cons]
    exact ⟨v, vs ++ ys, rfl, r, RpL.append h q⟩
theorem RpL.take : ∀ (n : Nat) {ds : List D} {xs : List V}, RpL K mg F ds xs → RpL K mg F (ds.take n) (xs.take n)
  | 0, ds, xs, h => by simp [rl_nil]
  | n + 1, [], xs, h => by rw [rl_nil] at h; subst h; simp [rl_nil]
  | n + 1, d :: ds, xs, h => by
    rw [rl_cons] at h
    obtain ⟨v, vs, rfl, r, h⟩ := h
    rw [List.take_succ_cons, rl_cons]
    exact ⟨v, vs.take n, by simp, r, RpL.take n h⟩
theorem RpL.drop : ∀ (n : Nat) {ds : List D} {xs : List V}, RpL K mg F ds xs → RpL K mg F (ds.drop n) (xs.drop n)
  | 0, ds, xs, h => h
  | n + 1, [], xs, h => by rw [rl_nil] at h; subst h; simp [rl_nil]
  | n + 1, d :: ds, xs, h => by
    rw [rl_cons] at h
    obtain ⟨v, vs, rfl, r, h⟩ := h
    simp only [List.drop_succ_cons]
    exact RpL.drop n h
theorem RpL.set {d : D} {v : V} (r : Rp K mg F d v) : ∀ (i : Nat) {ds : List D} {xs : List V}, RpL K mg F ds xs → RpL K mg F (ds.set i d) (xs.set i v)
  | _, [], xs, h => by rw [rl_nil] at h; subst h; simp [rl_nil]
  | 0, d' :: ds, xs, h => by
    rw [rl_cons] at h
    obtain ⟨w, vs, rfl, _, h⟩ := h
    rw [List.set_cons_zero, List.set_cons_zero, rl_cons]
    exact ⟨v, vs, rfl, r, h⟩
  | i + 1, d' :: ds, xs, h => by
    rw [rl_cons] at h
    obtain ⟨w, vs, rfl, r', h⟩ := h
    rw [List.set_cons_succ, List.set_cons_succ, rl_cons]
    exact ⟨w, vs.set i v, rfl, r', RpL.set r i h⟩
end
section
variable {X : Cx} {T : Pn} {W : WX} {pos : Pos} {a b c : Expr} {ma mb mc : M D}
theorem RpK.len {K : PySem.W.Frag} {mg : Str → Option Value} {F : Hp} : ∀ {ds : List (Key × D)} {xs : List (Key × V)}, RpK K mg F ds xs → ds.length = xs.length
  | [], xs, h => by unfold RpK at h; subst h; rfl
  | (k, d) :: ds, xs, h => by unfold RpK at h; obtain ⟨v, vs, rfl, _, q⟩ := h; rw [List.length_cons, List.length_cons, q.len]
end
end Sr
namespace Sr
variable [TabL]
open PySem PySem.Spec L2
open PyProof.Rows hiding St
inductive Fl where
  | nx
  | rt (d : D)
  | ro (d : D)
  | bk
  | ct
section
variable (K : PySem.W.Frag) (mg : Str → Option Value) (T : Pn) (W : WX)
def RunS (e : En) (F : Hp) (s : M Fl) (σ : St) (H : Hp) (Dn : Ends) : Prop :=
  match s e with
  | .ok .nx e' => ∀ σ' H' F', ER K mg T e' σ' H' F' → Mv e σ H F e' σ' H' F' → Dn.nx σ' H'
  | .ok (.rt d) e' => ∀ σ' H' F' v, ER K mg T e' σ' H' F' → Mv e σ H F e' σ' H' F' → Rp K mg F' d v → Dn.rt v H'
  | .ok (.ro d) e' => ∀ σ' H' F' p, ER K mg T e' σ' H' F' → Mv e σ H F e' σ' H' F' → (H p = none ∨ Ow e σ p) → F' p = none → ¬ Ow e' σ' p → OwnAt K mg H' F' p d → Dn.rt (.ref p) H'
  | .ok .bk e' => ∀ σ' H' F', ER K mg T e' σ' H' F' → Mv e σ H F e' σ' H' F' → Dn.bk σ' H'
  | .ok .ct e' => ∀ σ' H' F', ER K mg T e' σ' H' F' → Mv e σ H F e' σ' H' F' → Dn.ct σ' H'
  | .exc x e' => ∀ σ' H' F' cl dd, ER K mg T e' σ' H' F' → Mv e σ H F e' σ' H' F' → XR K mg x cl dd H' F' → W cl dd σ' H'
  | .bad => False
end
end Sr
namespace Sr
variable [TabL]
open PySem hiding start
open PySem.Spec L2
open PyProof.Rows hiding St
inductive Rs where
  | ok (d o : D)
  | exc (x : Ex) (o : D)
  | bad
abbrev Fnc := D → List D → Rs
structure Fr (p : Option Addr) (H F H' F' : Hp) : Prop where
  sub : Same F F'
  fin : Same F' H'
  keep : ∀ a o, H a = some o → NTb o → p ≠ some a → H' a = some o
  new : ∀ a o, F' a = some o → F a = some o ∨ H a = none
  there : ∀ a, H' a = none → H a = none
  tb : TbOk H' F'
section
variable (K : PySem.W.Frag) (mg : Str → Option Value)
def Res (ro : Bool) (p : Option Addr) (d : D) (H : Hp) (Q : VK) (H' F' : Hp) : Prop :=
  if ro = true then ∀ q, H q = none → F' q = none → OwnAt K mg H' F' q d → Q (.ref q) H' else ∀ v, Rp K mg F' d v → Q v H'
def spF0 (ro : Bool) (n : Nat) (f : Fnc) : Sp := fun vs H Q E => ∃ (ds : List D) (F : Hp), Same F H ∧ TbOk H F ∧ RpL K mg F ds vs ∧ ds.length = n ∧
  match f .non ds with
  | .ok d _ => ∀ H' F', Fr none H F H' F' → Res K mg ro none d H Q H' F'
  | .exc x _ => ∀ H' F' cl dd, Fr none H F H' F' → XR K mg x cl dd H' F' → E cl dd H'
  | .bad => False
end
section
variable {P : Program} {w : World} {K : PySem.W.Frag} {mg : Str → Option Value} {base : Heap} {x qual : Str} {params : Arguments} {body : List Stmt} {scope : Scope} {dvs : List V} {kws : List (Str × V)} {f : Addr} {fd : FuncData}
structure FnG (P : Program) (w : World) (K : PySem.W.Frag) (mg : Str → Option Value) (base : Heap) (k : Nat) (f : Addr) (fd : FuncData) (ps : List Str) (sp : Sp) : Prop where
  len : ∀ vs H Q E, sp vs H Q E → vs.length = ps.length
  run : ∀ (A : Around) (outer : List Env) (s : Shared) (H : Hp) (args : Args) (us : List Value) (vs : List V) (Q : VK) (E : XK),
    Room k A → A.guards = some [] → Env0 P w K mg base A outer s H → BindsTo s fd args (ps.zip us) → Vals vs us → sp vs H Q E →
    codeAny (model P w) A (.call (.ref f) args) (CR (L2N.CX P w) outer P w H s Q E) s
theorem FnG.mono {P : Program} {w : World} {K : PySem.W.Frag} {mg : Str → Option Value} {base : Heap} {j k : Nat} {f : Addr} {fd : FuncData} {ps : List Str} {sp : Sp} (F : FnG P w K mg base j f fd ps sp) (h : j ≤ k) : FnG P w K mg base k f fd ps sp :=
  ⟨F.len, fun A outer s H args us vs Q E hr => F.run A outer s H args us vs Q E (hr.mono h)⟩
end
end Sr
namespace Sr
variable [TabL]
open PySem hiding start
open PySem.Spec L2
open PyProof.Rows hiding St
section
variable {K : PySem.W.Frag} {mg : Str → Option Value} {F : Hp}
theorem rf_nil {xs : List (Str × V)} : RpF K mg F [] xs ↔ xs = [] := by rw [RpF]
theorem rf_cons {k : Str} {d : D} {ds : List (Str × D)} {xs : List (Str × V)} : RpF K mg F ((k, d) :: ds) xs ↔ ∃ v vs, xs = (k, v) :: vs ∧ Rp K mg F d v ∧ RpF K mg F ds vs := by rw [RpF]
theorem RpF.len : ∀ {fs : List (Str × D)} {gs : List (Str × V)}, RpF K mg F fs gs → fs.length = gs.length
  | [], gs, h => by rw [rf_nil] at h; subst h; rfl
  | (k, x) :: fs, gs, h => by rw [rf_cons] at h; obtain ⟨v, vs, rfl, r, h⟩ := h; rw [List.length_cons, List.length_cons, h.len]
end
structure ClK (K : PySem.W.Frag) (mg : Str → Option Value) (c : Str) (C : Addr) : Prop where
  mg : mg c = some (.ref C)
  cl : Cls K C
abbrev Cl (X : Cx) (c : Str) (C : Addr) : Prop := ClK X.K X.mg c C
end Sr
namespace Sr
variable [TabL]
open PySem hiding start
open PySem.Spec L2
open PyProof.Rows hiding St
section
variable {X : Cx} {T : Pn} {W : WX} {pos : Pos} {a : Expr} {ma : M D}
inductive Kd where
  | non | bool | int | str | bytes | list | tuple | dict
  deriving DecidableEq
def Kd.nm : Kd → String
  | .non => "NoneType"
  | .bool => "bool"
  | .int => "int"
  | .str => "str"
  | .bytes => "bytes"
  | .list => "list"
  | .tuple => "tuple"
  | .dict => "dict"
end
end Sr
namespace Sr
open PySem hiding start
open PySem.Spec L2
open PyProof.Rows hiding St
structure DefZ where
  ad : PySem.W.Frag → Addr
  name : Str
  qual : Str
  st : Stmt
  kwd : List (Str × V) := []
def fnZ (K : PySem.W.Frag) (a : Addr) : He.FnW := match K.lookup a with
  | some ⟨_, _, .func fd, _⟩ => some (fd.name, fd.qualname, fd.params, fd.body, fd.scope, fd.globals, fd.closure, fd.builtins)
  | _ => none
def DefZ.val (d : DefZ) : He.FnW := some (d.name, d.qual, defArgs d.st, .stmts (defBody d.st), defScope d.st, mainGlobals, [], builtinsNs)
def DefZ.ok (K : PySem.W.Frag) (d : DefZ) : Bool := PySem.W.keepIn K (.ref (d.ad K)) && (match K.lookup (d.ad K) with
  | some ⟨_, _, .func fd, _⟩ => PySem.W.codeIn K fd.code d.qual && (He.dflB K fd.defaults [] && He.kwdB K fd.kwdefaults d.kwd)
  | _ => false)
abbrev AlZ : Type := Bool × List He.FnW
def obsK (fa : List He.Fa) (fn : List DefZ) (ex : PySem.W.Frag → Bool) (K : PySem.W.Frag) : AlZ := ((fa.all fun f => f.ok K) && ((fn.all fun d => d.ok K) && ex K), fn.map fun d => fnZ K (d.ad K))
def valZ (fn : List DefZ) : AlZ := (true, fn.map DefZ.val)
def SaysZ (fa : List He.Fa) (fn : List DefZ) (ex : PySem.W.Frag → Bool) (K : PySem.W.Frag) : Prop := obsK fa fn ex K = valZ fn
section
variable {fa : List He.Fa} {fn : List DefZ} {ex : PySem.W.Frag → Bool} {K : PySem.W.Frag}
theorem SaysZ.all (c : SaysZ fa fn ex K) : (fa.all fun f => f.ok K) = true ∧ (fn.all fun d => d.ok K) = true ∧ ex K = true := by
  obtain ⟨h1, h2⟩ := He.ba (show ((fa.all fun f => f.ok K) && ((fn.all fun d => d.ok K) && ex K)) = true from congrArg (fun z : AlZ => z.1) c)
  exact ⟨h1, He.ba h2⟩
end
def prG (K : PySem.W.Frag) (c f : Str) : Addr × Addr := match PySem.W.findIn K (.ref (He.ga K c)) f with
  | some (some (.ref p)) => (p, match PySem.W.recIn K p "property" with
    | some (.ref g :: _) => g
    | _ => 0)
  | _ => (0, 0)
def propB (K : PySem.W.Frag) (c f : Str) : Bool :=
  decide (PySem.W.findIn K (.ref (He.ga K c)) f = some (some (.ref (prG K c f).1))) && (decide (PySem.W.specialIn K (.ref (prG K c f).1) "__get__" = some (some (.builtin "property.__get__"))) && (decide (PySem.W.takesIn K (.ref (prG K c f).1) = some true) &&
    match PySem.W.recIn K (prG K c f).1 "property" with
    | some (.ref g :: _) => decide (g = (prG K c f).2)
    | _ => false))
def cliB (K : PySem.W.Frag) (c : Str) : Bool :=
  decide (PySem.W.findIn K (.ref (He.ga K c)) "__class__" = some (some (.builtin "object.__class__"))) && (decide (PySem.W.specialIn K (.builtin "object.__class__") "__get__" = some (some (.builtin "getset_descriptor.__get__"))) &&
    (decide (PySem.W.takesIn K (.builtin "object.__class__") = some true) && decide (PySem.W.mroIn K (He.ga K c) (.type "object") = some true)))
def allKd : List Kd := [.non, .bool, .int, .str, .bytes, .list, .tuple, .dict]
def noKd (K : PySem.W.Frag) (c : Str) : Bool := allKd.all fun k => decide (PySem.W.kitOne K (.type k.nm) (.ref (He.ga K c)) = some false)
def ownB (K : PySem.W.Frag) (u : Value) (l : List (Str × Bool)) : Bool := l.all fun q => decide (PySem.W.kitOne K (.ref (He.ga K q.1)) u = some q.2)
end Sr
namespace Sr
open PySem hiding start
open L2
section
variable {A B : Type}
@[simp] theorem bnd_ret {a : A} {f : A → M B} {e : En} : bnd (ret a) f e = f a e := rfl
@[simp] theorem bnd_opt {a : A} {f : A → M B} {e : En} : bnd (opt (some a)) f e = f a e := rfl
end
end Sr
namespace Sr
variable [TabL]
open PySem hiding start
open PySem.Spec L2
open PyProof.Rows hiding St
theorem RunAt.of {K : PySem.W.Frag} {mg : Str → Option Value} {T : Pn} {W : WX} {A : Type} {m : M A} {e e1 : En} {σ : St} {H F : Hp} {x : A} {P : A → En → Hp → Hp → Prop} (q : m e = .ok x e1) (h : ∀ H' F', ER K mg T e1 σ H' F' → Mv e σ H F e1 σ H' F' → P x e1 H' F') : RunAt K mg T W e F m σ H P := by
  unfold RunAt
  rw [q]
  exact h
end Sr
namespace Sr
variable [TabL]
open PySem hiding start
open PySem.Spec L2
open PyProof.Rows hiding St
section
variable {K : PySem.W.Frag} {mg : Str → Option Value} {T : Pn} {e : En} {σ : St} {H F : Hp} {i : Nat}
theorem ER.unpin {q : Nat × Addr} (er : ER K mg (q :: T) e σ H F) : ER K mg T e σ H F := ⟨er.sub, er.val, er.own, er.inj, er.len, fun z hz => er.pin z (List.mem_cons_of_mem _ hz), er.tb⟩
end
end Sr
namespace Sr
variable [TabL]
open PySem hiding start
open PySem.Spec L2
open PyProof.Rows hiding St
structure OwnM (X : Cx) (k : Nat) (c : Str) (C : Addr) (m : Str) (n : Nat) (ps : List Str) (f : Fnc) : Prop where
  cl : Cl X c C
  ex : ∃ fa fd, PySem.W.findIn X.K (.ref C) m = some (some (.ref fa)) ∧ PySem.W.isFn X.K (.ref fa) = true ∧ FnG X.prog X.w X.K X.mg X.base k fa fd ps (spF0 X.K X.mg false n f) ∧ Binds X.K fd ps []
end Sr
namespace Sr
variable [TabL]
open PySem hiding start
open PySem.Spec L2
open PyProof.Rows hiding St
theorem RpF.none {K : PySem.W.Frag} {mg : Str → Option Value} {F : Hp} {m : Str} : ∀ {fs : List (Str × D)} {gs : List (Str × V)}, RpF K mg F fs gs → fs.lookup m = none → gs.lookup m = none
  | [], gs, h, _ => by unfold RpF at h; subst h; rfl
  | (g, d) :: fs, gs, h, n => by
    unfold RpF at h
    obtain ⟨v, vs, rfl, _, h⟩ := h
    rw [List.lookup_cons] at n ⊢
    cases q : m == g with
    | true => rw [q] at n; cases n
    | false => rw [q] at n; exact RpF.none h n
structure OwnK (X : Cx) (k : Nat) (c : Str) (C : Addr) (m : Str) (n : Nat) (ps : List Str) (f : Fnc) : Prop where
  cl : Cl X c C
  ex : ∃ fa fd, Meth X.K C m fa ∧ FnG X.prog X.w X.K X.mg X.base k fa fd ps (spF0 X.K X.mg false n f) ∧ Binds X.K fd ps []
theorem OwnK.m {X : Cx} {k : Nat} {c : Str} {C : Addr} {m : Str} {n : Nat} {ps : List Str} {f : Fnc} (h : OwnK X k c C m n ps f) : OwnM X k c C m n ps f := by
  obtain ⟨fa, fd, h1, h2, h3⟩ := h.ex
  exact ⟨h.cl, fa, fd, h1.at_, h1.fn, h2, h3⟩
end Sr
namespace Sr
variable [TabL]
open PySem hiding start
open PySem.Spec L2
open PyProof.Rows hiding St
section
variable {X : Cx} {T : Pn} {W : WX} {pos : Pos}
theorem RpK.map {K : PySem.W.Frag} {mg : Str → Option Value} {F : Hp} {k : Key} {d : D} {v : V} (hv : Rp K mg F d v) : ∀ {ds : List (Key × D)} {vs : List (Key × V)}, RpK K mg F ds vs → RpK K mg F (ds.map fun kv => if kv.1 = k then (kv.1, d) else kv) (vs.map fun kv => if kv.1 = k then (kv.1, v) else kv)
  | [], vs, h => by unfold RpK at h; subst h; unfold RpK; rfl
  | (q, x) :: ds, vs, h => by
    unfold RpK at h
    obtain ⟨w, r, rfl, hw, h⟩ := h
    rw [List.map_cons, List.map_cons]
    by_cases hq : q = k
    · simp only [hq, if_true]
      unfold RpK
      exact ⟨v, _, rfl, hv, RpK.map hv h⟩
    · simp only [hq, if_false]
      unfold RpK
      exact ⟨w, _, rfl, hw, RpK.map hv h⟩
end
end Sr
namespace Sr
variable [TabL]
open PySem hiding start
open PySem.Spec L2
open PyProof.Rows hiding St
theorem RpL.rep {K : PySem.W.Frag} {mg : Str → Option Value} {F : Hp} {ds : List D} {xs : List V} (l : RpL K mg F ds xs) : ∀ n : Nat, RpL K mg F (List.replicate n ds).flatten (List.replicate n xs).flatten
  | 0 => by simp [rl_nil]
  | n + 1 => by rw [List.replicate_succ, List.replicate_succ, List.flatten_cons, List.flatten_cons]; exact l.append (RpL.rep l n)
end Sr
namespace Sr
variable [TabL]
open PySem hiding start
open PySem.Spec L2
open PyProof.Rows hiding St
section
variable {κ : Type} [DecidableEq κ]
def valD (kvs : List (κ × D)) (k : κ) : Option D := (kvs.find? fun kv => decide (kv.1 = k)).map (·.2)
end
section
variable {K : PySem.W.Frag} {mg : Str → Option Value} {F H : Hp}
def opR (K : PySem.W.Frag) (mg : Str → Option Value) (F : Hp) : Option D → Option V → Prop
  | none, none => True
  | some d, some v => Rp K mg F d v
  | _, _ => False
theorem RpK.val {k : Key} : ∀ {ds : List (Key × D)} {vs : List (Key × V)}, RpK K mg F ds vs → opR K mg F (valD ds k) (valV vs k)
  | [], vs, h => by unfold RpK at h; subst h; exact trivial
  | (q, d) :: ds, vs, h => by
    unfold RpK at h
    obtain ⟨v, r, rfl, hv, h⟩ := h
    have ih := RpK.val (k := k) h
    unfold valD valV at ih ⊢
    rw [List.find?_cons, List.find?_cons]
    by_cases hq : q = k
    · simp only [hq, decide_true]; exact hv
    · simp only [hq, decide_false]; exact ih
theorem RpT.val {k : List Key} : ∀ {ds : List (List Key × D)} {vs : List (List Key × V)}, RpT K mg F ds vs → opR K mg F (valD ds k) (valV vs k)
  | [], vs, h => by unfold RpT at h; subst h; exact trivial
  | (q, d) :: ds, vs, h => by
    unfold RpT at h
    obtain ⟨v, r, rfl, hv, h⟩ := h
    have ih := RpT.val (k := k) h
    unfold valD valV at ih ⊢
    rw [List.find?_cons, List.find?_cons]
    by_cases hq : q = k
    · simp only [hq, decide_true]; exact hv
    · simp only [hq, decide_false]; exact ih
theorem RpT.map {k : List Key} {d : D} {v : V} (hv : Rp K mg F d v) : ∀ {ds : List (List Key × D)} {vs : List (List Key × V)}, RpT K mg F ds vs → RpT K mg F (ds.map fun kv => if kv.1 = k then (kv.1, d) else kv) (vs.map fun kv => if kv.1 = k then (kv.1, v) else kv)
  | [], vs, h => by unfold RpT at h; subst h; unfold RpT; rfl
  | (q, x) :: ds, vs, h => by
    unfold RpT at h
    obtain ⟨w, r, rfl, hw, h⟩ := h
    rw [List.map_cons, List.map_cons]
    by_cases hq : q = k
    · simp only [hq, if_true]
      unfold RpT
      exact ⟨v, _, rfl, hv, RpT.map hv h⟩
    · simp only [hq, if_false]
      unfold RpT
      exact ⟨w, _, rfl, hw, RpT.map hv h⟩
theorem RpT.len : ∀ {ds : List (List Key × D)} {xs : List (List Key × V)}, RpT K mg F ds xs → ds.length = xs.length
  | [], xs, h => by unfold RpT at h; subst h; rfl
  | (k, d) :: ds, xs, h => by unfold RpT at h; obtain ⟨v, vs, rfl, _, q⟩ := h; rw [List.length_cons, List.length_cons, q.len]
end
end Sr
namespace Sr
variable [TabL]
open PySem hiding start
open PySem.Spec L2
open PyProof.Rows hiding St
def NoOwn (p : Addr) : List (Bool × D) → List V → Prop
  | (true, _) :: l, v :: r => v ≠ .ref p ∧ NoOwn p l r
  | (false, _) :: l, _ :: r => NoOwn p l r
  | _, _ => True
def RpM (K : PySem.W.Frag) (mg : Str → Option Value) (H0 : Hp) (e : En) (σ : St) (H F : Hp) : List (Bool × D) → List V → Prop
  | [], vs => vs = []
  | (false, d) :: l, vs => ∃ v r, vs = v :: r ∧ Rp K mg F d v ∧ RpM K mg H0 e σ H F l r
  | (true, d) :: l, vs => ∃ p r, vs = .ref p :: r ∧ H0 p = none ∧ F p = none ∧ ¬ Ow e σ p ∧ OwnAt K mg H F p d ∧ NoOwn p l r ∧ RpM K mg H0 e σ H F l r
end Sr
namespace Sr
variable [TabL]
open PySem hiding start
open PySem.Spec L2
open PyProof.Rows hiding St
section
variable {K : PySem.W.Frag} {mg : Str → Option Value} {H0 : Hp} {e : En} {σ : St} {H F : Hp} {p : Addr} {o : HO}
theorem RpM.upd (hp : H p = none) : ∀ {l : List (Bool × D)} {vs : List V}, RpM K mg H0 e σ H F l vs → RpM K mg H0 e σ (L2.upd H p o) F l vs
  | [], vs, r => r
  | (false, d) :: l, vs, ⟨v, r, e1, h1, h2⟩ => ⟨v, r, e1, h1, RpM.upd hp h2⟩
  | (true, d) :: l, vs, ⟨q, r, e1, h1, h2, h3, h4, h5, h6⟩ => ⟨q, r, e1, h1, h2, h3, h4.keep (Same.refl _) (fun u hu => by
      rw [upd_ne]
      · exact hu
      · rintro rfl; rw [hp] at hu; cases hu), h5, RpM.upd hp h6⟩
end
end Sr
namespace Sr
variable [TabL]
open PySem hiding start
open PySem.Spec L2
open PyProof.Rows hiding St
section
variable (K : PySem.W.Frag)
mutual
def ckV : D → Value → Bool
  | .int i, u => match u with
    | .int j _ => decide (i = j)
    | _ => false
  | .str z, u => match u with
    | .str y _ => decide (z = y)
    | _ => false
  | .ct ds, u => match u with
    | .ref a => match K.lookup a with
      | some o => decide (o.cls = .type "tuple") && (match o.data with
        | .seq its _ => decide (its.size ≤ sizeLine) && ckL ds its.toList
        | _ => false)
      | none => false
    | _ => false
  | _, _ => false
def ckL : List D → List Value → Bool
  | [], us => us.isEmpty
  | d :: ds, us => match us with
    | u :: us => ckV d u && ckL ds us
    | [] => false
end
end
end Sr
namespace Sr
variable [TabL]
open PySem hiding start
open PySem.Spec L2
open PyProof.Rows hiding St
section
variable {X : Cx} {T : Pn} {W : WX} {pos p2 p3 : Pos} {a b : Expr} {ma mb : M D}
def noDg (K : PySem.W.Frag) : Bool := decide (PySem.W.nsIn K cStatics "sys.int_max_str_digits" = some none)
end
end Sr
namespace Sr
open PySem hiding start
open PySem.Spec L2
open PyProof.Rows hiding St
def obsL (as : List Addr) (fa : List He.Fa) (fn : List DefZ) (ex : PySem.W.Frag → Bool) (g : Addr → Option Obj) : AlZ := obsK fa fn ex (He.frG g as)
def hookL (as : List Addr) (fa : List He.Fa) (fn : List DefZ) (ex : PySem.W.Frag → Bool) : PySem.W.Hook where
  α := AlZ
  obs := fun s => obsL as fa fn ex s.heap.get?
  val := fun _ => valZ fn
  says := fun _ h => ∃ K : PySem.W.Frag, K.In h ∧ SaysZ fa fn ex K
  of := fun _ _ e => ⟨_, He.frG_in, e⟩
  keeps := fun _ _ _ ⟨K, hK, c⟩ k => ⟨K, PySem.W.Frag.In.keeps hK k, c⟩
end Sr
namespace Sr
variable [TabL]
open PySem hiding start
open PySem.Spec L2
open PyProof.Rows hiding St
section
variable {K : PySem.W.Frag} {mg : Str → Option Value} {T : Pn} {W : WX} {e : En} {σ : St} {H F : Hp}
theorem RunS.pin {s : M Fl} {Dn : Ends} (h : RunS K mg T W e F s σ H Dn) (q : Nat × Addr) : RunS K mg (q :: T) W e F s σ H Dn := by
  unfold RunS at h ⊢
  cases z : s e with
  | ok fl e1 =>
    rw [z] at h
    cases fl with
    | nx => exact fun σ' H' F' er mv => h σ' H' F' er.unpin mv
    | rt d => exact fun σ' H' F' v er mv r => h σ' H' F' v er.unpin mv r
    | ro d => exact fun σ' H' F' p er mv hp fp np ow => h σ' H' F' p er.unpin mv hp fp np ow
    | bk => exact fun σ' H' F' er mv => h σ' H' F' er.unpin mv
    | ct => exact fun σ' H' F' er mv => h σ' H' F' er.unpin mv
  | exc x e1 =>
    rw [z] at h
    exact fun σ' H' F' cl dd er mv xr => h σ' H' F' cl dd er.unpin mv xr
  | bad => rw [z] at h; exact h
end
end Sr
namespace Sr
variable [TabL]
open PySem hiding start
open PySem.Spec L2
open PyProof.Rows hiding St
instance decMemK : (k : List Key) → (l : List (List Key)) → Decidable (k ∈ l)
  | k, [] => .isFalse (fun h => nomatch h)
  | k, x :: l => if e : k = x then .isTrue (by rw [e]; exact List.mem_cons_self) else match decMemK k l with
    | .isTrue h => .isTrue (List.mem_cons_of_mem _ h)
    | .isFalse h => .isFalse fun z => (List.mem_cons.1 z).elim e h
end Sr
namespace Tb
abbrev Row := Bool × Nat × Nat
abbrev Tab := List Row
def row (t : Tab) (i : Nat) : Row := t.getD i (false, 0, 0)
def nx (t : Tab) (i : Nat) (b : Bool) : Nat := if b then (row t i).2.1 else (row t i).2.2
def run (t : Tab) (i : Nat) : List Bool → Nat
  | [] => i
  | b :: w => run t (nx t i b) w
def Ok (t : Tab) : Prop := ∀ r ∈ t, r.2.1 < t.length ∧ r.2.2 < t.length
def addN {A : Type} [DecidableEq A] (l : List A) (x : A) : List A := if x ∈ l then l else l ++ [x]
section
variable {t : Tab} {i s : Nat}
theorem row_eq (h : i < t.length) : row t i = t[i] := by unfold row; simp [List.getD_eq_getElem?_getD, h]
theorem row_mem (h : i < t.length) : row t i ∈ t := by rw [row_eq h]; exact List.getElem_mem h
end
section
variable {A : Type} [DecidableEq A]
theorem mem_addN {l : List A} {x y : A} : y ∈ addN l x ↔ y ∈ l ∨ y = x := by
  unfold addN
  split
  · rename_i h
    exact ⟨.inl, fun z => z.elim id fun e => by rw [e]; exact h⟩
  · simp
theorem nodup_addN {l : List A} {x : A} (h : l.Nodup) : (addN l x).Nodup := by
  unfold addN
  split
  · exact h
  · rename_i hx
    rw [List.nodup_append]
    exact ⟨h, by simp, fun a ha b hb => by simp at hb; subst hb; intro e; subst e; exact hx ha⟩
theorem addN_pre {l : List A} {x : A} : ∃ r, addN l x = l ++ r := by
  unfold addN
  split
  · exact ⟨[], by simp⟩
  · exact ⟨[x], rfl⟩
theorem fold_pre : ∀ (ks : List A) (l : List A), ∃ r, ks.foldl addN l = l ++ r
  | [], l => ⟨[], by simp⟩
  | k :: ks, l => by
    obtain ⟨r1, h1⟩ := addN_pre (l := l) (x := k)
    obtain ⟨r2, h2⟩ := fold_pre ks (addN l k)
    exact ⟨r1 ++ r2, by rw [List.foldl_cons, h2, h1, List.append_assoc]⟩
theorem mem_fold : ∀ (ks : List A) (l : List A) {y : A}, y ∈ ks.foldl addN l ↔ y ∈ l ∨ y ∈ ks
  | [], l, y => by simp
  | k :: ks, l, y => by rw [List.foldl_cons, mem_fold ks, mem_addN, List.mem_cons, or_assoc]
theorem nodup_fold : ∀ (ks : List A) {l : List A}, l.Nodup → (ks.foldl addN l).Nodup
  | [], l, h => h
  | k :: ks, l, h => nodup_fold ks (nodup_addN h)
def ded (ks : List A) : List A := ks.foldl addN []
end
def iter {A : Type} (f : A → Option A) : Nat → A → A
  | 0, a => a
  | n + 1, a => match f a with
    | none => a
    | some b => iter f n b
section
variable {A : Type} {f : A → Option A}
theorem iter_inv (I : A → Prop) (h : ∀ a b, I a → f a = some b → I b) : ∀ (n : Nat) {a : A}, I a → I (iter f n a)
  | 0, a, ha => ha
  | n + 1, a, ha => by
    unfold iter
    cases q : f a with
    | none => exact ha
    | some b => exact iter_inv I h n (h a b ha q)
theorem iter_done (I : A → Prop) (μ : A → Nat) (h : ∀ a b, I a → f a = some b → I b ∧ μ b < μ a) : ∀ (n : Nat) {a : A}, I a → μ a ≤ n → f (iter f n a) = none
  | 0, a, ha, hm => by
    unfold iter
    cases q : f a with
    | none => rfl
    | some b => have := (h a b ha q).2; omega
  | n + 1, a, ha, hm => by
    unfold iter
    cases q : f a with
    | none => exact q
    | some b =>
      obtain ⟨h1, h2⟩ := h a b ha q
      exact iter_done I μ h n h1 (by omega)
end
def f0 (t : Tab) : List Nat := t.map fun r => if r.1 then 1 else 0
abbrev K3 := Nat × Nat × Nat
def keys (t : Tab) (f : List Nat) : List K3 := t.zipIdx.map fun q => (f.getD q.2 0, f.getD q.1.2.1 0, f.getD q.1.2.2 0)
def renum (ks : List K3) : List Nat := ks.map fun k => (ded ks).idxOf k
def dist (f : List Nat) : Nat := (ded f).length
abbrev CS := List Nat × Nat
def cStep (t : Tab) : CS → Option CS := fun q => if q.2 < dist q.1 then some (renum (keys t q.1), dist q.1) else none
def cls (t : Tab) : List Nat := (iter (cStep t) t.length (f0 t, 0)).1
def Alike (t : Tab) (i j : Nat) : Prop := ∀ w, (row t (run t i w)).1 = (row t (run t j w)).1
theorem Alike.nx {t : Tab} {i j : Nat} (h : Alike t i j) (b : Bool) : Alike t (Tb.nx t i b) (Tb.nx t j b) := fun w => h (b :: w)
end Tb
namespace Tb
def cl (t : Tab) (x : Nat) : Nat := (cls t).getD x 0
end Tb
namespace Tb
open Classical in
noncomputable instance langDec : DecidableEq (List Bool → Bool) := fun a b => Classical.propDecidable (a = b)
end Tb
namespace Tb
def bad (ab : Bool) (a b : Tab) (i j : Nat) : Bool := ((row a i).1 != (row b j).1) && ((row a i).1 || !ab)
end Tb
namespace Tb
def codeR : List Bool → Nat
  | [] => 1
  | c :: w => 2 * codeR w + (if c then 0 else 1)
def code (w : List Bool) : Nat := codeR w.reverse
end Tb
namespace Hi
def fpL (s c : List Bool) : List Bool := List.zipWith (fun s c => !s && c) s c
def ffL (s c : List Bool) : List Bool := List.zipWith (fun s c => s && !c) s c
def letB (a b : Nat) (p f : List Bool) : Bool := decide (p.countP id ≤ a) && decide (f.countP id ≤ b)
def wnd (l : List Bool) (i n : Nat) : List Bool := (l.drop i).take n
def okW (a b n : Nat) (s c : List Bool) : Bool := (List.range c.length).all fun i => letB a b (wnd (fpL s c) i n) (wnd (ffL s c) i n)
def starts (s : List Bool) : List Nat := (List.range' 1 (s.length - 1)).filter fun i => s.getD i false != s.getD (i - 1) false
def okS (k : Nat) (s : List Bool) : Bool := (List.range' 1 ((starts s).length - 1)).all fun j => !decide ((((starts s).getD j 0 : Nat) : Int) - (((starts s).getD (j - 1) 0 : Nat) : Int) < (k : Int))
def alw (a b n k : Nat) (s c : List Bool) : Bool := okW a b n s c && okS k s
def per (p n size : Nat) : List Bool := (List.range size).map fun i => decide (i % n < p)
end Hi
namespace Hi
def rep (n : Nat) (u : Bool) : List Bool := List.replicate n u
def cl (a b n u d : Nat) : Option (List Bool × List Bool × List Bool) :=
  if n ≤ a + b then some (per (min a n) n (max u d), rep (max u d) true, rep (max u d) false)
  else if a + b < min u d then none
  else if u ≤ d then some (rep (d - u) false ++ rep (min u a) true ++ rep (u - min u a) false, rep (d - u) false ++ rep u true, rep d false)
  else some (rep (u - d) true ++ rep (min d b) false ++ rep (d - min d b) true, rep u true, rep (u - d) true ++ rep d false)
end Hi
namespace Hi
def gaps (k : Nat) (l : List Nat) : Bool := (List.range' 1 (l.length - 1)).all fun j => !decide (((l.getD j 0 : Nat) : Int) - ((l.getD (j - 1) 0 : Nat) : Int) < (k : Int))
structure Gr (a b n k : Nat) (s c : List Bool) (age : Nat) (cur : Bool) : Prop where
  len : s.length = c.length
  w : okW a b n s c = true
  st : gaps k (starts s) = true
  last : s ≠ [] → s.getLastD false = cur
  age : starts s = [] ∨ (starts s).getLastD 0 + age = s.length
theorem Gr.alw {a b n k : Nat} {s c : List Bool} {age : Nat} {cur : Bool} (h : Gr a b n k s c age cur) : alw a b n k s c = true := by
  unfold Hi.alw
  rw [h.w, Bool.true_and]
  exact h.st
theorem Gr.nil {a b n k age : Nat} {cur : Bool} : Gr a b n k [] [] age cur := ⟨rfl, rfl, rfl, fun h => absurd rfl h, .inl rfl⟩
end Hi
namespace Hi
structure Sit where
  row : Nat
  st : Bool
  age : Nat
  fl : List Nat
deriving DecidableEq
def fcd (s c : Bool) : Nat := if s == c then 46 else if c then 112 else 102
def lets (a b : Nat) (l : List Nat) : Bool := letB a b (l.map (· == 112)) (l.map (· == 102))
def step1 (a b k : Nat) (x : Sit) (row : Nat) (s c : Bool) : Option Sit :=
  if lets a b (x.fl ++ [fcd s c]) && (s == x.st || x.age == k) then some ⟨row, s, if s == x.st then x.age + (if x.age < k then 1 else 0) else 1, (x.fl ++ [fcd s c]).tail⟩ else none
def steps (a b k : Nat) (x : Sit) (p f : Nat) : List (Bool × Bool × Sit) :=
  [(false, true), (false, false), (true, true), (true, false)].filterMap fun q => (step1 a b k x (if q.2 then p else f) q.1 q.2).map fun y => (q.1, q.2, y)
structure SitOk (a b n k rows : Nat) (x : Sit) : Prop where
  row : x.row < rows
  age : 1 ≤ x.age ∧ x.age ≤ k
  len : x.fl.length + 1 = n
  fl : ∀ c ∈ x.fl, c = 46 ∨ c = 112 ∨ c = 102
  lt : lets a b x.fl = true
theorem lets_tail {a b : Nat} {l : List Nat} (h : lets a b l = true) : lets a b l.tail = true := by
  unfold lets letB at h ⊢
  rw [Bool.and_eq_true, decide_eq_true_eq, decide_eq_true_eq] at h ⊢
  have h1 : (l.tail.map (· == 112)).countP id ≤ (l.map (· == 112)).countP id := ((List.tail_sublist l).map _).countP_le
  have h2 : (l.tail.map (· == 102)).countP id ≤ (l.map (· == 102)).countP id := ((List.tail_sublist l).map _).countP_le
  omega
theorem fcd_ok (s c : Bool) : fcd s c = 46 ∨ fcd s c = 112 ∨ fcd s c = 102 := by cases s <;> cases c <;> decide
theorem step1_ok {a b n k rows : Nat} {x y : Sit} {row : Nat} {s c : Bool} (h : SitOk a b n k rows x) (hr : row < rows) (e : step1 a b k x row s c = some y) : SitOk a b n k rows y := by
  unfold step1 at e
  split at e
  · rename_i q
    cases e
    rw [Bool.and_eq_true] at q
    have hk := h.age
    refine ⟨hr, ?_, ?_, fun z hz => ?_, lets_tail q.1⟩
    · dsimp only
      split
      · split <;> omega
      · omega
    · show (x.fl ++ [fcd s c]).tail.length + 1 = n
      rw [List.length_tail, List.length_append, List.length_singleton]
      have := h.len
      omega
    · have hz := List.mem_of_mem_tail hz
      rw [List.mem_append, List.mem_singleton] at hz
      rcases hz with hz | rfl
      · exact h.fl z hz
      · exact fcd_ok s c
  · cases e
theorem steps_ok {a b n k rows : Nat} {x : Sit} {p f : Nat} (h : SitOk a b n k rows x) (hp : p < rows) (hf : f < rows) : ∀ y ∈ steps a b k x p f, SitOk a b n k rows y.2.2 := by
  intro y hy
  unfold steps at hy
  rw [List.mem_filterMap] at hy
  obtain ⟨q, _, e⟩ := hy
  rw [Option.map_eq_some_iff] at e
  obtain ⟨z, e, rfl⟩ := e
  exact step1_ok h (by split <;> assumption) e
def begS (n k : Nat) (s : Bool) : Sit := ⟨0, s, k, List.replicate (n - 1) 46⟩
theorem begS_ok {a b n k rows : Nat} (hn : 1 ≤ n) (hk : 1 ≤ k) (hr : 1 ≤ rows) (s : Bool) : SitOk a b n k rows (begS n k s) := by
  refine ⟨hr, ⟨hk, Nat.le_refl _⟩, by unfold begS; simp; omega, fun c hc => ?_, ?_⟩
  · unfold begS at hc
    exact .inl (List.eq_of_mem_replicate hc)
  · unfold lets letB begS
    simp [List.countP_replicate]
end Hi
namespace Hi
def nexts (a b k : Nat) (x : Sit) (c first : Bool) : List (Bool × Sit) := ((steps a b k x 0 0).filter fun q => q.2.1 == c && (q.1 == x.st || !first)).map fun q => (q.1, q.2.2)
end Hi
namespace Hi
theorem nodup_len {A : Type} [DecidableEq A] : ∀ (l m : List A), l.Nodup → (∀ x ∈ l, x ∈ m) → l.length ≤ m.length
  | [], m, _, _ => Nat.zero_le _
  | x :: l, m, hn, hs => by
    rw [List.nodup_cons] at hn
    have hx : x ∈ m := hs x (by simp)
    have h := nodup_len l (m.erase x) hn.2 fun y hy => (List.mem_erase_of_ne (fun z => hn.1 (by rw [← z]; exact hy))).2 (hs y (by simp [hy]))
    have h2 := List.length_erase_of_mem hx
    have h3 := List.length_pos_of_mem hx
    rw [List.length_cons]
    omega
def allFl : Nat → List (List Nat)
  | 0 => [[]]
  | m + 1 => (allFl m).flatMap fun l => [46 :: l, 112 :: l, 102 :: l]
def allS (n k : Nat) : List Sit := [false, true].flatMap fun s => (List.range (k + 1)).flatMap fun g => (allFl (n - 1)).map fun f => ⟨0, s, g, f⟩
theorem allFl_mem : ∀ (l : List Nat), (∀ c ∈ l, c = 46 ∨ c = 112 ∨ c = 102) → l ∈ allFl l.length
  | [], _ => by simp [allFl]
  | c :: l, h => by
    rw [List.length_cons]
    unfold allFl
    rw [List.mem_flatMap]
    refine ⟨l, allFl_mem l fun x hx => h x (by simp [hx]), ?_⟩
    rcases h c (by simp) with rfl | rfl | rfl <;> simp
theorem allS_mem {a b n k : Nat} {x : Sit} (h : SitOk a b n k 1 x) : x ∈ allS n k := by
  have hr := h.row
  have ha := h.age
  have hl := h.len
  have hf := allFl_mem x.fl h.fl
  obtain ⟨r, s, g, f⟩ := x
  dsimp only at *
  have hr0 : r = 0 := by omega
  subst hr0
  unfold allS
  rw [List.mem_flatMap]
  refine ⟨s, by cases s <;> simp, ?_⟩
  rw [List.mem_flatMap]
  refine ⟨g, List.mem_range.2 (by omega), ?_⟩
  rw [List.mem_map]
  refine ⟨f, ?_, rfl⟩
  have e : n - 1 = f.length := by omega
  rw [e]
  exact hf
theorem allS_len (n k : Nat) (hn : n ≤ 5) (hk : k ≤ 4) : (allS n k).length ≤ 1000 := by
  have H : ∀ n : Fin 6, ∀ k : Fin 5, (allS n.val k.val).length ≤ 1000 := by decide +kernel
  exact H ⟨n, by omega⟩ ⟨k, by omega⟩
end Hi
namespace Bf
open Tb
section
variable {A : Type} [DecidableEq A] (g : A → List A)
def bStep : List A × Nat → Option (List A × Nat) := fun q => match q.1[q.2]? with
  | some x => some ((g x).foldl addN q.1, q.2 + 1)
  | none => none
def bfs (N : Nat) (s : List A) : List A := (iter (bStep g) N (s, 0)).1
structure BI (s : List A) (q : List A × Nat) : Prop where
  nd : q.1.Nodup
  pre : ∃ r, q.1 = s ++ r
  le : q.2 ≤ q.1.length
  cl : ∀ i x, i < q.2 → q.1[i]? = some x → ∀ y ∈ g x, y ∈ q.1
  snd : ∀ P : A → Prop, (∀ x ∈ s, P x) → (∀ x, P x → ∀ y ∈ g x, P y) → ∀ x ∈ q.1, P x
variable {g}
theorem bi_start {s : List A} (hs : s.Nodup) : BI g s (s, 0) := ⟨hs, ⟨[], by simp⟩, Nat.zero_le _, fun i x h => by omega, fun P h _ => h⟩
theorem bi_step {s : List A} {q q' : List A × Nat} (I : BI g s q) (h : bStep g q = some q') : BI g s q' ∧ q.2 < q.1.length ∧ q'.2 = q.2 + 1 := by
  obtain ⟨l, at'⟩ := q
  unfold bStep at h
  dsimp only at h
  cases q : l[at']? with
  | none => rw [q] at h; cases h
  | some x =>
    rw [q] at h
    cases h
    have hlt : at' < l.length := (List.getElem?_eq_some_iff.1 q).1
    obtain ⟨r, hr⟩ := fold_pre (g x) l
    obtain ⟨r0, hr0⟩ := I.pre
    dsimp only at hr0
    refine ⟨⟨nodup_fold _ I.nd, ⟨r0 ++ r, by show (g x).foldl addN l = _; rw [hr, hr0, List.append_assoc]⟩, ?_, ?_, ?_⟩, hlt, rfl⟩
    · show at' + 1 ≤ ((g x).foldl addN l).length
      rw [hr, List.length_append]; omega
    · intro i y hi hy z hz
      show z ∈ (g x).foldl addN l
      rw [mem_fold]
      replace hy : ((g x).foldl addN l)[i]? = some y := hy
      replace hi : i < at' + 1 := hi
      rw [hr, List.getElem?_append_left (by omega)] at hy
      by_cases e : i = at'
      · rw [e, q] at hy
        cases hy
        exact .inr hz
      · exact .inl (I.cl i y (by show i < at'; omega) hy z hz)
    · intro P h1 h2 y hy
      have hy : y ∈ (g x).foldl addN l := hy
      rw [mem_fold] at hy
      rcases hy with hy | hy
      · exact I.snd P h1 h2 y hy
      · exact h2 x (I.snd P h1 h2 x (List.mem_of_getElem? q)) y hy
structure BSpec (g : A → List A) (s l : List A) : Prop where
  nd : l.Nodup
  pre : ∃ r, l = s ++ r
  cl : ∀ x ∈ l, ∀ y ∈ g x, y ∈ l
  snd : ∀ P : A → Prop, (∀ x ∈ s, P x) → (∀ x, P x → ∀ y ∈ g x, P y) → ∀ x ∈ l, P x
theorem bfs_bi {s : List A} (hs : s.Nodup) (N : Nat) : BI g s (iter (bStep g) N (s, 0)) := iter_inv (BI g s) (fun a b I h => (bi_step I h).1) N (bi_start hs)
theorem bfs_done {s : List A} (hs : s.Nodup) {N : Nat} {P : A → Prop} (hP : ∀ l : List A, l.Nodup → (∀ x ∈ l, P x) → l.length ≤ N) (h1 : ∀ x ∈ s, P x) (h2 : ∀ x, P x → ∀ y ∈ g x, P y) : bStep g (iter (bStep g) N (s, 0)) = none := by
  refine iter_done (BI g s) (fun q => N - q.2) (fun a b I h => ?_) N (bi_start hs) (by show N - 0 ≤ N; omega)
  obtain ⟨I', hl, e⟩ := bi_step I h
  refine ⟨I', ?_⟩
  have hle : a.1.length ≤ N := hP a.1 I.nd (I.snd P h1 h2)
  show N - b.2 < N - a.2
  omega
theorem bfs_spec {s : List A} (hs : s.Nodup) {N : Nat} {P : A → Prop} (hP : ∀ l : List A, l.Nodup → (∀ x ∈ l, P x) → l.length ≤ N) (h1 : ∀ x ∈ s, P x) (h2 : ∀ x, P x → ∀ y ∈ g x, P y) : BSpec g s (bfs g N s) := by
  have I := bfs_bi (g := g) hs N
  have hd := bfs_done (g := g) hs hP h1 h2
  refine ⟨I.nd, I.pre, fun x hx y hy => ?_, I.snd⟩
  unfold bfs at hx ⊢
  generalize iter (bStep g) N (s, 0) = Z at *
  unfold bStep at hd
  cases q : Z.1[Z.2]? with
  | some z => rw [q] at hd; cases hd
  | none =>
    rw [List.getElem?_eq_none_iff] at q
    obtain ⟨i, hi, e⟩ := List.getElem_of_mem hx
    have hi2 : i < Z.2 := Nat.lt_of_lt_of_le hi q
    exact I.cl i x hi2 (by
      rw [List.getElem?_eq_some_iff]
      exact ⟨hi, e⟩) y hy
end
end Bf
namespace Ly
open Hi Tb
abbrev Stp := Sit → List (Bool × Bool × Sit)
def stp (t : Tab) (a b k : Nat) : Stp := fun x => steps a b k x (row t x.row).2.1 (row t x.row).2.2
def succ (g : Stp) (x : Sit) : List Sit := (g x).map (·.2.2)
def begs (n k : Nat) : List Sit := [begS n k false, begS n k true]
structure So (so : List Sit → List Sit) : Prop where
  perm : ∀ l, (so l).Perm l
  can : ∀ l m, l.Perm m → so l = so m
theorem So.mem {so : List Sit → List Sit} (S : So so) {l : List Sit} {x : Sit} : x ∈ so l ↔ x ∈ l := (S.perm l).mem_iff
theorem So.idem {so : List Sit → List Sit} (S : So so) (l : List Sit) : so (so l) = so l := S.can _ _ (S.perm l)
theorem So.nodup {so : List Sit → List Sit} (S : So so) {l : List Sit} : (so l).Nodup ↔ l.Nodup := (S.perm l).nodup_iff
theorem So.len {so : List Sit → List Sit} (S : So so) (l : List Sit) : (so l).length = l.length := (S.perm l).length_eq
def nexL (so : List Sit → List Sit) (g : Stp) (s : Bool) (l : List Sit) : List Sit := so (ded (l.flatMap fun x => ((g x).filter fun q => q.1 == s).map (·.2.2)))
def layer (so : List Sit → List Sit) (g : Stp) (s : Bool) (l0 : List Sit) : Nat → List Sit
  | 0 => l0
  | i + 1 => nexL so g s (layer so g s l0 i)
def right (t : Tab) (s : Bool) (l : List Sit) : Bool := l.all fun x => (row t x.row).1 == s
structure First (so : List Sit → List Sit) (g : Stp) (l0 : List Sit) : Prop where
  nd : l0.Nodup
  so : so l0 = l0
  cl : ∀ x ∈ l0, ∀ y ∈ succ g x, y ∈ l0
section
variable {so : List Sit → List Sit} {g : Stp} {s : Bool} {l0 : List Sit}
variable {t : Tab}
def bnd (so : List Sit → List Sit) (g : Stp) (s : Bool) (l0 : List Sit) (t : Tab) : Option Nat := (List.range (l0.length + 1)).find? fun i => right t s (layer so g s l0 i)
end
def allR (n k rows : Nat) : List Sit := (List.range rows).flatMap fun r => (allS n k).map fun x => { x with row := r }
theorem allR_len {n k : Nat} (hn : n ≤ 5) (hk : k ≤ 4) (rows : Nat) : (allR n k rows).length ≤ 1000 * rows := by
  unfold allR
  rw [List.length_flatMap]
  have h := allS_len n k hn hk
  induction rows with
  | zero => simp
  | succ r ih =>
    rw [List.range_succ, List.map_append, List.sum_append, List.map_singleton, List.length_map, List.sum_singleton]
    omega
theorem allR_mem {a b n k rows : Nat} {x : Sit} (h : SitOk a b n k rows x) : x ∈ allR n k rows := by
  unfold allR
  rw [List.mem_flatMap]
  refine ⟨x.row, List.mem_range.2 h.row, List.mem_map.2 ⟨{ x with row := 0 }, allS_mem (a := a) (b := b) ⟨by show (0:Nat) < 1; omega, h.age, h.len, h.fl, h.lt⟩, rfl⟩⟩
theorem sits_lenR {a b n k rows : Nat} (hn : n ≤ 5) (hk : k ≤ 4) {l : List Sit} (h : l.Nodup) (ho : ∀ x ∈ l, SitOk a b n k rows x) : l.length ≤ 1000 * rows :=
  Nat.le_trans (nodup_len l _ h fun x hx => allR_mem (ho x hx)) (allR_len hn hk rows)
section
variable {t : Tab} (ok : Ok t) {a b n k : Nat}
include ok
theorem stp_ok {x : Sit} (h : SitOk a b n k t.length x) : ∀ y ∈ succ (stp t a b k) x, SitOk a b n k t.length y := by
  intro y hy
  unfold succ at hy
  rw [List.mem_map] at hy
  obtain ⟨q, hq, rfl⟩ := hy
  have hr := ok _ (row_mem h.row)
  exact steps_ok h hr.1 hr.2 q hq
theorem begs_ok (hn : 1 ≤ n) (hk : 1 ≤ k) (hr : 1 ≤ t.length) : ∀ x ∈ begs n k, SitOk a b n k t.length x := by
  intro x hx
  unfold begs at hx
  rw [List.mem_cons, List.mem_singleton] at hx
  rcases hx with rfl | rfl <;> exact begS_ok hn hk hr _
omit ok in
theorem begs_nodup : (begs n k).Nodup := by
  unfold begs begS
  simp
theorem all_spec (hn : 1 ≤ n) (hk : 1 ≤ k) (hr : 1 ≤ t.length) (hn5 : n ≤ 5) (hk4 : k ≤ 4) : Bf.BSpec (succ (stp t a b k)) (begs n k) (Bf.bfs (succ (stp t a b k)) (1000 * t.length) (begs n k)) := by
  exact Bf.bfs_spec begs_nodup (P := SitOk a b n k t.length) (fun l nd h => sits_lenR hn5 hk4 nd h) (begs_ok ok hn hk hr) (fun x h => stp_ok ok h)
end
def alls (t : Tab) (a b n k : Nat) : List Sit := Bf.bfs (succ (stp t a b k)) (1000 * t.length) (begs n k)
section
variable {t : Tab} (ok : Ok t) {a b n k : Nat} (hn : 1 ≤ n) (hk : 1 ≤ k) (hr : 1 ≤ t.length) (hn5 : n ≤ 5) (hk4 : k ≤ 4)
include ok hn hk hr hn5 hk4
theorem alls_spec : Bf.BSpec (succ (stp t a b k)) (begs n k) (alls t a b n k) := all_spec ok hn hk hr hn5 hk4
theorem first {so : List Sit → List Sit} (S : So so) : First so (stp t a b k) (so (alls t a b n k)) := by
  have sp := alls_spec (a := a) (b := b) ok hn hk hr hn5 hk4
  refine ⟨S.nodup.2 sp.nd, S.idem _, fun x hx y hy => ?_⟩
  rw [S.mem] at hx ⊢
  exact sp.cl x hx y hy
end
end Ly
namespace Ly
open Hi Tb
section
variable {t : Tab} (ok : Ok t) {a b n k : Nat} (hn : 1 ≤ n) (hk : 1 ≤ k) (hr : 1 ≤ t.length) (hn5 : n ≤ 5) (hk4 : k ≤ 4)
include ok hn hk hr hn5 hk4
variable {so : List Sit → List Sit} (S : So so)
include S
def RtL (f : List Bool → Bool) (a b n k : Nat) (s : Bool) (i : Nat) : Prop := ∀ st ck : List Bool, alw a b n k (st ++ List.replicate i s) ck = true → ck.length = st.length + i → f ck = s
end
end Ly
namespace Ly
open Hi Tb
open Classical in
theorem RtL.mono {f : List Bool → Bool} {a b n k : Nat} {s : Bool} {i j : Nat} (h : i ≤ j) (r : RtL f a b n k s i) : RtL f a b n k s j := by
  intro st ck ha hl
  refine r (st ++ List.replicate (j - i) s) ck ?_ (by simp; omega)
  rw [List.append_assoc, List.replicate_append_replicate]
  have : j - i + i = j := by omega
  rw [this]
  exact ha
end Ly
namespace Sh
section
variable {A Q : Type} [DecidableEq A] (st : List A) (g : A → List (Q × A)) (good : A → Bool)
abbrev Pt (A Q : Type) := List Q × A
variable {st g good}
def first (Q : Type) (st : List A) : List (Pt A Q) := st.map fun x => ([], x)
end
end Sh
namespace Sh
section
variable {A Q : Type} [DecidableEq A]
abbrev Qs (A : Type) := List (A × Nat) × List A
structure Ex (d : Nat) (ys : List A) (s s' : Qs A) : Prop where
  pre : ∃ r : List A, s'.1 = s.1 ++ r.map (fun y => (y, d)) ∧ s'.2 = s.2 ++ r ∧ ∀ y ∈ r, y ∈ ys
  all : ∀ y ∈ ys, y ∈ s'.2
  nd : s.2.Nodup → s'.2.Nodup
variable {st : List A} {g : A → List (Q × A)} {good : A → Bool}
end
end Sh
namespace Hi
def ud (b : Bool) : Nat := if b then 85 else 68
abbrev Fw := Nat × List Bool
def ltv (p q : Fw) : Bool := if p.1 = q.1 then decide (p.2.map ud < q.2.map ud) else decide (p.1 < q.1)
def minv (p q : Fw) : Fw := if ltv p q = true then p else q
abbrev BL := List (Sit × Fw)
def dif (b c : Bool) : Nat := if (b == c) = true then 0 else 1
def ext (a b k : Nat) (p : Sit × Fw) (c f : Bool) : BL := (nexts a b k p.1 c f).map fun q => (q.2, (p.2.1 + dif q.1 c, p.2.2 ++ [q.1]))
def er (s w : List Bool) : Nat := ((s.zip w).map fun p => dif p.1 p.2).sum
def lstep (o : Option Fw) (v : Fw) : Option Fw := match o with
  | none => some v
  | some u => some (minv v u)
def lst (l : List Fw) : Option Fw := l.foldl lstep none
end Hi
namespace Lw
open PySem hiding start
open PySem.Spec L2 Sr
open PyProof.Rows hiding St
def top (i : Nat) : Stmt := PySem.Challenge.pw_statusrules_k52_fewest_errors.main.body.getD i (.Pass ⟨0, 0, 0, 0⟩)
def isl_int : List (Str × Bool) := [("Rule", false), ("Limits", false)]
def isl_bool : List (Str × Bool) := [("Rule", false), ("Limits", false)]
def isl_Limits : List (Str × Bool) := [("Rule", false), ("Limits", true)]
def isl_str : List (Str × Bool) := [("Rule", false), ("Limits", false)]
def isl_tuple : List (Str × Bool) := [("Rule", false), ("Limits", false)]
abbrev st__law_pen : Stmt := top 65
abbrev st__law_cell_at : Stmt := top 64
abbrev st__law_draw : Stmt := top 66
abbrev st__law_pick : Stmt := top 80
abbrev st__law_numbers : Stmt := top 67
abbrev st__law_small : Stmt := top 68
abbrev st__law_checks : Stmt := top 70
abbrev st_is_integer : Stmt := top 17
abbrev st_is_between : Stmt := top 18
abbrev st_LimitsU_initU : Stmt := inClass (top 51) 0
abbrev st__law_limits : Stmt := top 69
abbrev st__law_flag : Stmt := top 71
abbrev st__law_let : Stmt := top 72
abbrev st__law_allowed : Stmt := top 73
abbrev st__law_log : Stmt := top 74
abbrev st__law_better : Stmt := top 81
abbrev st__law_due : Stmt := top 82
abbrev st__law_same : Stmt := top 79
abbrev st_check_limits : Stmt := top 52
abbrev st_is_made_of : Stmt := top 19
abbrev st_check_checks : Stmt := top 36
abbrev st_check_log : Stmt := top 59
abbrev st_spelled : Stmt := top 54
abbrev st_beginnings : Stmt := top 55
abbrev st_row_of : Stmt := top 56
abbrev st_flag_of : Stmt := top 53
abbrev st_Limits_let : Stmt := inClass (top 51) 8
abbrev st_steps_from : Stmt := top 57
abbrev st_is_row : Stmt := top 20
abbrev st_is_table : Stmt := top 21
abbrev st_row_classes : Stmt := top 24
abbrev st_reached : Stmt := top 23
abbrev st_smallest : Stmt := top 25
abbrev st_RuleU_initU : Stmt := inClass (top 42) 1
abbrev st_some_rule : Stmt := top 60
abbrev st_next_situations : Stmt := top 61
abbrev st_fewest_errors : Stmt := top 62
abbrev st__law_spelled : Stmt := top 75
abbrev st__law_beginnings : Stmt := top 78
abbrev st__law_steps : Stmt := top 76
abbrev st__law_log_steps : Stmt := top 77
abbrev st__law_long : Stmt := top 83
abbrev st_law : Stmt := top 84
abbrev st_Limits_span : Stmt := inClass (top 51) 3
abbrev st_Limits_settled : Stmt := inClass (top 51) 4
abbrev st_Rule_rows : Stmt := inClass (top 42) 6
end Lw
namespace Lw
open PySem hiding start
open PySem.Spec L2 Sr
open PyProof.Rows hiding St
def fa : List He.Fa := [.free "max", .free "int", .free "len", .free "min", .free "range", .free "isinstance", .free "bool", .int "MOST_FALSE" 5, .int "MOST_SPAN" 5, .int "MOST_SETTLED" 4, .free "repr", .free "str", .free "all", .str "PASS" "+", .str "FAIL" "-", .int "MOST_CHECKS" 60, .str "NO_ERROR" ".", .str "DOWN" "D", .str "UP" "U", .str "FALSE_PASS" "p", .str "FALSE_FAIL" "f", .int "FLAGS_AT" 4, .free "tuple", .int "MOST_ROWS" 64, .free "set", .free "enumerate", .free "list", .glo "SIDES", .glo "Rule", .cls "Rule", .glo "Limits", .cls "Limits", .glo "NumberError", .glo "LimitsError", .glo "ChecksError", .glo "TableError", .noat "Limits" "most_passes", .noat "Limits" "most_fails", .noat "Limits" "most_checks", .noat "Limits" "least_stay", .noat "Rule" "table", .exc "NumberError", .exc "LimitsError", .exc "ChecksError", .exc "TableError", .meth "Limits" "let", .mkr "Limits", .mkr "Rule", .glo "_law_pen", .glo "_law_cell_at", .glo "_law_draw", .glo "_law_pick", .glo "_law_numbers", .glo "_law_small", .glo "_law_checks", .glo "is_integer", .glo "is_between", .glo "_law_limits", .glo "_law_flag", .glo "_law_let", .glo "_law_allowed", .glo "_law_log", .glo "_law_better", .glo "_law_due", .glo "_law_same", .glo "check_limits", .glo "is_made_of", .glo "check_checks", .glo "check_log", .glo "spelled", .glo "beginnings", .glo "row_of", .glo "flag_of", .glo "steps_from", .glo "is_row", .glo "is_table", .glo "row_classes", .glo "reached", .glo "smallest", .glo "some_rule", .glo "next_situations", .glo "fewest_errors", .glo "_law_spelled", .glo "_law_beginnings", .glo "_law_steps", .glo "_law_log_steps", .glo "_law_long", .glo "law"]
def dz__law_pen : DefZ := ⟨fun K => He.ga K "_law_pen", "_law_pen", "_law_pen", st__law_pen, []⟩
def dz__law_cell_at : DefZ := ⟨fun K => He.ga K "_law_cell_at", "_law_cell_at", "_law_cell_at", st__law_cell_at, []⟩
def dz__law_draw : DefZ := ⟨fun K => He.ga K "_law_draw", "_law_draw", "_law_draw", st__law_draw, []⟩
def dz__law_pick : DefZ := ⟨fun K => He.ga K "_law_pick", "_law_pick", "_law_pick", st__law_pick, []⟩
def dz__law_numbers : DefZ := ⟨fun K => He.ga K "_law_numbers", "_law_numbers", "_law_numbers", st__law_numbers, []⟩
def dz__law_small : DefZ := ⟨fun K => He.ga K "_law_small", "_law_small", "_law_small", st__law_small, []⟩
def dz__law_checks : DefZ := ⟨fun K => He.ga K "_law_checks", "_law_checks", "_law_checks", st__law_checks, []⟩
def dz_is_integer : DefZ := ⟨fun K => He.ga K "is_integer", "is_integer", "is_integer", st_is_integer, []⟩
def dz_is_between : DefZ := ⟨fun K => He.ga K "is_between", "is_between", "is_between", st_is_between, []⟩
def dz_LimitsU_initU : DefZ := ⟨fun K => He.ma K (He.ga K "Limits") "__init__", "__init__", "Limits.__init__", st_LimitsU_initU, [("settled", .int 1)]⟩
def dz__law_limits : DefZ := ⟨fun K => He.ga K "_law_limits", "_law_limits", "_law_limits", st__law_limits, []⟩
def dz__law_flag : DefZ := ⟨fun K => He.ga K "_law_flag", "_law_flag", "_law_flag", st__law_flag, []⟩
def dz__law_let : DefZ := ⟨fun K => He.ga K "_law_let", "_law_let", "_law_let", st__law_let, []⟩
def dz__law_allowed : DefZ := ⟨fun K => He.ga K "_law_allowed", "_law_allowed", "_law_allowed", st__law_allowed, []⟩
def dz__law_log : DefZ := ⟨fun K => He.ga K "_law_log", "_law_log", "_law_log", st__law_log, []⟩
def dz__law_better : DefZ := ⟨fun K => He.ga K "_law_better", "_law_better", "_law_better", st__law_better, []⟩
def dz__law_due : DefZ := ⟨fun K => He.ga K "_law_due", "_law_due", "_law_due", st__law_due, []⟩
def dz__law_same : DefZ := ⟨fun K => He.ga K "_law_same", "_law_same", "_law_same", st__law_same, []⟩
def dz_check_limits : DefZ := ⟨fun K => He.ga K "check_limits", "check_limits", "check_limits", st_check_limits, []⟩
def dz_is_made_of : DefZ := ⟨fun K => He.ga K "is_made_of", "is_made_of", "is_made_of", st_is_made_of, []⟩
def dz_check_checks : DefZ := ⟨fun K => He.ga K "check_checks", "check_checks", "check_checks", st_check_checks, []⟩
def dz_check_log : DefZ := ⟨fun K => He.ga K "check_log", "check_log", "check_log", st_check_log, []⟩
def dz_spelled : DefZ := ⟨fun K => He.ga K "spelled", "spelled", "spelled", st_spelled, []⟩
def dz_beginnings : DefZ := ⟨fun K => He.ga K "beginnings", "beginnings", "beginnings", st_beginnings, []⟩
def dz_row_of : DefZ := ⟨fun K => He.ga K "row_of", "row_of", "row_of", st_row_of, []⟩
def dz_flag_of : DefZ := ⟨fun K => He.ga K "flag_of", "flag_of", "flag_of", st_flag_of, []⟩
def dz_Limits_let : DefZ := ⟨fun K => He.ma K (He.ga K "Limits") "let", "let", "Limits.let", st_Limits_let, []⟩
def dz_steps_from : DefZ := ⟨fun K => He.ga K "steps_from", "steps_from", "steps_from", st_steps_from, []⟩
def dz_is_row : DefZ := ⟨fun K => He.ga K "is_row", "is_row", "is_row", st_is_row, []⟩
def dz_is_table : DefZ := ⟨fun K => He.ga K "is_table", "is_table", "is_table", st_is_table, []⟩
def dz_row_classes : DefZ := ⟨fun K => He.ga K "row_classes", "row_classes", "row_classes", st_row_classes, []⟩
def dz_reached : DefZ := ⟨fun K => He.ga K "reached", "reached", "reached", st_reached, []⟩
def dz_smallest : DefZ := ⟨fun K => He.ga K "smallest", "smallest", "smallest", st_smallest, []⟩
def dz_RuleU_initU : DefZ := ⟨fun K => He.ma K (He.ga K "Rule") "__init__", "__init__", "Rule.__init__", st_RuleU_initU, []⟩
def dz_some_rule : DefZ := ⟨fun K => He.ga K "some_rule", "some_rule", "some_rule", st_some_rule, []⟩
def dz_next_situations : DefZ := ⟨fun K => He.ga K "next_situations", "next_situations", "next_situations", st_next_situations, []⟩
def dz_fewest_errors : DefZ := ⟨fun K => He.ga K "fewest_errors", "fewest_errors", "fewest_errors", st_fewest_errors, []⟩
def dz__law_spelled : DefZ := ⟨fun K => He.ga K "_law_spelled", "_law_spelled", "_law_spelled", st__law_spelled, []⟩
def dz__law_beginnings : DefZ := ⟨fun K => He.ga K "_law_beginnings", "_law_beginnings", "_law_beginnings", st__law_beginnings, []⟩
def dz__law_steps : DefZ := ⟨fun K => He.ga K "_law_steps", "_law_steps", "_law_steps", st__law_steps, []⟩
def dz__law_log_steps : DefZ := ⟨fun K => He.ga K "_law_log_steps", "_law_log_steps", "_law_log_steps", st__law_log_steps, []⟩
def dz__law_long : DefZ := ⟨fun K => He.ga K "_law_long", "_law_long", "_law_long", st__law_long, []⟩
def dz_law : DefZ := ⟨fun K => He.ga K "law", "law", "law", st_law, []⟩
def dz_Limits_span : DefZ := ⟨fun K => (prG K "Limits" "span").2, "span", "Limits.span", st_Limits_span, []⟩
def dz_Limits_settled : DefZ := ⟨fun K => (prG K "Limits" "settled").2, "settled", "Limits.settled", st_Limits_settled, []⟩
def dz_Rule_rows : DefZ := ⟨fun K => (prG K "Rule" "rows").2, "rows", "Rule.rows", st_Rule_rows, []⟩
def fn : List DefZ := [dz__law_pen, dz__law_cell_at, dz__law_draw, dz__law_pick, dz__law_numbers, dz__law_small, dz__law_checks, dz_is_integer, dz_is_between, dz_LimitsU_initU, dz__law_limits, dz__law_flag, dz__law_let, dz__law_allowed, dz__law_log, dz__law_better, dz__law_due, dz__law_same, dz_check_limits, dz_is_made_of, dz_check_checks, dz_check_log, dz_spelled, dz_beginnings, dz_row_of, dz_flag_of, dz_Limits_let, dz_steps_from, dz_is_row, dz_is_table, dz_row_classes, dz_reached, dz_smallest, dz_RuleU_initU, dz_some_rule, dz_next_situations, dz_fewest_errors, dz__law_spelled, dz__law_beginnings, dz__law_steps, dz__law_log_steps, dz__law_long, dz_law, dz_Limits_span, dz_Limits_settled, dz_Rule_rows]
def ex (K : PySem.W.Frag) : Bool := cliB K "Rule" && (cliB K "Limits" && (ownB K (.type "int") isl_int && (ownB K (.type "bool") isl_bool && (noKd K "Limits" && (ownB K (.ref (He.ga K "Limits")) isl_Limits && (ownB K (.type "str") isl_str && (ownB K (.type "tuple") isl_tuple && (ckV K (.ct [.ct [.int 1, .str "+"], .ct [.int 2, .str "-"]]) (.ref (He.ga K "SIDES")) && (noDg K && (propB K "Limits" "span" && (propB K "Limits" "settled" && (propB K "Rule" "rows"))))))))))))
end Lw
namespace Lw
open PySem hiding start
open PySem.Spec L2 Sr
open PyProof.Rows hiding St
abbrev R : PySem.W.OpenRow := PySem.W.OpenLaw.row PySem.Challenge.rw_statusrules_k52_fewest_errors
def ads : List Addr := ([3, 6, 4, 21, 31, 44, 56, 68, 80, 92, 111, 130, 135, 142, 149, 154, 161, 166, 173, 180, 185, 190, 197, 204, 211, 216, 221, 228, 235, 242, 249, 256, 263, 268, 275, 426, 508, 519, 526, 533] : List Addr) ++ ([540, 547, 554, 561, 568, 573, 578, 585, 592, 599, 606, 613, 620, 627, 634, 641, 646, 651, 658, 665, 672, 679, 686, 693, 700, 705, 712, 719, 0, 20, 30, 43, 55, 67, 79, 91, 110, 129, 133, 134] : List Addr) ++ ([141, 148, 153, 160, 165, 172, 179, 184, 189, 196, 203, 210, 215, 220, 227, 234, 241, 248, 255, 262, 267, 274, 425, 507, 518, 525, 532, 539, 546, 553, 560, 567, 572, 577, 584, 591, 598, 605, 612, 619] : List Addr) ++ ([626, 633, 640, 645, 650, 657, 664, 671, 678, 685, 692, 699, 704, 711, 718, 15, 16, 17, 18, 19, 29, 32, 42, 54, 66, 78, 90, 108, 109, 127, 128, 136, 137, 138, 139, 140, 143, 144, 145, 146] : List Addr) ++ ([147, 150, 151, 152, 155, 156, 157, 158, 159, 162, 163, 164, 167, 168, 169, 170, 171, 174, 175, 176, 177, 178, 181, 182, 183, 186, 187, 188, 191, 192, 193, 194, 195, 198, 199, 200, 201, 202, 205, 206] : List Addr) ++ ([207, 208, 209, 212, 213, 214, 217, 218, 219, 222, 223, 224, 225, 226, 229, 230, 231, 232, 233, 236, 237, 238, 239, 240, 243, 244, 245, 246, 247, 250, 251, 252, 253, 254, 257, 258, 259, 260, 261, 264] : List Addr) ++ ([265, 266, 269, 270, 271, 272, 273, 289, 299, 310, 318, 324, 332, 339, 346, 353, 360, 367, 374, 381, 388, 395, 402, 409, 416, 423, 424, 427, 428, 445, 453, 461, 469, 477, 484, 491, 498, 505, 506, 509] : List Addr) ++ ([510, 513, 514, 515, 516, 517, 520, 521, 522, 523, 524, 527, 528, 529, 530, 531, 534, 535, 536, 537, 538, 541, 542, 543, 544, 545, 548, 549, 550, 551, 552, 555, 556, 557, 558, 559, 562, 563, 564, 565] : List Addr) ++ ([566, 569, 570, 571, 574, 575, 576, 579, 580, 581, 582, 583, 586, 587, 588, 589, 590, 593, 594, 595, 596, 597, 600, 601, 602, 603, 604, 607, 608, 609, 610, 611, 614, 615, 616, 617, 618, 621, 622, 623] : List Addr) ++ ([624, 625, 628, 629, 630, 631, 632, 635, 636, 637, 638, 639, 642, 643, 644, 647, 648, 649, 652, 653, 654, 655, 656, 659, 660, 661, 662, 663, 666, 667, 668, 669, 670, 673, 674, 675, 676, 677, 680, 681] : List Addr) ++ ([682, 683, 684, 687, 688, 689, 690, 691, 694, 695, 696, 697, 698, 701, 702, 703, 706, 707, 708, 709, 710, 713, 714, 715, 716, 717, 107, 126, 288, 297, 298, 308, 309, 316, 317, 323, 331, 338, 345, 352] : List Addr) ++ ([359, 366, 373, 380, 387, 394, 401, 408, 415, 422, 444, 438, 452, 460, 468, 476, 483, 490, 497, 504, 102, 103, 104, 105, 106, 121, 122, 123, 124, 125, 283, 284, 285, 286, 287, 296, 290, 300, 307, 301] : List Addr) ++ ([311, 315, 319, 320, 321, 322, 330, 333, 334, 335, 336, 337, 340, 341, 342, 343, 344, 347, 348, 349, 350, 351, 354, 355, 356, 357, 358, 361, 362, 363, 364, 365, 368, 369, 370, 371, 372, 375, 376, 377] : List Addr) ++ ([378, 379, 382, 383, 384, 385, 386, 389, 390, 391, 392, 393, 396, 397, 398, 399, 400, 403, 404, 405, 406, 407, 410, 411, 412, 413, 414, 417, 418, 419, 420, 421, 439, 440, 441, 442, 443, 451, 459, 467] : List Addr) ++ ([475, 478, 479, 480, 481, 482, 485, 486, 487, 488, 489, 492, 493, 494, 495, 496, 499, 500, 501, 502, 503, 291, 292, 293, 294, 295, 302, 303, 304, 305, 306, 312, 313, 314, 325, 326, 327, 328, 329, 446] : List Addr) ++ ([447, 448, 449, 450, 454, 455, 456, 457, 458, 462, 463, 464, 465, 466, 470, 471, 472, 473, 474, 2] : List Addr)
abbrev hk : PySem.W.Hook := hookL ads fa fn ex
def ob (s : PySem.W.SharedT) : AlZ := obsL ads fa fn ex (HandSHeadRun.getT s)
def lo : List Str := (["_wall", "StatusError", "TableError", "ChecksError", "RuleError", "NumberError", "LimitsError", "TooLarge", "TextError", "UP", "DOWN", "PASS", "FAIL", "SIDES", "MOST_ROWS", "is_integer", "is_between", "is_made_of", "is_row", "is_table", "opposite", "reached", "row_classes", "smallest", "statuses_of", "first_checks", "joined", "mirrored", "ignoring", "held_place"] : List Str) ++ (["held", "MOST_CHECKS", "MOST_ADDED", "check_checks", "check_number", "check_rule", "made", "number_in", "row_in", "Rule", "MOST_FALSE", "MOST_SPAN", "MOST_SETTLED", "FALSE_PASS", "FALSE_FAIL", "NO_ERROR", "FLAGS_AT", "Limits", "check_limits", "flag_of", "spelled", "beginnings", "row_of", "steps_from", "check_log", "some_rule", "next_situations", "fewest_errors", "_law_cell_at", "_law_pen"] : List Str) ++ (["_law_draw", "_law_numbers", "_law_small", "_law_limits", "_law_checks", "_law_flag", "_law_let", "_law_allowed", "_law_log", "_law_spelled", "_law_steps", "_law_log_steps", "_law_beginnings", "_law_same", "_law_pick", "_law_better", "_law_due", "_law_long", "__name__"] : List Str)
theorem run (w : World) : HandSHeadRun.RunEq R (PySem.W.view R.prog [84]) hk ob 20000 lo w := by
  intro os
  kernel_rfl
end Lw
namespace Lw
open PySem hiding start
open L2 Sr
open Hi (rep)
def S (l : List Nat) : Str := ⟨l.toArray⟩
def fcd (s c : Bool) : Nat := if s == c then 46 else if c then 112 else 102
end Lw
namespace Sr
open PySem PySem.Spec L2
theorem seqT_mono {K : PySem.W.Frag} {H H' : Hp} {a : Addr} {xs : List V} (e : Same H H') (h : H a = some (.tup xs)) : SqT K H' a xs := SqT.of (e _ _ h)
end Sr
namespace Sr
open PySem PySem.Spec L2
theorem lky_code {P : Program} {w : World} {a : Addr} {xs : List (List Key × Addr)} {q : Str} (h : LKy P w a xs = LamX.CodeO a q) : False := by
  unfold LKy LamX.CodeO at h
  injection h with h
  have h := congrFun h ⟨Array.replicate (a + 1) { cls := .none, data := .fields #[.none, .str q 0] }, {}⟩
  have g : (⟨Array.replicate (a + 1) { cls := .none, data := .fields #[.none, .str q 0] }, {}⟩ : Heap).get? a = some { cls := .none, data := .fields #[.none, .str q 0] } := by
    unfold Heap.get?
    have : (Array.replicate (a + 1) ({ cls := .none, data := .fields #[.none, .str q 0] } : Obj))[a]? = some { cls := .none, data := .fields #[.none, .str q 0] } := by
      rw [Array.getElem?_replicate, if_pos (by omega)]
    simp only [this]
  have r := h.mpr ⟨_, _, _, g, rfl, rfl⟩
  obtain ⟨_, _, o, es, ep, h1, _, h2, _⟩ := r
  rw [g] at h1
  cases h1
  cases h2
theorem uf_none {H : Hp} {p : Addr} (h : H p = none) : ∀ u, H p = some u → NTb u ∧ ∀ φ, u ≠ .ext φ := fun u z => by rw [h] at z; cases z
theorem uf_some {H : Hp} {p : Addr} {o : HO} (h : H p = some o) (h1 : NTb o) (h2 : ∀ φ, o ≠ .ext φ) : ∀ u, H p = some u → NTb u ∧ ∀ φ, u ≠ .ext φ := fun u z => by rw [h] at z; cases z; exact ⟨h1, h2⟩
variable [TabL]
section
variable (K : PySem.W.Frag) (mg : Str → Option Value)
def Rq (H F : Hp) : D → V → Prop
  | .lst ds, v => ∃ a xs, v = .ref a ∧ H a = some (.lst xs) ∧ RpL K mg F ds xs
  | .dk ds, v => ∃ a xs, v = .ref a ∧ Rd H a (.dK xs) ∧ RpK K mg F ds xs
  | .dt ds, v => ∃ a xs, v = .ref a ∧ H a = some (.dT xs) ∧ RpT K mg F ds xs
  | .obj c fs, v => ∃ a C dx gs, v = .ref a ∧ mg c = some (.ref C) ∧ H a = some (.ins C dx gs) ∧ RpF K mg F fs gs
  | .dl _, v => ∃ a, v = .ref a
  | d, v => Rp K mg F d v
end
def NoP (T : Pn) (i : Nat) : Prop := ∀ q ∈ T, q.1 ≠ i
theorem noP_nil {i : Nat} : NoP [] i := fun _ h => nomatch h
theorem noP_cons {T : Pn} {i j : Nat} {p : Addr} (h : j ≠ i) (hs : NoP T i) : NoP ((j, p) :: T) i := fun q hq => by
  rcases List.mem_cons.mp hq with rfl | hq
  · exact h
  · exact hs q hq
theorem noPs_nil {vs : List Nat} : ∀ v ∈ vs, NoP [] v := fun _ _ => noP_nil
theorem Al.one {H F : Hp} {p : Addr} {o : HO} (h : H p = none) (n : NTb o := by first | assumption | (intro _ z; exact nomatch z) | (intro _ z; cases z)) : Al H F (upd H p o) (upd F p o) := .inr ⟨p, o, h, rfl, rfl, n⟩
section
variable {K : PySem.W.Frag} {mg : Str → Option Value} {T : Pn} {e e' : En} {σ σ' : St} {H F H' F' : Hp} {p a : Addr} {d : D} {v : V}
theorem OwnAt.noCode (h : OwnAt K mg H F p d) {q : Str} (ho : H p = some (LamX.CodeO p q)) : False := by
  cases d <;> try (exact h.elim)
  · obtain ⟨xs, h1, h2⟩ := h; rw [h1] at ho; cases ho
  · obtain ⟨xs, h1, h2⟩ := h; rw [h1] at ho; cases ho
  · obtain ⟨xs, h1, h2⟩ := h; rw [h1] at ho; cases ho
  · obtain ⟨C, dx, xs, m, h1, h2⟩ := h; rw [h1] at ho; cases ho
  · obtain ⟨xs, h1, h2⟩ := h; rw [h1] at ho; exact lky_code (Option.some.inj ho)
theorem TbOk.upW {H F : Hp} {p : Addr} {o : HO} (t : TbOk H F) (np : ∀ ps, H p ≠ some (.tbl ps)) (nx : ∀ q, H p ≠ some (LamX.CodeO p q)) (n : NTb o) : TbOk (upd H p o) F := by
  refine ⟨fun q hq => ?_, t.nt, fun a ps z => ?_⟩
  · obtain ⟨ps, h1, h2, h3⟩ := t.tabs q hq
    have k : ∀ b u, b ≠ p → H b = some u → upd H p o b = some u := fun b u hb h => by rw [upd_ne hb]; exact h
    refine ⟨ps, k _ _ (fun z => np ps (by rw [← z]; exact h1)) h1, h2, fun pos cv hc => ?_⟩
    obtain ⟨c, e1, e2⟩ := h3 pos cv hc
    exact ⟨c, e1, k _ _ (fun z => by subst z; exact nx _ e2) e2⟩
  · by_cases hb : a = p
    · subst hb; rw [upd_same] at z; cases z; exact (n ps rfl).elim
    · rw [upd_ne hb] at z; exact t.all a ps z
theorem TbOk.write {H F : Hp} {p : Addr} {d : D} {o : HO} (t : TbOk H F) (ow : OwnAt K mg H F p d) (n : NTb o) : TbOk (upd H p o) F :=
  t.upW (fun ps z => ow.nt z ps rfl) (fun q z => ow.noCode z) n
theorem OwnAt.rp (h : OwnAt K mg H F p d) (n : F p = none) {o : HO} (ho : H p = some o) : Rp K mg (upd F p o) d (.ref p) := by
  have s : Same F (upd F p o) := same_upd n
  cases d <;> try (exact h.elim)
  · obtain ⟨xs, h1, h2⟩ := h; rw [ho] at h1; cases h1
    unfold Rp
    exact ⟨p, xs, rfl, upd_same, RpL.mono s _ _ h2⟩
  · obtain ⟨xs, h1, h2⟩ := h; rw [ho] at h1; cases h1
    unfold Rp
    exact ⟨p, xs, rfl, .inl upd_same, RpK.mono s _ _ h2⟩
  · obtain ⟨xs, h1, h2⟩ := h; rw [ho] at h1; cases h1
    unfold Rp
    exact ⟨p, xs, rfl, upd_same, RpT.mono s _ _ h2⟩
  · obtain ⟨C, dx, xs, m, h1, h2⟩ := h; rw [ho] at h1; cases h1
    unfold Rp
    exact ⟨p, C, dx, xs, rfl, m, upd_same, RpF.mono s _ _ h2⟩
  · obtain ⟨xs, h1, h2⟩ := h; rw [ho] at h1; cases h1
    unfold Rp
    exact ⟨p, _, rfl, upd_same⟩
theorem OwnAt.rq (h : OwnAt K mg H F p d) : Rq K mg H F d (.ref p) := by
  cases d <;> try (exact h.elim)
  · obtain ⟨xs, h1, h2⟩ := h; exact ⟨p, xs, rfl, h1, h2⟩
  · obtain ⟨xs, h1, h2⟩ := h; exact ⟨p, xs, rfl, .inl h1, h2⟩
  · obtain ⟨xs, h1, h2⟩ := h; exact ⟨p, xs, rfl, h1, h2⟩
  · obtain ⟨C, dx, xs, m, h1, h2⟩ := h; exact ⟨p, C, dx, xs, rfl, m, h1, h2⟩
  · exact ⟨p, rfl⟩
theorem Rp.rq (s : Same F H) (h : Rp K mg F d v) : Rq K mg H F d v := by
  cases d <;> unfold Rq <;> try (exact h)
  · unfold Rp at h
    obtain ⟨a, xs, e, q, r⟩ := h
    exact ⟨a, xs, e, s _ _ q, r⟩
  · unfold Rp at h
    obtain ⟨a, xs, e, q, r⟩ := h
    exact ⟨a, xs, e, rd_mono s q, r⟩
  · unfold Rp at h
    obtain ⟨a, xs, e, q, r⟩ := h
    exact ⟨a, xs, e, s _ _ q, r⟩
  · unfold Rp at h
    obtain ⟨a, C, dx, xs, e, m, q, r⟩ := h
    exact ⟨a, C, dx, xs, e, m, s _ _ q, r⟩
  · unfold Rp at h
    obtain ⟨a, φ, e, _⟩ := h
    exact ⟨a, e⟩
theorem Ow.ne_of_free (r : ER K mg T e σ H F) (h : H a = none) : ¬ Ow e σ a := by
  rintro ⟨i, d, h1, h2⟩
  obtain ⟨p, h3, _, h4⟩ := r.own i d h1
  rw [h3] at h2; cases h2
  obtain ⟨o, ho⟩ := h4.there
  rw [ho] at h; cases h
theorem ER.freeze (r : ER K mg T e σ H F) (n : F p = none) (w : ¬ Ow e σ p) {o : HO} (ho : H p = some o) (nt : NTb o := by first | assumption | (intro _ z; exact nomatch z) | (intro _ z; cases z)) : ER K mg T e σ H (upd F p o) := by
  have s : Same F (upd F p o) := same_upd n
  refine ⟨fun b u q => ?_, fun i d h => ?_, fun i d h => ?_, r.inj, r.len, r.pin, r.tb.updF nt⟩
  · by_cases hb : b = p
    · subst hb; rw [upd_same] at q; cases q; exact ho
    · rw [upd_ne hb] at q; exact r.sub b u q
  · obtain ⟨v, h1, h2⟩ := r.val i d h
    exact ⟨v, h1, Rp.mono s _ _ h2⟩
  · obtain ⟨q, h1, h2, h3⟩ := r.own i d h
    refine ⟨q, h1, ?_, h3.keep s fun _ z => z⟩
    have hqp : q ≠ p := by
      rintro rfl
      exact w ⟨i, d, h, h1⟩
    rw [upd_ne hqp]; exact h2
theorem ER.freezeAt {i : Nat} (r : ER K mg T e σ H F) (h : e[i]? = some (.own d)) (hp : σ[i]? = some (some (.ref p))) {o : HO} (ho : H p = some o) : ER K mg T (e.set i (.val d)) σ H (upd F p o) ∧ Rp K mg (upd F p o) d (.ref p) ∧ Mv e σ H F (e.set i (.val d)) σ H (upd F p o) := by
  obtain ⟨q, h1, h2, h3⟩ := r.own i d h
  rw [hp] at h1; cases h1
  have s : Same F (upd F p o) := same_upd h2
  have hrp := h3.rp h2 ho
  have hi : i < e.length := (List.getElem?_eq_some_iff.mp h).1
  have other : ∀ (j : Nat) (x : D), (e.set i (Sl.val d))[j]? = some (.own x) → e[j]? = some (.own x) ∧ j ≠ i := fun j x q => by
    by_cases hj : j = i
    · subst hj; rw [List.getElem?_set_self hi] at q; cases q
    · rw [List.getElem?_set_ne (Ne.symm hj)] at q; exact ⟨q, hj⟩
  refine ⟨⟨fun b u q => ?_, fun j x q => ?_, fun j x q => ?_, fun j k p' x y q1 q2 => r.inj j k p' x y (other j x q1).1 (other k y q2).1, by rw [List.length_set]; exact r.len, r.pin, r.tb.updF (h3.nt ho)⟩, hrp, s, fun a u q n => ⟨fun _ => q, ?_⟩, fun a u q => ?_, fun a q => q⟩
  · by_cases hb : b = p
    · subst hb; rw [upd_same] at q; cases q; exact ho
    · rw [upd_ne hb] at q; exact r.sub b u q
  · by_cases hj : j = i
    · subst hj; rw [List.getElem?_set_self hi] at q; cases q
      exact ⟨_, hp, hrp⟩
    · rw [List.getElem?_set_ne (Ne.symm hj)] at q
      obtain ⟨v, h4, h5⟩ := r.val j x q
      exact ⟨v, h4, Rp.mono s _ _ h5⟩
  · obtain ⟨q, hj⟩ := other j x q
    obtain ⟨p', h4, h5, h6⟩ := r.own j x q
    refine ⟨p', h4, ?_, h6.keep s fun _ z => z⟩
    rw [upd_ne]; exact h5
    rintro rfl
    exact hj (r.inj j i p' x d q h h4 hp)
  · rintro ⟨j, x, q1, q2⟩
    exact n ⟨j, x, (other j x q1).1, q2⟩
  · by_cases hb : a = p
    · subst hb; exact .inr (.inr ⟨i, d, h, hp⟩)
    · rw [upd_ne hb] at q; exact .inl q
end
section
variable (K : PySem.W.Frag) (mg : Str → Option Value) (T : Pn) (W : WX)
def TV (m : M D) : TE := fun σ H Q => ∃ e F, ER K mg T e σ H F ∧ RunAt K mg T W e F m σ H fun d _ H' F' => ∀ v, Rp K mg F' d v → Q v H'
def TO (m : M D) : TE := fun σ H Q => ∃ e F, ER K mg T e σ H F ∧ RunAt K mg T W e F m σ H fun d e' H' F' => ∀ p, H p = none → F' p = none → ¬ Ow e' σ p → OwnAt K mg H' F' p d → Q (.ref p) H'
def TT' (m : M Bool) : TT := fun σ H Q => ∃ e F, ER K mg T e σ H F ∧ RunAt K mg T W e F m σ H fun b _ H' F' => Q b H'
def TAs (m : M (List D)) : TA := fun σ H Q => ∃ e F, ER K mg T e σ H F ∧ RunAt K mg T W e F m σ H fun ds _ H' F' => ∀ vs, RpL K mg F' ds vs → Q vs H'
end
section
variable {K : PySem.W.Frag} {mg : Str → Option Value} {T : Pn} {W : WX} {A B : Type} {e : En} {σ : St} {H F : Hp}
theorem RunAt.bind {m : M A} {f : A → M B} {P : B → En → Hp → Hp → Prop} (h : RunAt K mg T W e F (bnd m f) σ H P) : RunAt K mg T W e F m σ H fun a e1 H1 F1 => RunAt K mg T W e1 F1 (f a) σ H1 P := by
  unfold RunAt bnd at h
  unfold RunAt
  cases q : m e with
  | ok a e1 =>
    rw [q] at h
    dsimp only at h ⊢
    intro H1 F1 er1 mv1
    cases q2 : f a e1 with
    | ok b e2 =>
      rw [q2] at h
      exact fun H2 F2 er2 mv2 => h H2 F2 er2 (mv1.trans mv2)
    | exc x e2 =>
      rw [q2] at h
      exact fun H2 F2 cl dd er2 mv2 => h H2 F2 cl dd er2 (mv1.trans mv2)
    | bad => rw [q2] at h; exact h
  | exc x e' => rw [q] at h; exact h
  | bad => rw [q] at h; exact h
theorem RunAt.rfin {a : A} {P : A → En → Hp → Hp → Prop} (h : RunAt K mg T W e F (ret a) σ H P) (er : ER K mg T e σ H F) : ∀ H' F', Al H F H' F' → P a e H' F' :=
  fun H' F' al => h H' F' (er.al al) (Mv.al er al)
end
end Sr
namespace Sr
variable [TabL]
open PySem PySem.Spec L2
open PyProof.Rows hiding St
theorem PEimp {X : Cx} {e : Expr} {t t' : TE} (h : PE X e t) (k : ∀ σ H Q, t' σ H Q → t σ H Q) : PE X e t' := ⟨fun pins s σ H Q I q => h.run pins s σ H Q I (k σ H Q q)⟩
abbrev JV (X : Cx) (T : Pn) (W : WX) (e : Expr) (m : M D) : Prop := PE X e (TV X.K X.mg T W m)
abbrev JO (X : Cx) (T : Pn) (W : WX) (e : Expr) (m : M D) : Prop := PE X e (TO X.K X.mg T W m)
abbrev JT (X : Cx) (T : Pn) (W : WX) (e : Expr) (m : M Bool) : Prop := PT X e (TT' X.K X.mg T W m)
abbrev JW (X : Cx) (T : Pn) (W : WX) (e : Expr) (m : M Bool) : Prop := PW X e (TT' X.K X.mg T W m)
abbrev JA (X : Cx) (T : Pn) (W : WX) (es : List Expr) (m : M (List D)) : Prop := PA X es (TAs X.K X.mg T W m)
def TBw (K : PySem.W.Frag) (mg : Str → Option Value) (T : Pn) (W : WX) (m : M Bv) : TE := fun σ H Q => ∃ e F, ER K mg T e σ H F ∧ RunAt K mg T W e F m σ H fun b _ H' F' => ∀ v, BwR K mg σ F' b v → Q v H'
abbrev JB (X : Cx) (T : Pn) (W : WX) (e : Expr) (m : M Bv) : Prop := PE X e (TBw X.K X.mg T W m)
def der (b : Bv) : M D := fun e => match b with
  | .val d => .ok d e
  | .slot i => match e[i]? with
    | some (.val d) => .ok d e
    | some (.own d) => .ok d e
    | _ => .bad
section
variable {K : PySem.W.Frag} {mg : Str → Option Value} {T : Pn} {W : WX} {e : En} {σ : St} {H F F' : Hp} {b : Bv} {v : V}
theorem der_fin {P : D → En → Hp → Hp → Prop} (h : RunAt K mg T W e F (der b) σ H P) (er : ER K mg T e σ H F) (hb : BwR K mg σ F b v) : ∃ d, Rq K mg H F d v ∧ P d e H F := by
  cases b with
  | val d => exact ⟨d, Rp.rq er.sub hb, h H F er Mv.refl⟩
  | slot i =>
    unfold RunAt der at h
    cases q : e[i]? with
    | none => simp only [q] at h
    | some sl =>
      cases sl with
      | no => simp only [q] at h
      | val d =>
        simp only [q] at h
        obtain ⟨w, h1, h2⟩ := er.val i d q
        have hv : σ[i]? = some (some v) := hb
        rw [h1] at hv; cases hv
        exact ⟨d, Rp.rq er.sub h2, h H F er Mv.refl⟩
      | own d =>
        simp only [q] at h
        obtain ⟨p, h1, h2, h3⟩ := er.own i d q
        have hv : σ[i]? = some (some v) := hb
        rw [h1] at hv; cases hv
        exact ⟨d, h3.rq, h H F er Mv.refl⟩
end
section
variable {X : Cx} {T : Pn} {W : WX} {pos : Pos} {a b c : Expr} {ma mb mc : M D}
theorem ofO {m : M D} (h : JO X T W a m) : JV X T W a m := by
  refine PEimp h fun σ H Q ⟨e, F, er, q⟩ => ⟨e, F, er, ?_⟩
  unfold RunAt at q ⊢
  cases r : m e with
  | ok d e' =>
    rw [r] at q
    intro H' F' er' mv p hp fp np ow
    obtain ⟨o, ho⟩ := ow.there
    refine q H' (upd F' p o) (er'.freeze fp np ho (ow.nt ho)) ⟨mv.sub.trans (same_upd fp), mv.keep, fun c u hc => ?_, mv.there⟩ _ (ow.rp fp ho)
    by_cases hcp : c = p
    · subst hcp; exact .inr (.inl hp)
    · rw [upd_ne hcp] at hc; exact mv.new c u hc
  | exc x e' => rw [r] at q; exact q
  | bad => rw [r] at q; exact q
def mB (m : M D) : M Bv := bnd m fun d => ret (.val d)
theorem ofV {m : M D} (h : JV X T W a m) : JB X T W a (mB m) := by
  refine PEimp h fun σ H Q ⟨e, F, er, q⟩ => ⟨e, F, er, q.bind.mono fun d e1 H1 F1 er1 mv1 q1 v hv => q1.rfin er1 H1 F1 Al.refl v hv⟩
theorem jv_int {i j} : JV X T W (.Constant (.int i) j pos) (ret (.int i)) := PEimp pe_int fun σ H Q ⟨e, F, er, h⟩ => h.rfin er H F Al.refl _ (by unfold Rp; rfl)
theorem jv_bl {i j} : JV X T W (.Constant (.bool i) j pos) (ret (.bl i)) := PEimp pe_bl fun σ H Q ⟨e, F, er, h⟩ => h.rfin er H F Al.refl _ (by unfold Rp; rfl)
theorem jv_str {i j} : JV X T W (.Constant (.str i) j pos) (ret (.str i)) := PEimp pe_str fun σ H Q ⟨e, F, er, h⟩ => h.rfin er H F Al.refl _ (by unfold Rp; rfl)
theorem jv_non {j} : JV X T W (.Constant .none j pos) (ret .non) := PEimp pe_non fun σ H Q ⟨e, F, er, h⟩ => h.rfin er H F Al.refl _ (by unfold Rp; rfl)
theorem jv_glob {x : Str} {v : V} {u : Value} {d : D} (hg : Gl X x) (hm : X.mg x = some u) (r : RelV v u) (hd : ∀ F, Rp X.K X.mg F d v) (hx : (x == ("__debug__" : Str)) = false := by decide) : JV X T W (.Name x pos) (ret d) :=
  PEimp (pe_glob hg hm r hx) fun σ H Q ⟨e, F, er, h⟩ => h.rfin er H F Al.refl _ (hd F)
def mN (i : Nat) : M D := fun e => match e[i]? with
  | some (.val d) => .ok d e
  | some (.own d) => .ok d (e.set i (.val d))
  | _ => .bad
def mNB (i : Nat) : M Bv := fun e => match e[i]? with
  | some (.val d) => .ok (.val d) e
  | some (.own _) => .ok (.slot i) e
  | _ => .bad
theorem jv_name (i : Nat) {x : Str} (hN : X.N[i]? = some x := by rfl) (hv : Vis X.env.scope x := by first | exact Or.inl rfl | exact Or.inr (Or.inl rfl) | exact Or.inr (Or.inr rfl)) (hd : (x == ("__debug__" : Str)) = false := by decide)
    (hcd : (x == ("__classdict__" : Str)) = false := by decide) : JV X T W (.Name x pos) (mN i) := by
  refine PEimp (pe_var hN hv hd hcd) fun σ H Q ⟨e, F, er, h⟩ => ?_
  unfold RunAt mN at h
  cases q : e[i]? with
  | none => simp only [q] at h
  | some sl =>
    cases sl with
    | no => simp only [q] at h
    | val d =>
      simp only [q] at h
      obtain ⟨v, h1, h2⟩ := er.val i d q
      exact ⟨v, h1, h H F er Mv.refl v h2⟩
    | own d =>
      simp only [q] at h
      obtain ⟨p, h1, h2, h3⟩ := er.own i d q
      obtain ⟨o, ho⟩ := h3.there
      obtain ⟨er', hr, mv⟩ := er.freezeAt q h1 ho
      exact ⟨_, h1, h H _ er' mv _ hr⟩
theorem jb_name (i : Nat) {x : Str} (hN : X.N[i]? = some x := by rfl) (hv : Vis X.env.scope x := by first | exact Or.inl rfl | exact Or.inr (Or.inl rfl) | exact Or.inr (Or.inr rfl)) (hd : (x == ("__debug__" : Str)) = false := by decide)
    (hcd : (x == ("__classdict__" : Str)) = false := by decide) : JB X T W (.Name x pos) (mNB i) := by
  refine PEimp (pe_var hN hv hd hcd) fun σ H Q ⟨e, F, er, h⟩ => ?_
  unfold RunAt mNB at h
  cases q : e[i]? with
  | none => simp only [q] at h
  | some sl =>
    cases sl with
    | no => simp only [q] at h
    | val d =>
      simp only [q] at h
      obtain ⟨v, h1, h2⟩ := er.val i d q
      exact ⟨v, h1, h H F er Mv.refl v h2⟩
    | own d =>
      simp only [q] at h
      obtain ⟨p, h1, h2, h3⟩ := er.own i d q
      exact ⟨_, h1, h H F er Mv.refl _ h1⟩
def Op2 (X : Cx) (f : Value → Value → Sem Value) (g : D → D → Option D) : Prop :=
  ∀ (H F : Hp) (x y : V) (d1 d2 d : D), Same F H → Rq X.K X.mg H F d1 x → Rq X.K X.mg H F d2 y → g d1 d2 = some d →
    ∃ r : R2, OpR X f r ∧ ∀ Q : VK, (∀ H' F' z, Al H F H' F' → Rp X.K X.mg F' d z → Q z H') → r x y H Q
theorem Op2.or {f : Value → Value → Sem Value} {g g' : D → D → Option D} (h : Op2 X f g) (h' : Op2 X f g') : Op2 X f (fun a b => (g a b).or (g' a b)) := by
  intro H F x y d1 d2 d s r1 r2 e
  cases q : g d1 d2 with
  | some z => simp only [q, Option.some_or] at e; cases e; exact h H F x y d1 d2 _ s r1 r2 q
  | none => simp only [q, Option.none_or] at e; exact h' H F x y d1 d2 d s r1 r2 e
def m2 (g : D → D → Option D) (ma mb : M D) : M D := bnd ma fun d1 => bnd mb fun d2 => opt (g d1 d2)
def m2b (g : D → D → Option D) (ma : M Bv) (mb : M D) : M D := bnd ma fun b1 => bnd mb fun d2 => bnd (der b1) fun d1 => opt (g d1 d2)
def m2r (g : D → D → Option D) (ma : M D) (mb : M Bv) : M D := bnd ma fun d1 => bnd mb fun b2 => bnd (der b2) fun d2 => opt (g d1 d2)
section
variable {f : Value → Value → Sem Value} {g : D → D → Option D} {R : V → V → Hp → Prop} {Q : VK}
theorem run2 (ho : Op2 X f g) {σ : St} {H : Hp} (h : TV X.K X.mg T W (m2 g ma mb) σ H Q) : TV X.K X.mg T W ma σ H fun x H1 => TV X.K X.mg T W mb σ H1 fun y H2 => ∃ r, OpR X f r ∧ r x y H2 Q := by
  obtain ⟨e, F, er, h⟩ := h
  refine ⟨e, F, er, h.bind.mono fun d1 e1 H1 F1 er1 mv1 h1 v hv => ⟨e1, F1, er1, h1.bind.mono fun d2 e2 H2 F2 er2 mv2 h2 w hw => ?_⟩⟩
  obtain ⟨d, hd, fin⟩ := h2.fin er2
  obtain ⟨r, hr, q⟩ := ho H2 F2 v w d1 d2 d er2.sub (Rp.rq er2.sub (Rp.mono mv2.sub _ _ hv)) (Rp.rq er2.sub hw) hd
  exact ⟨r, hr, q Q fun H' F' z al hz => fin H' F' al z hz⟩
theorem run2r {mb2 : M Bv} (ho : Op2 X f g) {σ : St} {H : Hp} (h : TV X.K X.mg T W (m2r g ma mb2) σ H Q) : TV X.K X.mg T W ma σ H fun x H1 => TBw X.K X.mg T W mb2 σ H1 fun y H2 => ∃ r, OpR X f r ∧ r x y H2 Q := by
  obtain ⟨e, F, er, h⟩ := h
  refine ⟨e, F, er, h.bind.mono fun d1 e1 H1 F1 er1 mv1 h1 v hv => ⟨e1, F1, er1, h1.bind.mono fun b2 e2 H2 F2 er2 mv2 h2 w hw => ?_⟩⟩
  obtain ⟨d2, r2, h3⟩ := der_fin h2.bind er2 hw
  obtain ⟨d, hd, fin⟩ := h3.fin er2
  obtain ⟨r, hr, q⟩ := ho H2 F2 v w d1 d2 d er2.sub (Rp.rq er2.sub (Rp.mono mv2.sub _ _ hv)) r2 hd
  exact ⟨r, hr, q Q fun H' F' z al hz => fin H' F' al z hz⟩
end
def rAny (X : Cx) (f : Value → Value → Sem Value) : R2 := fun x y H Q => ∃ r, OpR X f r ∧ r x y H Q
theorem opAny {f : Value → Value → Sem Value} : OpR X f (rAny X f) := fun pins s σ H x y v u Q I rx ry ⟨r, hr, q⟩ => hr pins s σ H x y v u Q I rx ry q
theorem jv_bin {op : Operator} {g : D → D → Option D} (ho : Op2 X (binaryOp op) g) (ha : JV X T W a ma) (hb : JV X T W b mb) : JV X T W (.BinOp a op b pos) (m2 g ma mb) :=
  PEimp (pe_op opAny ha hb) fun σ H Q h => run2 ho h
theorem jv_cmp {op : CmpOp} {g : D → D → Option D} (ho : Op2 X (compareOp op) g) (ha : JV X T W a ma) (hb : JV X T W b mb) (hm : behindInMarks op b = false := by first | exact nomark _ | rfl) : JV X T W (.Compare a [op] [b] pos) (m2 g ma mb) :=
  PEimp (pe_cmpR opAny ha hb hm) fun σ H Q h => run2 ho h
def asB : D → Option Bool
  | .bl b => some b
  | _ => none
def mT (m : M D) : M Bool := bnd m fun d => opt (asB d)
theorem runT {σ : St} {H : Hp} {Q : Bool → Hp → Prop} (h : TT' X.K X.mg T W (mT ma) σ H Q) : TV X.K X.mg T W ma σ H fun x H1 => ∃ k, x = .bl k ∧ Q k H1 := by
  obtain ⟨e, F, er, h⟩ := h
  refine ⟨e, F, er, h.bind.mono fun d e1 H1 F1 er1 mv1 h1 v hv => ?_⟩
  obtain ⟨k, hk, fin⟩ := h1.fin er1
  cases d <;> cases hk
  unfold Rp at hv
  exact ⟨_, hv, fin H1 F1 Al.refl⟩
theorem PTimp {e : Expr} {t t' : TT} (h : PT X e t) (k : ∀ σ H Q, t' σ H Q → t σ H Q) : PT X e t' := ⟨fun pins s σ H Q I q => h.run pins s σ H Q I (k σ H Q q)⟩
theorem PWimp {e : Expr} {t t' : TT} (h : PW X e t) (k : ∀ σ H Q, t' σ H Q → t σ H Q) : PW X e t' := ⟨fun wh pins s σ H Q I q => h.run wh pins s σ H Q I (k σ H Q q)⟩
theorem jt_cmp {op : CmpOp} {g : D → D → Option D} (ho : Op2 X (compareOp op) g) (ha : JV X T W a ma) (hb : JV X T W b mb) (hm : behindInMarks op b = false := by first | exact nomark _ | rfl) : JT X T W (.Compare a [op] [b] pos) (mT (m2 g ma mb)) :=
  PTimp (pt_cmpR opAny ha hb hm) fun σ H Q h => run2 ho (runT h)
theorem jt_cmpR {op : CmpOp} {g : D → D → Option D} {m1 : M Bv} (ho : Op2 X (compareOp op) g) (ha : JV X T W a ma) (hb : JB X T W b m1) (hm : behindInMarks op b = false := by first | exact nomark _ | rfl) : JT X T W (.Compare a [op] [b] pos) (mT (m2r g ma m1)) :=
  PTimp (pt_cmpR opAny ha hb hm) fun σ H Q h => run2r ho (runT h)
def mChain (g g' : D → D → Option D) (ma mb mc : M D) : M D := bnd ma fun d1 => bnd mb fun d2 => bnd (opt ((g d1 d2).bind asB)) fun k => if k = true then bnd mc fun d3 => opt (g' d2 d3) else ret (.bl false)
theorem runChain {op op' : CmpOp} {g g' : D → D → Option D} {Q : VK} {σ : St} {H : Hp} (ho : Op2 X (compareOp op) g) (ho' : Op2 X (compareOp op') g') (h : TV X.K X.mg T W (mChain g g' ma mb mc) σ H Q) :
    tChain (rAny X (compareOp op)) (rAny X (compareOp op')) (TV X.K X.mg T W ma) (TV X.K X.mg T W mb) (TV X.K X.mg T W mc) σ H Q := by
  obtain ⟨e, F, er, h⟩ := h
  refine ⟨e, F, er, h.bind.mono fun d1 e1 H1 F1 er1 mv1 h1 v hv => ⟨e1, F1, er1, h1.bind.mono fun d2 e2 H2 F2 er2 mv2 h2 w hw => ?_⟩⟩
  obtain ⟨k, hk, fin⟩ := h2.bind.fin er2
  cases hg : g d1 d2 with
  | none => rw [hg] at hk; cases hk
  | some d =>
    rw [hg] at hk
    obtain ⟨r, hr, q⟩ := ho H2 F2 v w d1 d2 d er2.sub (Rp.rq er2.sub (Rp.mono mv2.sub _ _ hv)) (Rp.rq er2.sub hw) hg
    refine ⟨r, hr, q _ fun H' F' z al hz => ?_⟩
    cases d <;> cases hk
    unfold Rp at hz
    have er3 := er2.al al
    have s3 : Same F2 F' := (al.same er2.sub).1
    refine ⟨k, hz, ?_⟩
    have h3 := fin H' F' al
    cases k with
    | false =>
      rw [if_neg (by decide)] at h3 ⊢
      exact h3.rfin er3 H' F' Al.refl _ (by unfold Rp; rfl)
    | true =>
      rw [if_pos rfl] at h3 ⊢
      refine ⟨e2, F', er3, h3.bind.mono fun d3 e4 H4 F4 er4 mv4 h4 y hy => ?_⟩
      obtain ⟨d', hd', fin'⟩ := h4.fin er4
      obtain ⟨r', hr', q'⟩ := ho' H4 F4 w y d2 d3 d' er4.sub (Rp.rq er4.sub (Rp.mono (s3.trans mv4.sub) _ _ hw)) (Rp.rq er4.sub hy) hd'
      exact ⟨r', hr', q' Q fun H' F' z al hz => fin' H' F' al z hz⟩
theorem jv_chain {op op' : CmpOp} {g g' : D → D → Option D} (ho : Op2 X (compareOp op) g) (ho' : Op2 X (compareOp op') g') (ha : JV X T W a ma) (hb : JV X T W b mb) (hc : JV X T W c mc)
    (hm : lastMarks [op, op'] [b, c] = false := by with_unfolding_all rfl) : JV X T W (.Compare a [op, op'] [b, c] pos) (mChain g g' ma mb mc) :=
  PEimp (pe_chain opAny opAny ha hb hc hm) fun σ H Q h => runChain ho ho' h
theorem jt_chain {op op' : CmpOp} {g g' : D → D → Option D} (ho : Op2 X (compareOp op) g) (ho' : Op2 X (compareOp op') g') (ha : JV X T W a ma) (hb : JV X T W b mb) (hc : JV X T W c mc)
    (hm : lastMarks [op, op'] [b, c] = false := by with_unfolding_all rfl) : JT X T W (.Compare a [op, op'] [b, c] pos) (mT (mChain g g' ma mb mc)) :=
  PTimp (pt_chain opAny opAny ha hb hc hm) fun σ H Q h => runChain ho ho' (runT h)
def mAnd (m m' : M Bool) : M Bool := bnd m fun k => if k = true then m' else ret false
def mOr (m m' : M Bool) : M Bool := bnd m fun k => if k = true then ret true else m'
def mNot (m : M Bool) : M Bool := bnd m fun k => ret (!k)
variable {rest : List Expr} {n n' : M Bool}
theorem jw_and1 (ha : JT X T W a n) : JW X T W (.BoolOp .And [a] pos) n := pw_and1 ha
theorem jw_or1 (ha : JT X T W a n) : JW X T W (.BoolOp .Or [a] pos) n := pw_or1 ha
theorem jw_and (ha : JT X T W a n) (hb : JW X T W (.BoolOp .And (b :: rest) pos) n') : JW X T W (.BoolOp .And (a :: b :: rest) pos) (mAnd n n') := by
  refine PWimp (pw_and ha hb) fun σ H Q ⟨e, F, er, h⟩ => ⟨e, F, er, h.bind.mono fun k e1 H1 F1 er1 mv1 h1 => ?_⟩
  cases k with
  | true => rw [if_pos rfl] at h1 ⊢; exact ⟨e1, F1, er1, h1⟩
  | false => rw [if_neg (by decide)] at h1 ⊢; exact h1.rfin er1 H1 F1 Al.refl
theorem jw_or (ha : JT X T W a n) (hb : JW X T W (.BoolOp .Or (b :: rest) pos) n') : JW X T W (.BoolOp .Or (a :: b :: rest) pos) (mOr n n') := by
  refine PWimp (pw_or ha hb) fun σ H Q ⟨e, F, er, h⟩ => ⟨e, F, er, h.bind.mono fun k e1 H1 F1 er1 mv1 h1 => ?_⟩
  cases k with
  | false => rw [if_neg (by decide)] at h1 ⊢; exact ⟨e1, F1, er1, h1⟩
  | true => rw [if_pos rfl] at h1 ⊢; exact h1.rfin er1 H1 F1 Al.refl
theorem ofW (h : JW X T W a n) : JT X T W a n := h.pt
theorem jt_not (ha : JT X T W a n) : JT X T W (.UnaryOp .Not a pos) (mNot n) :=
  PTimp (pt_not ha) fun σ H Q ⟨e, F, er, h⟩ => ⟨e, F, er, h.bind.mono fun k e1 H1 F1 er1 mv1 h1 => h1.rfin er1 H1 F1 Al.refl⟩
def mAndV (m m' : M D) : M D := bnd m fun d => bnd (opt (asB d)) fun k => if k = true then m' else ret (.bl false)
def mOrV (m m' : M D) : M D := bnd m fun d => bnd (opt (asB d)) fun k => if k = true then ret (.bl true) else m'
def mNotV (m : M D) : M D := bnd m fun d => opt ((asB d).map fun k => .bl (!k))
theorem jv_one {op} (h : JV X T W a ma) : JV X T W (.BoolOp op [a] pos) ma := pe_one h
theorem jv_and (ha : JV X T W a ma) (hb : JV X T W (.BoolOp .And (b :: rest) pos) mb) : JV X T W (.BoolOp .And (a :: b :: rest) pos) (mAndV ma mb) := by
  refine PEimp (pe_and ha hb) fun σ H Q ⟨e, F, er, h⟩ => ⟨e, F, er, h.bind.mono fun d e1 H1 F1 er1 mv1 h1 v hv => ?_⟩
  obtain ⟨k, hk, fin⟩ := h1.bind.fin er1
  cases d <;> cases hk
  unfold Rp at hv
  refine ⟨k, hv, ?_⟩
  have h2 := fin H1 F1 Al.refl
  cases k with
  | true => rw [if_pos rfl] at h2 ⊢; exact ⟨e1, F1, er1, h2⟩
  | false => rw [if_neg (by decide)] at h2 ⊢; exact h2.rfin er1 H1 F1 Al.refl _ (by unfold Rp; rfl)
theorem jv_not (ha : JV X T W a ma) : JV X T W (.UnaryOp .Not a pos) (mNotV ma) := by
  refine PEimp (pe_not ha) fun σ H Q ⟨e, F, er, h⟩ => ⟨e, F, er, h.bind.mono fun d e1 H1 F1 er1 mv1 h1 v hv => ?_⟩
  obtain ⟨z, hz, fin⟩ := h1.fin er1
  cases d <;> cases hz
  unfold Rp at hv
  exact ⟨_, hv, fin H1 F1 Al.refl _ (by unfold Rp; rfl)⟩
def mIf (n : M Bool) (ma mb : M D) : M D := bnd n fun k => if k = true then ma else mb
theorem jv_if {c : Expr} (hc : JT X T W c n) (ha : JV X T W a ma) (hb : JV X T W b mb) : JV X T W (.IfExp c a b pos) (mIf n ma mb) := by
  refine PEimp (pe_ifExp hc ha hb) fun σ H Q ⟨e, F, er, h⟩ => ⟨e, F, er, h.bind.mono fun k e1 H1 F1 er1 mv1 h1 => ?_⟩
  cases k with
  | true => rw [if_pos rfl] at h1 ⊢; exact ⟨e1, F1, er1, h1⟩
  | false => rw [if_neg (by decide)] at h1 ⊢; exact ⟨e1, F1, er1, h1⟩
theorem jt_val (ha : JV X T W a ma) (he : ∀ whole, isTrue a X.env whole = (do let v ← whole; standAt a.pos; holding [v] (truthy v)) := by intro _; rfl) : JT X T W a (mT ma) :=
  PTimp (pt_val ha he) fun σ H Q h => runT h
def mNil : M (List D) := ret []
def mCons (m : M D) (ms : M (List D)) : M (List D) := bnd m fun d => bnd ms fun ds => ret (d :: ds)
theorem PAimp {es : List Expr} {t t' : TA} (h : PA X es t) (k : ∀ σ H Q, t' σ H Q → t σ H Q) : PA X es t' := ⟨fun pos pins s σ H Q I q => h.run pos pins s σ H Q I (k σ H Q q)⟩
theorem ja_nil : JA X T W [] mNil := PAimp pa_nil fun σ H Q ⟨e, F, er, h⟩ => h.rfin er H F Al.refl _ (by unfold RpL; rfl)
theorem ja_cons {e : Expr} {es : List Expr} {m : M D} {ms : M (List D)} (ha : JV X T W e m) (hr : JA X T W es ms) (hs : starEach (e :: es) X.env = (false, eval e X.env) :: starEach es X.env := by rfl) : JA X T W (e :: es) (mCons m ms) := by
  refine PAimp (pa_cons ha hr hs) fun σ H Q ⟨e, F, er, h⟩ => ⟨e, F, er, h.bind.mono fun d e1 H1 F1 er1 mv1 h1 v hv => ⟨e1, F1, er1, h1.bind.mono fun ds e2 H2 F2 er2 mv2 h2 vs hvs => ?_⟩⟩
  exact h2.rfin er2 H2 F2 Al.refl _ (by unfold RpL; exact ⟨v, vs, rfl, Rp.mono mv2.sub _ _ hv, hvs⟩)
def mTup (ms : M (List D)) : M D := bnd ms fun ds => opt (if ds.length ≤ sizeLine then some (.tup ds) else none)
def mLst (ms : M (List D)) : M D := bnd ms fun ds => opt (if ds.length ≤ sizeLine then some (.lst ds) else none)
theorem jv_tup {es : List Expr} {x1} {ms : M (List D)} (h : JA X T W es ms) : JV X T W (.Tuple es x1 pos) (mTup ms) := by
  refine PEimp (pe_tup h) fun σ H Q ⟨e, F, er, h⟩ => ⟨e, F, er, h.bind.mono fun ds e1 H1 F1 er1 mv1 h1 vs hvs => ?_⟩
  obtain ⟨d, hd, fin⟩ := h1.fin er1
  split at hd
  · rename_i hz
    cases hd
    refine ⟨by rw [← hvs.len]; exact hz, fun p hp => fin _ _ (Al.one hp) _ ?_⟩
    unfold Rp
    exact ⟨p, vs, rfl, upd_same, RpL.mono (same_upd (er1.sub.free hp)) _ _ hvs⟩
  · cases hd
end
section
variable {X : Cx} {T : Pn} {W : WX} {pos : Pos} {a b c : Expr} {ma mb mc : M D}
theorem jo_lst {es : List Expr} {ms : M (List D)} (h : JA X T W es ms) : JO X T W (.List es pos) (mLst ms) := by
  refine PEimp (pe_lst h) fun σ H Q ⟨e, F, er, h⟩ => ⟨e, F, er, h.bind.mono fun ds e1 H1 F1 er1 mv1 h1 vs hvs => ?_⟩
  unfold opt at h1
  split at h1
  · rename_i d hd
    split at hd
    · rename_i hz
      cases hd
      refine ⟨by rw [← hvs.len]; exact hz, fun p hp => ?_⟩
      exact (h1.new er1 hp) p (mv1.there p hp) (er1.sub.free hp) (Ow.ne_of_free er1 hp) ⟨vs, upd_same, hvs⟩
    · cases hd
  · exact h1.elim
end
end Sr
namespace Sr
variable [TabL]
open PySem PySem.Spec L2
open PyProof.Rows hiding St
section
variable {K : PySem.W.Frag} {mg : Str → Option Value} {F H : Hp}
theorem rp_int {i : Int} {v : V} : Rp K mg F (.int i) v ↔ v = .int i := by unfold Rp; exact Iff.rfl
theorem rp_str {x : Str} {v : V} : Rp K mg F (.str x) v ↔ v = .str x := by unfold Rp; exact Iff.rfl
theorem rp_bl {x : Bool} {v : V} : Rp K mg F (.bl x) v ↔ v = .bl x := by unfold Rp; exact Iff.rfl
theorem rp_non {v : V} : Rp K mg F .non v ↔ v = .non := by unfold Rp; exact Iff.rfl
theorem rp_byt {x : Array UInt8} {v : V} : Rp K mg F (.byt x) v ↔ v = .byt x := by unfold Rp; exact Iff.rfl
theorem rq_int {i : Int} {v : V} : Rq K mg H F (.int i) v ↔ v = .int i := by unfold Rq Rp; exact Iff.rfl
theorem rq_str {x : Str} {v : V} : Rq K mg H F (.str x) v ↔ v = .str x := by unfold Rq Rp; exact Iff.rfl
theorem rq_bl {x : Bool} {v : V} : Rq K mg H F (.bl x) v ↔ v = .bl x := by unfold Rq Rp; exact Iff.rfl
theorem rq_non {v : V} : Rq K mg H F .non v ↔ v = .non := by unfold Rq Rp; exact Iff.rfl
theorem rq_byt {x : Array UInt8} {v : V} : Rq K mg H F (.byt x) v ↔ v = .byt x := by unfold Rq Rp; exact Iff.rfl
theorem rq_tup {ds : List D} {v : V} : Rq K mg H F (.tup ds) v ↔ ∃ a xs, v = .ref a ∧ F a = some (.tup xs) ∧ RpL K mg F ds xs := by
  show Rp K mg F (.tup ds) v ↔ _
  rw [Rp]
theorem rq_scr {ns : List Int} {v : V} : Rq K mg H F (.scr ns) v ↔ ∃ a, v = .ref a ∧ SqL K F a (ns.map V.int) := by
  show Rp K mg F (.scr ns) v ↔ _
  rw [Rp]
theorem rp_lst {ds : List D} {v : V} : Rp K mg F (.lst ds) v ↔ ∃ a xs, v = .ref a ∧ F a = some (.lst xs) ∧ RpL K mg F ds xs := by rw [Rp]
theorem rp_tup {ds : List D} {v : V} : Rp K mg F (.tup ds) v ↔ ∃ a xs, v = .ref a ∧ F a = some (.tup xs) ∧ RpL K mg F ds xs := by rw [Rp]
theorem rp_ct {ds : List D} {v : V} : Rp K mg F (.ct ds) v ↔ ∃ a xs, v = .ref a ∧ SqT K F a xs ∧ RpL K mg F ds xs := by rw [Rp]
theorem rq_ct {ds : List D} {v : V} : Rq K mg H F (.ct ds) v ↔ ∃ a xs, v = .ref a ∧ SqT K F a xs ∧ RpL K mg F ds xs := by
  show Rp K mg F (.ct ds) v ↔ _
  rw [Rp]
theorem rp_dk {ds : List (Key × D)} {v : V} : Rp K mg F (.dk ds) v ↔ ∃ a xs, v = .ref a ∧ Rd F a (.dK xs) ∧ RpK K mg F ds xs := by rw [Rp]
theorem rp_obj {c : Str} {fs : List (Str × D)} {v : V} : Rp K mg F (.obj c fs) v ↔ ∃ a C dx gs, v = .ref a ∧ mg c = some (.ref C) ∧ F a = some (.ins C dx gs) ∧ RpF K mg F fs gs := by rw [Rp]
theorem rp_scr {ns : List Int} {v : V} : Rp K mg F (.scr ns) v ↔ ∃ a, v = .ref a ∧ SqL K F a (ns.map V.int) := by rw [Rp]
theorem RpL.get : ∀ {ds : List D} {xs : List V} {i : Nat} {d : D}, RpL K mg F ds xs → ds[i]? = some d → ∃ v, xs[i]? = some v ∧ Rp K mg F d v
  | [], _, _, _, _, e => by simp at e
  | d :: ds, xs, 0, d', h, e => by
    rw [rl_cons] at h
    obtain ⟨v, vs, rfl, r, _⟩ := h
    simp at e; subst e
    exact ⟨v, rfl, r⟩
  | d :: ds, xs, i + 1, d', h, e => by
    rw [rl_cons] at h
    obtain ⟨v, vs, rfl, _, q⟩ := h
    simp at e
    obtain ⟨w, h1, h2⟩ := RpL.get (i := i) q e
    exact ⟨w, by simpa using h1, h2⟩
theorem RpL.ints : ∀ {ns : List Int} {xs : List V}, RpL K mg F (ns.map D.int) xs → xs = ns.map V.int
  | [], xs, h => by simpa [rl_nil] using h
  | n :: ns, xs, h => by
    rw [List.map_cons, rl_cons] at h
    obtain ⟨v, vs, rfl, r, h⟩ := h
    rw [rp_int] at r; subst r
    rw [RpL.ints h, List.map_cons]
end
section
variable {X : Cx}
def gI (c : Int → Int → Bool) (f : Int → Int → D) : D → D → Option D
  | .int i, .int j => if c i j = true then some (f i j) else none
  | _, _ => none
def gI0 (f : Int → Int → D) : D → D → Option D
  | .int i, .int j => some (f i j)
  | _, _ => none
theorem op2_i {f : Value → Value → Sem Value} {C : Int → Int → Prop} {c : Int → Int → Bool} {g : Int → Int → V} {g' : Int → Int → D} (ho : OpR X f (rI C g)) (hc : ∀ i j, c i j = true → C i j) (hg : ∀ i j F, Rp X.K X.mg F (g' i j) (g i j)) : Op2 X f (gI c g') := by
  intro H F x y d1 d2 d s r1 r2 e
  unfold gI at e
  split at e
  · rename_i i j
    split at e
    · rename_i hcc
      cases e
      rw [rq_int] at r1 r2
      exact ⟨_, ho, fun Q q => ⟨i, j, r1, r2, hc i j hcc, q H F _ Al.refl (hg i j F)⟩⟩
    · cases e
  · cases e
theorem op2_i0 {f : Value → Value → Sem Value} {g : Int → Int → V} {g' : Int → Int → D} (ho : OpR X f (rI0 g)) (hg : ∀ i j F, Rp X.K X.mg F (g' i j) (g i j)) : Op2 X f (gI0 g') := by
  intro H F x y d1 d2 d s r1 r2 e
  unfold gI0 at e
  split at e
  · rename_i i j
    cases e
    rw [rq_int] at r1 r2
    exact ⟨_, ho, fun Q q => ⟨i, j, r1, r2, q H F _ Al.refl (hg i j F)⟩⟩
  · cases e
def gSub : D → D → Option D := gI0 fun i j => .int (i - j)
def cMul (i j : Int) : Bool := (decide (-(2 ^ 64) < i) && decide (i < 2 ^ 64)) || (decide (-(2 ^ 64) < j) && decide (j < 2 ^ 64))
def gMulI : D → D → Option D := gI cMul fun i j => .int (i * j)
def cDiv (_ j : Int) : Bool := decide (0 < j) && decide (j < 1073741824)
def gDiv : D → D → Option D := gI cDiv fun i j => .int (i / j)
def gMod : D → D → Option D := gI (fun _ j => decide (0 < j)) fun i j => .int (i % j)
def cPow (i j : Int) : Bool := decide (0 ≤ j) && decide (j ≤ 1000000) && decide (i.natAbs < 2 ^ 64)
def gPow : D → D → Option D := gI cPow fun i j => .int (i ^ j.toNat)
theorem o_sub : Op2 X (binaryOp .Sub) gSub := op2_i0 op_sub fun _ _ _ => by rw [rp_int]
theorem o_mulI : Op2 X (binaryOp .Mult) gMulI := op2_i op_mul (fun i j h => by
  unfold cMul at h
  simp only [Bool.or_eq_true, Bool.and_eq_true, decide_eq_true_eq] at h
  exact h) fun _ _ _ => by rw [rp_int]
theorem o_div : Op2 X (binaryOp .FloorDiv) gDiv := op2_i op_fdiv (fun i j h => by
  unfold cDiv at h
  simp only [Bool.and_eq_true, decide_eq_true_eq] at h
  exact h) fun _ _ _ => by rw [rp_int]
theorem o_mod : Op2 X (binaryOp .Mod) gMod := op2_i op_mod (fun i j h => of_decide_eq_true h) fun _ _ _ => by rw [rp_int]
theorem o_pow : Op2 X (binaryOp .Pow) gPow := op2_i op_pow (fun i j h => by
  unfold cPow at h
  simp only [Bool.and_eq_true, decide_eq_true_eq] at h
  exact ⟨h.1.1, h.1.2, h.2⟩) fun _ _ _ => by rw [rp_int]
theorem o_lt : Op2 X (compareOp .Lt) (gI0 fun i j => .bl (decide (i < j))) := op2_i0 op_lt fun _ _ _ => by rw [rp_bl]
theorem o_le : Op2 X (compareOp .LtE) (gI0 fun i j => .bl (decide (i ≤ j))) := op2_i0 op_le fun _ _ _ => by rw [rp_bl]
theorem o_gt : Op2 X (compareOp .Gt) (gI0 fun i j => .bl (decide (j < i))) := op2_i0 op_gt fun _ _ _ => by rw [rp_bl]
def gAddI : D → D → Option D := gI0 fun i j => .int (i + j)
def gAddS : D → D → Option D
  | .str x, .str y => if x.length + y.length ≤ sizeLine then some (.str (x ++ y)) else none
  | _, _ => none
def gAddT : D → D → Option D
  | .tup xs, .tup ys => if xs.length + ys.length ≤ sizeLine then some (.tup (xs ++ ys)) else none
  | _, _ => none
def gAddL : D → D → Option D
  | .lst xs, .lst ys => if xs.length + ys.length ≤ sizeLine then some (.lst (xs ++ ys)) else none
  | _, _ => none
theorem o_addI : Op2 X (binaryOp .Add) gAddI := op2_i0 op_add fun _ _ _ => by rw [rp_int]
theorem o_addS : Op2 X (binaryOp .Add) gAddS := by
  intro H F x y d1 d2 d s r1 r2 e
  unfold gAddS at e
  split at e
  · split at e
    · rename_i hz
      cases e
      rw [rq_str] at r1 r2
      exact ⟨_, op_add_str, fun Q q => ⟨_, _, r1, r2, hz, q H F _ Al.refl (by rw [rp_str])⟩⟩
    · cases e
  · cases e
theorem o_addT : Op2 X (binaryOp .Add) gAddT := by
  intro H F x y d1 d2 d s r1 r2 e
  unfold gAddT at e
  split at e
  · split at e
    · rename_i ds es hz
      cases e
      rw [rq_tup] at r1 r2
      obtain ⟨a, xs, rfl, q1, l1⟩ := r1
      obtain ⟨b, ys, rfl, q2, l2⟩ := r2
      have hT : ∀ p, H p = none → Rp X.K X.mg (upd F p (.tup (xs ++ ys))) (.tup (ds ++ es)) (.ref p) := fun p hp => by
        rw [rp_tup]
        exact ⟨p, _, rfl, upd_same, RpL.mono (same_upd (s.free hp)) _ _ (l1.append l2)⟩
      refine ⟨_, op_catA, fun Q q => ⟨a, b, xs, ys, rfl, rfl, seqT_mono s q1, seqT_mono s q2, by rw [← l1.len, ← l2.len]; exact hz, fun e0 => ?_, fun _ e0 => ?_, fun _ _ p hp => q _ _ _ (Al.one hp) (hT p hp)⟩⟩
      · subst e0
        have e1 : ds = [] := List.length_eq_zero_iff.mp (by rw [l1.len]; rfl)
        subst e1
        refine q H F _ Al.refl ?_
        rw [rp_tup]
        exact ⟨b, ys, rfl, q2, l2⟩
      · subst e0
        have e1 : es = [] := List.length_eq_zero_iff.mp (by rw [l2.len]; rfl)
        subst e1
        rw [List.append_nil] at q
        refine q H F _ Al.refl ?_
        rw [rp_tup]
        exact ⟨a, xs, rfl, q1, l1⟩
    · cases e
  · cases e
theorem o_addL : Op2 X (binaryOp .Add) gAddL := by
  intro H F x y d1 d2 d s r1 r2 e
  unfold gAddL at e
  split at e
  · split at e
    · rename_i ds es hz
      cases e
      obtain ⟨a, xs, rfl, q1, l1⟩ := r1
      obtain ⟨b, ys, rfl, q2, l2⟩ := r2
      refine ⟨_, op_cat, fun Q q => ⟨a, b, xs, ys, rfl, rfl, q1, q2, by rw [← l1.len, ← l2.len]; exact hz, fun p hp => q _ _ _ (Al.one hp) ?_⟩⟩
      rw [rp_lst]
      exact ⟨p, _, rfl, upd_same, RpL.mono (same_upd (s.free hp)) _ _ (l1.append l2)⟩
    · cases e
  · cases e
def gAdd : D → D → Option D := fun a b => (gAddI a b).or ((gAddS a b).or ((gAddT a b).or (gAddL a b)))
theorem o_add : Op2 X (binaryOp .Add) gAdd := o_addI.or (o_addS.or (o_addT.or o_addL))
mutual
def toP : D → Option PyData
  | .non => some .none
  | .bl b => some (.bool b)
  | .int i => some (.int i)
  | .str x => some (.str x)
  | .lst ds => (toPL ds).map PyData.list
  | .tup ds => (toPL ds).map PyData.tuple
  | _ => none
def toPL : List D → Option (List PyData)
  | [] => some []
  | d :: ds => (toP d).bind fun p => (toPL ds).map fun ps => p :: ps
end
section
variable {K : PySem.W.Frag} {mg : Str → Option Value} {F H : Hp}
mutual
theorem Rp.dp (s : Same F H) : ∀ (d : D) (v : V) (p : PyData), toP d = some p → Rp K mg F d v → Dp K H v p
  | .non, v, p, e, h => by rw [rp_non] at h; subst h; simp only [toP, Option.some.injEq] at e; subst e; exact .non
  | .bl b, v, p, e, h => by rw [rp_bl] at h; subst h; simp only [toP, Option.some.injEq] at e; subst e; exact .bl b
  | .int i, v, p, e, h => by rw [rp_int] at h; subst h; simp only [toP, Option.some.injEq] at e; subst e; exact .int i
  | .str x, v, p, e, h => by rw [rp_str] at h; subst h; simp only [toP, Option.some.injEq] at e; subst e; exact .str x
  | .lst ds, v, p, e, h => by
    rw [rp_lst] at h
    obtain ⟨a, xs, rfl, q, l⟩ := h
    simp only [toP, Option.map_eq_some_iff] at e
    obtain ⟨ps, e, rfl⟩ := e
    exact .lst (SqL.of (s _ _ q)) (RpL.dp s ds xs ps e l)
  | .tup ds, v, p, e, h => by
    rw [rp_tup] at h
    obtain ⟨a, xs, rfl, q, l⟩ := h
    simp only [toP, Option.map_eq_some_iff] at e
    obtain ⟨ps, e, rfl⟩ := e
    exact .tup (seqT_mono s q) (RpL.dp s ds xs ps e l)
  | .byt _, v, p, e, h => by simp [toP] at e
  | .dk _, v, p, e, h => by simp [toP] at e
  | .dt _, v, p, e, h => by simp [toP] at e
  | .obj _ _, v, p, e, h => by simp [toP] at e
  | .scr _, v, p, e, h => by simp [toP] at e
  | .ct _, v, p, e, h => by simp [toP] at e
theorem RpL.dp (s : Same F H) : ∀ (ds : List D) (xs : List V) (ps : List PyData), toPL ds = some ps → RpL K mg F ds xs → DpAll K H xs ps
  | [], xs, ps, e, h => by rw [rl_nil] at h; subst h; simp only [toPL, Option.some.injEq] at e; subst e; exact .nil
  | d :: ds, xs, ps, e, h => by
    rw [rl_cons] at h
    obtain ⟨v, vs, rfl, r, l⟩ := h
    simp only [toPL, Option.bind_eq_some_iff, Option.map_eq_some_iff] at e
    obtain ⟨p, e1, qs, e2, rfl⟩ := e
    exact .cons (Rp.dp s d v p e1 r) (RpL.dp s ds vs qs e2 l)
end
theorem Rq.dp (s : Same F H) {d : D} {v : V} {p : PyData} (e : toP d = some p) (h : Rq K mg H F d v) : Dp K H v p := by
  cases d with
  | lst ds =>
    obtain ⟨a, xs, rfl, q, l⟩ := h
    simp only [toP, Option.map_eq_some_iff] at e
    obtain ⟨ps, e, rfl⟩ := e
    exact .lst (SqL.of q) (RpL.dp s ds xs ps e l)
  | dk ds => simp [toP] at e
  | dt ds => simp [toP] at e
  | obj c fs => simp [toP] at e
  | dl ks => simp [toP] at e
  | _ => exact Rp.dp (mg := mg) s _ _ _ e h
end
def eqS : D → D → Option Bool
  | .int i, .int j => some (decide (i = j))
  | .str i, .str j => some (decide (i = j))
  | .bl i, .bl j => some (decide (i = j))
  | .non, .non => some true
  | .byt i, .byt j => some (decide (i = j))
  | _, _ => none
def eqDeep (a b : D) : Option Bool := match toP a, toP b with
  | some p, some q => if (SeqAt.shaped p && SeqAt.shaped q) = true then some (PyData.eqv p q) else none
  | _, _ => none
def dEq (a b : D) : Option Bool := (eqS a b).or (eqDeep a b)
def gEq (a b : D) : Option D := (dEq a b).map D.bl
def gNe (a b : D) : Option D := (dEq a b).map fun k => D.bl (!k)
theorem eqS_ok {K : PySem.W.Frag} {mg : Str → Option Value} {F H : Hp} {d1 d2 : D} {x y : V} {k : Bool} (r1 : Rq K mg H F d1 x) (r2 : Rq K mg H F d2 y) (e : eqS d1 d2 = some k) : scal x y = true ∧ decide (x = y) = k := by
  unfold eqS at e
  split at e
  · rw [rq_int] at r1 r2; subst r1 r2; cases e; exact ⟨rfl, by simp⟩
  · rw [rq_str] at r1 r2; subst r1 r2; cases e; exact ⟨rfl, by simp⟩
  · rw [rq_bl] at r1 r2; subst r1 r2; cases e; exact ⟨rfl, by simp⟩
  · rw [rq_non] at r1 r2; subst r1 r2; cases e; exact ⟨rfl, by simp⟩
  · rw [rq_byt] at r1 r2; subst r1 r2; cases e; exact ⟨rfl, by simp⟩
  · cases e
theorem eqDeep_ok {K : PySem.W.Frag} {mg : Str → Option Value} {F H : Hp} (s : Same F H) {d1 d2 : D} {x y : V} {k : Bool} (r1 : Rq K mg H F d1 x) (r2 : Rq K mg H F d2 y) (e : eqDeep d1 d2 = some k) : ∃ p q, Dp K H x p ∧ Dp K H y q ∧ SeqAt.shaped p = true ∧ SeqAt.shaped q = true ∧ PyData.eqv p q = k := by
  unfold eqDeep at e
  split at e
  · rename_i p q e1 e2
    split at e
    · rename_i hs
      rw [Bool.and_eq_true] at hs
      exact ⟨p, q, Rq.dp s e1 r1, Rq.dp s e2 r2, hs.1, hs.2, by cases e; rfl⟩
    · cases e
  · cases e
theorem o_eq (hu : X.A.units + 64 < cLine) : Op2 X (compareOp .Eq) gEq := by
  intro H F x y d1 d2 d s r1 r2 e
  simp only [gEq, Option.map_eq_some_iff] at e
  obtain ⟨k, e, rfl⟩ := e
  unfold dEq at e
  cases q : eqS d1 d2 with
  | some k' =>
    rw [q, Option.some_or] at e; cases e
    obtain ⟨h1, h2⟩ := eqS_ok r1 r2 q
    exact ⟨_, op_eq, fun Q q => ⟨h1, by rw [h2]; exact q H F _ Al.refl (by rw [rp_bl])⟩⟩
  | none =>
    rw [q, Option.none_or] at e
    obtain ⟨p, q, h1, h2, h3, h4, h5⟩ := eqDeep_ok s r1 r2 e
    exact ⟨_, op_eqD hu, fun Q qq => ⟨p, q, h1, h2, h3, h4, by rw [h5]; exact qq H F _ Al.refl (by rw [rp_bl])⟩⟩
theorem o_ne (hu : X.A.units + 64 < cLine) : Op2 X (compareOp .NotEq) gNe := by
  intro H F x y d1 d2 d s r1 r2 e
  simp only [gNe, Option.map_eq_some_iff] at e
  obtain ⟨k, e, rfl⟩ := e
  unfold dEq at e
  cases q : eqS d1 d2 with
  | some k' =>
    rw [q, Option.some_or] at e; cases e
    obtain ⟨h1, h2⟩ := eqS_ok r1 r2 q
    exact ⟨_, op_ne, fun Q q => ⟨h1, by rw [h2]; exact q H F _ Al.refl (by rw [rp_bl])⟩⟩
  | none =>
    rw [q, Option.none_or] at e
    obtain ⟨p, q, h1, h2, h3, h4, h5⟩ := eqDeep_ok s r1 r2 e
    exact ⟨_, op_neD hu, fun Q qq => ⟨p, q, h1, h2, h3, h4, by rw [h5]; exact qq H F _ Al.refl (by rw [rp_bl])⟩⟩
def dInts : List D → Option (List Int)
  | [] => some []
  | .int i :: ds => (dInts ds).map fun ns => i :: ns
  | _ => none
theorem dInts_eq : ∀ {ds : List D} {ns : List Int}, dInts ds = some ns → ds = ns.map D.int
  | [], ns, h => by simp only [dInts, Option.some.injEq] at h; subst h; rfl
  | .int i :: ds, ns, h => by
    simp only [dInts, Option.map_eq_some_iff] at h
    obtain ⟨ms, h, rfl⟩ := h
    rw [dInts_eq h]; rfl
  | .non :: _, _, h => by simp [dInts] at h
  | .bl _ :: _, _, h => by simp [dInts] at h
  | .str _ :: _, _, h => by simp [dInts] at h
  | .byt _ :: _, _, h => by simp [dInts] at h
  | .lst _ :: _, _, h => by simp [dInts] at h
  | .tup _ :: _, _, h => by simp [dInts] at h
  | .dk _ :: _, _, h => by simp [dInts] at h
  | .dt _ :: _, _, h => by simp [dInts] at h
  | .obj _ _ :: _, _, h => by simp [dInts] at h
  | .scr _ :: _, _, h => by simp [dInts] at h
  | .ct _ :: _, _, h => by simp [dInts] at h
def gLtT : D → D → Option D
  | .tup xs, .tup ys => match dInts xs, dInts ys with
    | some ns, some ms => some (.bl (HT.lexLt ns ms))
    | _, _ => none
  | _, _ => none
theorem o_ltT (hu : X.A.units < cLine) : Op2 X (compareOp .Lt) gLtT := by
  intro H F x y d1 d2 d s r1 r2 e
  unfold gLtT at e
  split at e
  · split at e
    · rename_i xs ys ns ms e1 e2
      cases e
      rw [rq_tup] at r1 r2
      obtain ⟨a, xs, rfl, q1, l1⟩ := r1
      obtain ⟨b, ys, rfl, q2, l2⟩ := r2
      rw [dInts_eq e1] at l1
      rw [dInts_eq e2] at l2
      have l1 := l1.ints
      have l2 := l2.ints
      subst l1 l2
      exact ⟨_, op_ltT hu, fun Q q => ⟨a, b, ns, ms, rfl, rfl, seqT_mono s q1, seqT_mono s q2, q H F _ Al.refl (by rw [rp_bl])⟩⟩
    · cases e
  · cases e
def isNon : D → Bool
  | .non => true
  | _ => false
theorem isNon_ok {K : PySem.W.Frag} {mg : Str → Option Value} {F : Hp} {d : D} {v : V} (h : Rp K mg F d v) : decide (v = .non) = isNon d := by
  cases d <;> unfold Rp at h
  · subst h; rfl
  · subst h; rfl
  · subst h; rfl
  · subst h; rfl
  · subst h; rfl
  · obtain ⟨a, xs, rfl, _⟩ := h; rfl
  · obtain ⟨a, xs, rfl, _⟩ := h; rfl
  · obtain ⟨a, xs, rfl, _⟩ := h; rfl
  · obtain ⟨a, xs, rfl, _⟩ := h; rfl
  · obtain ⟨a, C, dx, xs, rfl, _⟩ := h; rfl
  · obtain ⟨a, rfl, _⟩ := h; rfl
  · obtain ⟨a, xs, rfl, _⟩ := h; rfl
  · obtain ⟨a, φ, rfl, _⟩ := h; rfl
end
section
variable {X : Cx} {T : Pn} {W : WX} {pos : Pos} {a b c : Expr} {ma mb mc : M D}
def mIsN (m : M D) : M D := bnd m fun d => ret (.bl (isNon d))
def mNotN (m : M D) : M D := bnd m fun d => ret (.bl (!isNon d))
theorem jt_isN {j pos'} (ha : JV X T W a ma) : JT X T W (.Compare a [.Is] [.Constant .none j pos'] pos) (mT (mIsN ma)) := by
  refine PTimp (pt_cmp (pc_isN ha)) fun σ H Q h => ?_
  obtain ⟨e, F, er, h⟩ := runT h
  exact ⟨e, F, er, h.bind.mono fun d e1 H1 F1 er1 mv1 h1 v hv => by
    dsimp only; rw [isNon_ok hv]; exact h1.rfin er1 H1 F1 Al.refl _ (by rw [rp_bl])⟩
def m1 (g : D → Option D) (m : M D) : M D := bnd m fun d => opt (g d)
def gNeg : D → Option D
  | .int i => some (.int (-i))
  | _ => none
theorem jv_neg (ha : JV X T W a ma) : JV X T W (.UnaryOp .USub a pos) (m1 gNeg ma) := by
  refine PEimp (pe_un un_neg ha) fun σ H Q ⟨e, F, er, h⟩ => ⟨e, F, er, h.bind.mono fun d e1 H1 F1 er1 mv1 h1 v hv => ?_⟩
  obtain ⟨z, hz, fin⟩ := h1.fin er1
  cases d <;> cases hz
  rw [rp_int] at hv
  exact ⟨_, hv, fin H1 F1 Al.refl _ (by rw [rp_int])⟩
def Cal (X : Cx) (f : Value) (g : List D → Option D) : Prop :=
  ∀ (H F : Hp) (xs : List V) (ds : List D) (d : D), Same F H → RpL X.K X.mg F ds xs → g ds = some d →
    ∃ r, CallR X f r ∧ ∀ Q : VK, (∀ H' F' z, Al H F H' F' → Rp X.K X.mg F' d z → Q z H') → r xs H Q
def Cal1 (X : Cx) (f : Value) (g : D → Option D) : Prop :=
  ∀ (H F : Hp) (x : V) (d d' : D), Same F H → Rq X.K X.mg H F d x → g d = some d' →
    ∃ r, CallR X f r ∧ ∀ Q : VK, (∀ H' F' z, Al H F H' F' → Rp X.K X.mg F' d' z → Q z H') → r [x] H Q
def rAnyC (X : Cx) (f : Value) : List V → Hp → VK → Prop := fun xs H Q => ∃ r, CallR X f r ∧ r xs H Q
theorem callAny {f : Value} : CallR X f (rAnyC X f) := fun pins s σ H xs us Q I rx ⟨r, hr, q⟩ => hr pins s σ H xs us Q I rx q
def mCal (g : List D → Option D) (ms : M (List D)) : M D := bnd ms fun ds => opt (g ds)
def mCal1 (g : D → Option D) (m : M Bv) : M D := bnd m fun b => bnd (der b) fun d => opt (g d)
theorem runCal {f : Value} {g : List D → Option D} {ms : M (List D)} {σ : St} {H : Hp} {Q : VK} (hc : Cal X f g) (h : TV X.K X.mg T W (mCal g ms) σ H Q) : TAs X.K X.mg T W ms σ H fun vs H1 => rAnyC X f vs H1 Q := by
  obtain ⟨e, F, er, h⟩ := h
  refine ⟨e, F, er, h.bind.mono fun ds e1 H1 F1 er1 mv1 h1 vs hvs => ?_⟩
  obtain ⟨z, hz, fin⟩ := h1.fin er1
  obtain ⟨r, hr, q⟩ := hc H1 F1 vs ds z er1.sub hvs hz
  exact ⟨r, hr, q Q fun H' F' z al hz => fin H' F' al z hz⟩
theorem runCal1 {f : Value} {g : D → Option D} {m : M Bv} {σ : St} {H : Hp} {Q : VK} (hc : Cal1 X f g) (h : TV X.K X.mg T W (mCal1 g m) σ H Q) : TBw X.K X.mg T W m σ H fun v H1 => rAnyC X f [v] H1 Q := by
  obtain ⟨e, F, er, h⟩ := h
  refine ⟨e, F, er, h.bind.mono fun b e1 H1 F1 er1 mv1 h1 v hv => ?_⟩
  obtain ⟨d, r1, h3⟩ := der_fin h1.bind er1 hv
  obtain ⟨z, hz, fin⟩ := h3.fin er1
  obtain ⟨r, hr, q⟩ := hc H1 F1 v d z er1.sub r1 hz
  exact ⟨r, hr, q Q fun H' F' z al hz => fin H' F' al z hz⟩
section
variable {x : Str} {p : Pos} {e : Expr} {es : List Expr} {id : String} {ms : M (List D)} {g : List D → Option D} {g1 : D → Option D} {mb1 : M Bv}
theorem jv_callB (hc : Cal X (.builtin id) g) (hg : Gl X x) (hm : X.mg x = none) (hv : bootBuiltins x = some (.builtin id)) (ha : JA X T W (e :: es) ms) (hn : x ≠ "__name__" := by decide) (hdb : (x == ("__debug__" : Str)) = false := by decide)
    (he : starEach (e :: es) X.env = (false, eval e X.env) :: starEach es X.env := by rfl) (hpl : (backTo pos (starEach es X.env)).any (·.1) = false := by rfl) : JV X T W (.Call (.Name x p) (e :: es) [] pos) (mCal g ms) :=
  PEimp (pe_callB callAny hg hm hv ha hn hdb he hpl) fun σ H Q h => runCal hc h
theorem jv_callTy (hc : Cal X (.type id) g) (hg : Gl X x) (hm : X.mg x = none) (hv : bootBuiltins x = some (.type id)) (ha : JA X T W (e :: es) ms) (hn : x ≠ "__name__" := by decide) (hdb : (x == ("__debug__" : Str)) = false := by decide)
    (he : starEach (e :: es) X.env = (false, eval e X.env) :: starEach es X.env := by rfl) (hpl : (backTo pos (starEach es X.env)).any (·.1) = false := by rfl) : JV X T W (.Call (.Name x p) (e :: es) [] pos) (mCal g ms) :=
  PEimp (pe_callTy callAny hg hm hv ha hn hdb he hpl) fun σ H Q h => runCal hc h
theorem jv_callB1 (hc : Cal1 X (.builtin id) g1) (hg : Gl X x) (hm : X.mg x = none) (hv : bootBuiltins x = some (.builtin id)) (ha : JB X T W e mb1) (hn : x ≠ "__name__" := by decide) (hdb : (x == ("__debug__" : Str)) = false := by decide)
    (he : starEach [e] X.env = (false, eval e X.env) :: starEach [] X.env := by rfl) : JV X T W (.Call (.Name x p) [e] [] pos) (mCal1 g1 mb1) :=
  PEimp (pe_callB callAny hg hm hv (pa_cons ha pa_nil he) hn hdb he rfl) fun σ H Q h => runCal1 hc h
theorem jv_callTy1 (hc : Cal1 X (.type id) g1) (hg : Gl X x) (hm : X.mg x = none) (hv : bootBuiltins x = some (.type id)) (ha : JB X T W e mb1) (hn : x ≠ "__name__" := by decide) (hdb : (x == ("__debug__" : Str)) = false := by decide)
    (he : starEach [e] X.env = (false, eval e X.env) :: starEach [] X.env := by rfl) : JV X T W (.Call (.Name x p) [e] [] pos) (mCal1 g1 mb1) :=
  PEimp (pe_callTy callAny hg hm hv (pa_cons ha pa_nil he) hn hdb he rfl) fun σ H Q h => runCal1 hc h
end
def gLen : D → Option D
  | .str y => if y.length ≤ sizeLine then some (.int y.length) else none
  | .byt y => if y.size ≤ sizeLine then some (.int y.size) else none
  | .lst ds => some (.int ds.length)
  | .tup ds => some (.int ds.length)
  | .dk ds => some (.int ds.length)
  | .scr ns => some (.int ns.length)
  | _ => none
theorem call_lenR : CallR X (.builtin "len") (fun xs H Q => ∃ a kvs, xs = [.ref a] ∧ Rd H a (.dK kvs) ∧ Q (.int (kvs.length : Nat)) H) := by
  intro pins s σ H xs us Q I r h
  obtain ⟨a, kvs, rfl, ha, q⟩ := h
  obtain ⟨u, rfl, rx⟩ := vals1 r
  obtain rfl : u = Value.ref a := rx
  exact d_len I ha fun t s' I' => ⟨.int kvs.length, H, I', ⟨t, rfl⟩, q⟩
theorem c_len : Cal1 X (.builtin "len") gLen := by
  intro H F x d d' s r e
  cases d <;> simp only [gLen, reduceCtorEq] at e
  · rw [rq_str] at r; subst r
    split at e
    · rename_i hz; cases e
      exact ⟨_, call_len, fun Q q => ⟨_, _, rfl, ⟨hz, rfl⟩, q H F _ Al.refl (by rw [rp_int])⟩⟩
    · cases e
  · rw [rq_byt] at r; subst r
    split at e
    · rename_i hz; cases e
      exact ⟨_, call_len, fun Q q => ⟨_, _, rfl, ⟨hz, rfl⟩, q H F _ Al.refl (by rw [rp_int])⟩⟩
    · cases e
  · obtain ⟨a, xs, rfl, q, l⟩ := r
    cases e
    exact ⟨_, call_len, fun Q qq => ⟨_, _, rfl, .inl ⟨xs, SqL.of q, rfl⟩, qq H F _ Al.refl (by rw [rp_int, l.len])⟩⟩
  · rw [rq_tup] at r
    obtain ⟨a, xs, rfl, q, l⟩ := r
    cases e
    exact ⟨_, call_len, fun Q qq => ⟨_, _, rfl, .inr ⟨xs, seqT_mono s q, rfl⟩, qq H F _ Al.refl (by rw [rp_int, l.len])⟩⟩
  · obtain ⟨a, xs, rfl, q, l⟩ := r
    cases e
    exact ⟨_, call_lenR, fun Q qq => ⟨a, xs, rfl, q, qq H F _ Al.refl (by rw [rp_int, l.len])⟩⟩
  · rw [rq_scr] at r
    obtain ⟨a, rfl, q⟩ := r
    cases e
    exact ⟨_, call_len, fun Q qq => ⟨_, _, rfl, .inl ⟨_, s.seq q, rfl⟩, qq H F _ Al.refl (by rw [rp_int, List.length_map])⟩⟩
def gInt1 : List D → Option D
  | [.int i] => some (.int i)
  | [.bl k] => some (.int (if k then 1 else 0))
  | _ => none
theorem rl_one {K : PySem.W.Frag} {mg : Str → Option Value} {F : Hp} {d : D} {xs : List V} (h : RpL K mg F [d] xs) : ∃ v, xs = [v] ∧ Rp K mg F d v := by
  rw [rl_cons] at h
  obtain ⟨v, vs, rfl, r, h⟩ := h
  rw [rl_nil] at h; subst h
  exact ⟨v, rfl, r⟩
theorem rl_two {K : PySem.W.Frag} {mg : Str → Option Value} {F : Hp} {d d' : D} {xs : List V} (h : RpL K mg F [d, d'] xs) : ∃ v w, xs = [v, w] ∧ Rp K mg F d v ∧ Rp K mg F d' w := by
  rw [rl_cons] at h
  obtain ⟨v, vs, rfl, r, h⟩ := h
  obtain ⟨w, rfl, r'⟩ := rl_one h
  exact ⟨v, w, rfl, r, r'⟩
theorem c_int : Cal X (.type "int") gInt1 := by
  intro H F xs ds d s r e
  unfold gInt1 at e
  split at e
  · cases e
    obtain ⟨v, rfl, r0⟩ := rl_one r
    rw [rp_int] at r0; subst r0
    exact ⟨_, call_int1, fun Q q => .inl ⟨_, rfl, q H F _ Al.refl (by rw [rp_int])⟩⟩
  · cases e
    obtain ⟨v, rfl, r0⟩ := rl_one r
    rw [rp_bl] at r0; subst r0
    exact ⟨_, call_int1, fun Q q => .inr ⟨_, rfl, q H F _ Al.refl (by rw [rp_int])⟩⟩
  · cases e
def gMax2 : List D → Option D
  | [.int i, .int j] => some (.int (if j > i then j else i))
  | _ => none
def gMin2 : List D → Option D
  | [.int i, .int j] => some (.int (if j < i then j else i))
  | _ => none
def gAbs : List D → Option D
  | [.int i] => some (.int (if i < 0 then -i else i))
  | _ => none
theorem c_max (hc : X.calm = true) : Cal X (.builtin "max") gMax2 := by
  intro H F xs ds d s r e
  unfold gMax2 at e
  split at e
  · cases e
    obtain ⟨v, w, rfl, r0, r'⟩ := rl_two r
    rw [rp_int] at r0 r'; subst r0 r'
    exact ⟨_, call_max2 hc, fun Q q => ⟨_, _, rfl, q H F _ Al.refl (by rw [rp_int])⟩⟩
  · cases e
theorem c_min (hc : X.calm = true) : Cal X (.builtin "min") gMin2 := by
  intro H F xs ds d s r e
  unfold gMin2 at e
  split at e
  · cases e
    obtain ⟨v, w, rfl, r0, r'⟩ := rl_two r
    rw [rp_int] at r0 r'; subst r0 r'
    exact ⟨_, call_min2 hc, fun Q q => ⟨_, _, rfl, q H F _ Al.refl (by rw [rp_int])⟩⟩
  · cases e
def gIx : D → D → Option D
  | .lst ds, .int i => atI ds i
  | .tup ds, .int i => atI ds i
  | .str z, .int i => if z.length ≤ sizeLine then (atI z.cps.toList i).map fun c => .str ⟨#[c]⟩ else none
  | .scr ns, .int i => (atI ns i).map D.int
  | .ct ds, .int i => atI ds i
  | _, _ => none
theorem RpL.atI {K : PySem.W.Frag} {mg : Str → Option Value} {F : Hp} {ds : List D} {xs : List V} {i : Int} {d : D} (l : RpL K mg F ds xs) (h : L2.atI ds i = some d) : ∃ v, L2.atI xs i = some v ∧ Rp K mg F d v := by
  unfold L2.atI at h ⊢
  rw [← l.len]
  cases q : ixN ds.length i with
  | none => rw [q] at h; cases h
  | some j => rw [q] at h; exact l.get h
theorem atI_map {A B : Type} (f : A → B) (xs : List A) (i : Int) : L2.atI (xs.map f) i = (L2.atI xs i).map f := by
  unfold L2.atI
  rw [List.length_map]
  cases ixN xs.length i with
  | none => rfl
  | some j => simp
theorem ix_data {H F : Hp} {d1 d2 d : D} {x y : V} (s : Same F H) (r1 : Rq X.K X.mg H F d1 x) (r2 : Rq X.K X.mg H F d2 y) (e : gIx d1 d2 = some d) (Q : VK) (q : ∀ z, Rp X.K X.mg F d z → Q z H) : L2.rIx X.K x y H Q := by
  unfold gIx at e
  split at e
  · obtain ⟨a, xs, rfl, h, l⟩ := r1
    rw [rq_int] at r2
    obtain ⟨v, h1, h2⟩ := l.atI e
    exact .inl ⟨a, xs, _, v, rfl, r2, SqL.of h, h1, q v h2⟩
  · rw [rq_tup] at r1
    obtain ⟨a, xs, rfl, h, l⟩ := r1
    rw [rq_int] at r2
    obtain ⟨v, h1, h2⟩ := l.atI e
    exact .inr (.inl ⟨a, xs, _, v, rfl, r2, seqT_mono s h, h1, q v h2⟩)
  · split at e
    · rename_i hz
      rw [Option.map_eq_some_iff] at e
      obtain ⟨c, e, rfl⟩ := e
      rw [rq_str] at r1
      rw [rq_int] at r2
      exact .inr (.inr ⟨_, _, c, r1, r2, hz, e, q _ (by rw [rp_str])⟩)
    · cases e
  · rw [rq_scr] at r1
    obtain ⟨a, rfl, h⟩ := r1
    rw [rq_int] at r2
    rw [Option.map_eq_some_iff] at e
    obtain ⟨n, e, rfl⟩ := e
    exact .inl ⟨a, _, _, .int n, rfl, r2, s.seq h, by rw [atI_map, e]; rfl, q _ (by rw [rp_int])⟩
  · rw [rq_ct] at r1
    obtain ⟨a, xs, rfl, h, l⟩ := r1
    rw [rq_int] at r2
    obtain ⟨v, h1, h2⟩ := l.atI e
    exact .inr (.inl ⟨a, xs, _, v, rfl, r2, seqC_mono s h, h1, q v h2⟩)
  · cases e
theorem jv_ixB {m1 : M Bv} (ha : JB X T W a m1) (hb : JV X T W b mb) (hs : PlainIx b := by intro _ _; rfl) : JV X T W (.Subscript a b pos) (m2b gIx m1 mb) := by
  refine PEimp (pe_ix ix_seq ha hb hs) fun σ H Q ⟨e, F, er, h⟩ => ⟨e, F, er, h.bind.mono fun b1 e1 H1 F1 er1 mv1 h1 v hv => ⟨e1, F1, er1, h1.bind.mono fun d2 e2 H2 F2 er2 mv2 h2 w hw => ?_⟩⟩
  obtain ⟨d1, r1, h3⟩ := der_fin h2.bind er2 (hv.mono mv2.sub)
  obtain ⟨d, hd, fin⟩ := h3.fin er2
  exact ix_data er2.sub r1 (Rp.rq er2.sub hw) hd Q fun z hz => fin H2 F2 Al.refl z hz
theorem jv_ix (ha : JV X T W a ma) (hb : JV X T W b mb) (hs : PlainIx b := by intro _ _; rfl) : JV X T W (.Subscript a b pos) (m2 gIx ma mb) := by
  refine PEimp (pe_ix ix_seq ha hb hs) fun σ H Q ⟨e, F, er, h⟩ => ⟨e, F, er, h.bind.mono fun d1 e1 H1 F1 er1 mv1 h1 v hv => ⟨e1, F1, er1, h1.bind.mono fun d2 e2 H2 F2 er2 mv2 h2 w hw => ?_⟩⟩
  obtain ⟨d, hd, fin⟩ := h2.fin er2
  exact ix_data er2.sub (Rp.rq er2.sub (Rp.mono mv2.sub _ _ hv)) (Rp.rq er2.sub hw) hd Q fun z hz => fin H2 F2 Al.refl z hz
end
end Sr
namespace Sr
variable [TabL]
open PySem PySem.Spec L2
open PyProof.Rows hiding St
section
variable (K : PySem.W.Frag) (mg : Str → Option Value) (T : Pn) (W : WX)
def TSt (s : M Fl) : TS := fun Dn σ H => ∃ e F, ER K mg T e σ H F ∧ RunS K mg T W e F s σ H Dn
end
abbrev JS (X : Cx) (T : Pn) (W : WX) (st : Stmt) (m : M Fl) : Prop := PS X st (TSt X.K X.mg T W m)
abbrev JSs (X : Cx) (T : Pn) (W : WX) (st : List Stmt) (m : M Fl) : Prop := PSs X st (TSt X.K X.mg T W m)
theorem PSimp {X : Cx} {e : Stmt} {t t' : TS} (h : PS X e t) (k : ∀ D σ H, t' D σ H → t D σ H) : PS X e t' := ⟨fun pins s σ H D I q => h.run pins s σ H D I (k D σ H q)⟩
theorem PSsimp {X : Cx} {e : List Stmt} {t t' : TS} (h : PSs X e t) (k : ∀ D σ H, t' D σ H → t D σ H) : PSs X e t' := ⟨fun pins s σ H D I q => h.run pins s σ H D I (k D σ H q)⟩
section
variable {K : PySem.W.Frag} {mg : Str → Option Value} {T : Pn} {W : WX} {e e1 : En} {σ σ1 : St} {H F H1 F1 : Hp} {A : Type}
theorem Mv.newO (mv : Mv e σ H F e1 σ1 H1 F1) {p : Addr} (h : H1 p = none ∨ Ow e1 σ1 p) : H p = none ∨ Ow e σ p := by
  rcases h with h | h
  · exact .inl (mv.there p h)
  · cases q : H p with
    | none => exact .inl rfl
    | some o =>
      by_cases w : Ow e σ p
      · exact .inr w
      · exact absurd h (mv.keep p o q w).2
theorem RunS.after {s s' : M Fl} {Dn : Ends} (h : RunS K mg T W e F s σ H Dn) (hs : s e = s' e1) (mv : Mv e σ H F e1 σ1 H1 F1) : RunS K mg T W e1 F1 s' σ1 H1 Dn := by
  unfold RunS at h ⊢
  rw [hs] at h
  cases q : s' e1 with
  | ok fl e2 =>
    rw [q] at h
    cases fl with
    | nx => exact fun σ' H' F' er mv' => h σ' H' F' er (mv.trans mv')
    | rt d => exact fun σ' H' F' v er mv' => h σ' H' F' v er (mv.trans mv')
    | ro d => exact fun σ' H' F' p er mv' hp => h σ' H' F' p er (mv.trans mv') (mv.newO hp)
    | bk => exact fun σ' H' F' er mv' => h σ' H' F' er (mv.trans mv')
    | ct => exact fun σ' H' F' er mv' => h σ' H' F' er (mv.trans mv')
  | exc x e2 => rw [q] at h; exact fun σ' H' F' cl dd er mv' => h σ' H' F' cl dd er (mv.trans mv')
  | bad => rw [q] at h; exact h
theorem RunS.bind {m : M A} {f : A → M Fl} {Dn : Ends} (h : RunS K mg T W e F (bnd m f) σ H Dn) : RunAt K mg T W e F m σ H fun a e1 H1 F1 => RunS K mg T W e1 F1 (f a) σ H1 Dn := by
  unfold RunAt
  cases q : m e with
  | ok a e1 =>
    intro H1 F1 er1 mv1
    exact h.after (by unfold bnd; rw [q]) mv1
  | exc x e1 =>
    unfold RunS bnd at h
    rw [q] at h
    exact fun H' F' cl dd er mv xr => h σ H' F' cl dd er mv xr
  | bad => unfold RunS bnd at h; rw [q] at h; exact h
end
section
variable {X : Cx} {T : Pn} {W : WX} {pos : Pos} {a b c : Expr} {ma mb mc : M D} {st : Stmt} {rest sa sb : List Stmt} {s u : M Fl}
def skp : M Fl := ret .nx
def sq (s u : M Fl) : M Fl := fun e => match s e with
  | .ok .nx e1 => u e1
  | o => o
theorem js_nil : JSs X T W [] skp := PSsimp pss_nil fun D σ H ⟨e, F, er, h⟩ => h σ H F er Mv.refl
theorem js_cons (h1 : JS X T W st s) (h2 : JSs X T W rest u) : JSs X T W (st :: rest) (sq s u) := by
  refine PSsimp (pss_cons h1 h2) fun D σ H ⟨e, F, er, h⟩ => ⟨e, F, er, ?_⟩
  unfold RunS
  cases q : s e with
  | ok fl e1 =>
    cases fl with
    | nx => exact fun σ' H' F' er' mv => ⟨e1, F', er', h.after (by unfold sq; rw [q]) mv⟩
    | rt d => unfold RunS sq at h; rw [q] at h; exact h
    | ro d => unfold RunS sq at h; rw [q] at h; exact h
    | bk => unfold RunS sq at h; rw [q] at h; exact h
    | ct => unfold RunS sq at h; rw [q] at h; exact h
  | exc x e1 => unfold RunS sq at h; rw [q] at h; exact h
  | bad => unfold RunS sq at h; rw [q] at h; exact h
theorem js_one (h1 : JS X T W st s) : JSs X T W [st] s := pss_one h1
def sDrop (m : M D) : M Fl := bnd m fun _ => skp
theorem js_expr (ha : JV X T W a ma) (hs : swapsWith a none pos.line X.env = pure false := by rfl) : JS X T W (.Expr a pos) (sDrop ma) :=
  PSimp (ps_expr ha hs) fun D σ H ⟨e, F, er, h⟩ => ⟨e, F, er, h.bind.mono fun d e1 H1 F1 er1 mv1 h1 v hv => h1 σ H1 F1 er1 Mv.refl⟩
def sRet (m : M D) : M Fl := bnd m fun d => ret (.rt d)
def sRetO (m : M D) : M Fl := bnd m fun d => ret (.ro d)
theorem js_ret (ha : JV X T W a ma) : JS X T W (.Return (some a) pos) (sRet ma) :=
  PSimp (ps_ret ha) fun D σ H ⟨e, F, er, h⟩ => ⟨e, F, er, h.bind.mono fun d e1 H1 F1 er1 mv1 h1 v hv => h1 σ H1 F1 v er1 Mv.refl hv⟩
theorem js_retO (ha : JO X T W a ma) : JS X T W (.Return (some a) pos) (sRetO ma) :=
  PSimp (ps_ret ha) fun D σ H ⟨e, F, er, h⟩ => ⟨e, F, er, by
    unfold RunAt
    cases q : ma e with
    | ok d e1 =>
      intro H1 F1 er1 mv1 p hp fp np ow
      unfold RunS sRetO bnd ret at h
      rw [q] at h
      exact h σ H1 F1 p er1 mv1 (.inl hp) fp np ow
    | exc x e1 => unfold RunS sRetO bnd at h; rw [q] at h; exact fun H' F' cl dd er mv xr => h σ H' F' cl dd er mv xr
    | bad => unfold RunS sRetO bnd at h; rw [q] at h; exact h⟩
def sIf (n : M Bool) (s u : M Fl) : M Fl := bnd n fun k => if k = true then s else u
theorem js_if {n : M Bool} (hc : JT X T W c n) (ha : JSs X T W sa s) (hb : JSs X T W sb u) : JS X T W (.If c sa sb pos) (sIf n s u) := by
  refine PSimp (ps_if hc ha hb) fun D σ H ⟨e, F, er, h⟩ => ⟨e, F, er, h.bind.mono fun k e1 H1 F1 er1 mv1 h1 => ?_⟩
  cases k with
  | true => rw [if_pos rfl] at h1 ⊢; exact ⟨e1, F1, er1, h1⟩
  | false => rw [if_neg (by decide)] at h1 ⊢; exact ⟨e1, F1, er1, h1⟩
theorem ER.setV {K : PySem.W.Frag} {mg : Str → Option Value} {e : En} {σ : St} {H F : Hp} {i : Nat} {d : D} {v : V} (er : ER K mg T e σ H F) (hT : NoP T i) (r : Rp K mg F d v) :
    ER K mg T (e.set i (.val d)) (σ.set i (some v)) H F ∧ Mv e σ H F (e.set i (.val d)) (σ.set i (some v)) H F := by
  have ow : ∀ (j : Nat) (x : D), (e.set i (Sl.val d))[j]? = some (.own x) → e[j]? = some (.own x) ∧ j ≠ i := fun j x q => by
    by_cases hj : j = i
    · subst hj
      by_cases hl : j < e.length
      · rw [List.getElem?_set_self hl] at q; cases q
      · rw [List.getElem?_eq_none (by rw [List.length_set]; omega)] at q; cases q
    · rw [List.getElem?_set_ne (Ne.symm hj)] at q; exact ⟨q, hj⟩
  refine ⟨⟨er.sub, fun j x q => ?_, fun j x q => ?_, fun j k p x y q1 q2 q3 q4 => ?_, by rw [List.length_set, List.length_set]; exact er.len, fun p hp => ?_, er.tb⟩, Same.refl _, fun a o q n => ⟨fun _ => q, ?_⟩, fun a o q => .inl q, fun a q => q⟩
  · by_cases hj : j = i
    · subst hj
      by_cases hl : j < e.length
      · rw [List.getElem?_set_self hl] at q; cases q
        exact ⟨v, List.getElem?_set_self (by rw [← er.len]; exact hl), r⟩
      · rw [List.getElem?_eq_none (by rw [List.length_set]; omega)] at q; cases q
    · rw [List.getElem?_set_ne (Ne.symm hj)] at q
      obtain ⟨w, h1, h2⟩ := er.val j x q
      exact ⟨w, by rw [List.getElem?_set_ne (Ne.symm hj)]; exact h1, h2⟩
  · obtain ⟨q, hj⟩ := ow j x q
    obtain ⟨p, h1, h2, h3⟩ := er.own j x q
    exact ⟨p, by rw [List.getElem?_set_ne (Ne.symm hj)]; exact h1, h2, h3⟩
  · obtain ⟨q1, hj⟩ := ow j x q1
    obtain ⟨q2, hk⟩ := ow k y q2
    rw [List.getElem?_set_ne (Ne.symm hj)] at q3
    rw [List.getElem?_set_ne (Ne.symm hk)] at q4
    exact er.inj j k p x y q1 q2 q3 q4
  · rw [List.getElem?_set_ne (Ne.symm (hT p hp))]; exact er.pin p hp
  · rintro ⟨j, x, q1, q2⟩
    obtain ⟨q1, hj⟩ := ow j x q1
    rw [List.getElem?_set_ne (Ne.symm hj)] at q2
    exact n ⟨j, x, q1, q2⟩
theorem ER.setO {K : PySem.W.Frag} {mg : Str → Option Value} {e : En} {σ : St} {H F H0 : Hp} {i : Nat} {d : D} {p : Addr} (er : ER K mg T e σ H F) (hT : NoP T i) (fp : F p = none) (np : ¬ Ow e σ p) (ow : OwnAt K mg H F p d) :
    ER K mg T (e.set i (.own d)) (σ.set i (some (.ref p))) H F ∧ ∀ {e0 : En} {σ0 : St} {F0 : Hp}, H0 p = none → Mv e0 σ0 H0 F0 e σ H F → Mv e0 σ0 H0 F0 (e.set i (.own d)) (σ.set i (some (.ref p))) H F := by
  have own : ∀ (j : Nat) (x : D), (e.set i (Sl.own d))[j]? = some (.own x) → (j ≠ i ∧ e[j]? = some (.own x)) ∨ (j = i ∧ x = d ∧ i < e.length) := fun j x q => by
    by_cases hj : j = i
    · subst hj
      by_cases hl : j < e.length
      · rw [List.getElem?_set_self hl] at q; cases q; exact .inr ⟨rfl, rfl, hl⟩
      · rw [List.getElem?_eq_none (by rw [List.length_set]; omega)] at q; cases q
    · rw [List.getElem?_set_ne (Ne.symm hj)] at q; exact .inl ⟨hj, q⟩
  refine ⟨⟨er.sub, fun j x q => ?_, fun j x q => ?_, fun j k p' x y q1 q2 q3 q4 => ?_, by rw [List.length_set, List.length_set]; exact er.len, fun p hp => ?_, er.tb⟩, fun {e0 σ0 F0} hp mv => ⟨mv.sub, fun a o q n => ?_, mv.new, mv.there⟩⟩
  · have hj : j ≠ i := by
      rintro rfl
      by_cases hl : j < e.length
      · rw [List.getElem?_set_self hl] at q; cases q
      · rw [List.getElem?_eq_none (by rw [List.length_set]; omega)] at q; cases q
    rw [List.getElem?_set_ne (Ne.symm hj)] at q
    obtain ⟨w, h1, h2⟩ := er.val j x q
    exact ⟨w, by rw [List.getElem?_set_ne (Ne.symm hj)]; exact h1, h2⟩
  · rcases own j x q with ⟨hj, q⟩ | ⟨rfl, rfl, hl⟩
    · obtain ⟨p', h1, h2, h3⟩ := er.own j x q
      exact ⟨p', by rw [List.getElem?_set_ne (Ne.symm hj)]; exact h1, h2, h3⟩
    · exact ⟨p, List.getElem?_set_self (by rw [← er.len]; exact hl), fp, ow⟩
  · rcases own j x q1 with ⟨hj, w1⟩ | ⟨hj, _, hl⟩
    · rw [List.getElem?_set_ne (Ne.symm hj)] at q3
      rcases own k y q2 with ⟨hk, w2⟩ | ⟨hk, _, hl⟩
      · rw [List.getElem?_set_ne (Ne.symm hk)] at q4
        exact er.inj j k p' x y w1 w2 q3 q4
      · rw [hk, List.getElem?_set_self (by rw [← er.len]; exact hl)] at q4
        cases q4
        exact (np ⟨j, x, w1, q3⟩).elim
    · rcases own k y q2 with ⟨hk, w2⟩ | ⟨hk, _, hl2⟩
      · rw [List.getElem?_set_ne (Ne.symm hk)] at q4
        rw [hj, List.getElem?_set_self (by rw [← er.len]; exact hl)] at q3
        cases q3
        exact (np ⟨k, y, w2, q4⟩).elim
      · rw [hj, hk]
  · rw [List.getElem?_set_ne (Ne.symm (hT p hp))]; exact er.pin p hp
  · obtain ⟨h1, h2⟩ := mv.keep a o q n
    refine ⟨h1, ?_⟩
    rintro ⟨j, x, q1, q2⟩
    rcases own j x q1 with ⟨hj, q1⟩ | ⟨rfl, rfl, hl⟩
    · rw [List.getElem?_set_ne (Ne.symm hj)] at q2
      exact h2 ⟨j, x, q1, q2⟩
    · rw [List.getElem?_set_self (by rw [← er.len]; exact hl)] at q2
      cases q2
      rw [hp] at q; cases q
def sSet (i : Nat) (m : M D) : M Fl := bnd m fun d e => .ok .nx (e.set i (.val d))
def sSetO (i : Nat) (m : M D) : M Fl := bnd m fun d e => .ok .nx (e.set i (.own d))
theorem run_set {i : Nat} {Dn : Ends} {σ : St} {H : Hp} (hT : NoP T i) (h : TSt X.K X.mg T W (sSet i ma) Dn σ H) : tAsg (TV X.K X.mg T W ma) (gName i) Dn σ H := by
  obtain ⟨e, F, er, h⟩ := h
  refine ⟨e, F, er, h.bind.mono fun d e1 H1 F1 er1 mv1 h1 v hv => ?_⟩
  obtain ⟨er2, mv2⟩ := er1.setV hT hv
  exact h1 _ H1 F1 er2 mv2
theorem run_setO {i : Nat} {Dn : Ends} {σ : St} {H : Hp} (hT : NoP T i) (h : TSt X.K X.mg T W (sSetO i ma) Dn σ H) : tAsg (TO X.K X.mg T W ma) (gName i) Dn σ H := by
  obtain ⟨e, F, er, h⟩ := h
  refine ⟨e, F, er, ?_⟩
  unfold RunAt
  cases q : ma e with
  | ok d e1 =>
    intro H1 F1 er1 mv1 p hp fp np ow
    obtain ⟨er2, mv2⟩ := er1.setO (H0 := H) hT fp np ow
    unfold RunS sSetO bnd at h
    rw [q] at h
    exact h _ H1 F1 er2 (mv2 hp mv1)
  | exc x e1 => unfold RunS sSetO bnd at h; rw [q] at h; exact fun H' F' cl dd er mv xr => h σ H' F' cl dd er mv xr
  | bad => unfold RunS sSetO bnd at h; rw [q] at h; exact h
theorem js_set {i : Nat} {x : Str} {pos' : Pos} (hT : NoP T i) (hN : X.N.Nodup) (hi : X.N[i]? = some x) (hx : Loc X.env.scope x) (ha : JV X T W a ma) (hs : swapsWith a (some (.Name x pos')) pos.line X.env = pure false := by rfl) (hf : X.fn x = true ∨ X.env.scope.names.lookup x = some .local := by first | exact .inl rfl | exact .inr rfl | assumption) :
    JS X T W (.Assign [.Name x pos'] a pos) (sSet i ma) := PSimp (ps_set hN hi hx ha hs hf) fun D σ H h => run_set hT h
theorem js_setO {i : Nat} {x : Str} {pos' : Pos} (hT : NoP T i) (hN : X.N.Nodup) (hi : X.N[i]? = some x) (hx : Loc X.env.scope x) (ha : JO X T W a ma) (hs : swapsWith a (some (.Name x pos')) pos.line X.env = pure false := by rfl) (hf : X.fn x = true ∨ X.env.scope.names.lookup x = some .local := by first | exact .inl rfl | exact .inr rfl | assumption) :
    JS X T W (.Assign [.Name x pos'] a pos) (sSetO i ma) := PSimp (ps_set hN hi hx ha hs hf) fun D σ H h => run_setO hT h
def TG' (K : PySem.W.Frag) (mg : Str → Option Value) (T : Pn) (W : WX) (w : D → M Unit) : TG := fun v σ H Q => ∃ e F d, ER K mg T e σ H F ∧ Rp K mg F d v ∧
  match w d e with
  | .ok _ e' => ∀ σ' H' F', ER K mg T e' σ' H' F' → Mv e σ H F e' σ' H' F' → Q σ' H'
  | _ => False
def TGs' (K : PySem.W.Frag) (mg : Str → Option Value) (T : Pn) (W : WX) (w : List D → M Unit) : TGs := fun vs σ H Q => ∃ e F ds, ER K mg T e σ H F ∧ RpL K mg F ds vs ∧
  match w ds e with
  | .ok _ e' => ∀ σ' H' F', ER K mg T e' σ' H' F' → Mv e σ H F e' σ' H' F' → Q σ' H'
  | _ => False
abbrev JG (X : Cx) (T : Pn) (W : WX) (tg : Expr) (w : D → M Unit) : Prop := PG X tg (TG' X.K X.mg T W w)
abbrev JGs (X : Cx) (T : Pn) (W : WX) (tg : List Expr) (w : List D → M Unit) : Prop := PGs X tg (TGs' X.K X.mg T W w)
def gN (i : Nat) : D → M Unit := fun d e => .ok () (e.set i (.val d))
def gsN : List D → M Unit
  | [] => ret ()
  | _ => fun _ => .bad
def gsC (w : D → M Unit) (ws : List D → M Unit) : List D → M Unit
  | d :: ds => bnd (w d) fun _ => ws ds
  | [] => fun _ => .bad
def gT (n : Nat) (ws : List D → M Unit) : D → M Unit
  | .tup ds => if ds.length = n then ws ds else fun _ => .bad
  | .ct ds => if ds.length = n then ws ds else fun _ => .bad
  | _ => fun _ => .bad
theorem jg_name {i : Nat} {x : Str} (hT : NoP T i) (hN : X.N.Nodup) (hi : X.N[i]? = some x) (hx : Loc X.env.scope x) (hf : X.fn x = true ∨ X.env.scope.names.lookup x = some .local := by first | exact .inl rfl | exact .inr rfl | assumption) : JG X T W (.Name x pos) (gN i) := by
  refine ⟨fun pins s σ H v u Q I r h => (pg_name hN hi hx hf).run pins s σ H v u Q I r ?_⟩
  obtain ⟨e, F, d, er, rd, h⟩ := h
  obtain ⟨er2, mv2⟩ := er.setV hT rd
  exact h _ H F er2 mv2
theorem jgs_nil : JGs X T W [] gsN := by
  refine ⟨fun pins s σ H vs us Q I r h => pgs_nil.run pins s σ H vs us Q I r ?_⟩
  obtain ⟨e, F, ds, er, rd, h⟩ := h
  cases ds with
  | nil => rw [rl_nil] at rd; exact ⟨rd, h σ H F er Mv.refl⟩
  | cons d ds => exact h.elim
theorem jgs_cons {e : Expr} {es : List Expr} {w : D → M Unit} {ws : List D → M Unit} (h1 : JG X T W e w) (h2 : JGs X T W es ws)
    (hs : (assignEach (e :: es) X.env).map (·.2) = assign e X.env :: (assignEach es X.env).map (·.2) := by rfl) : JGs X T W (e :: es) (gsC w ws) := by
  refine ⟨fun pins s σ H vs us Q I r h => (pgs_cons h1 h2 hs).run pins s σ H vs us Q I r ?_⟩
  obtain ⟨e, F, ds, er, rd, h⟩ := h
  cases ds with
  | nil => exact h.elim
  | cons d ds =>
    rw [rl_cons] at rd
    obtain ⟨v, vs, rfl, rd, rl⟩ := rd
    refine ⟨v, vs, rfl, e, F, d, er, rd, ?_⟩
    simp only [gsC, bnd] at h
    cases q : w d e with
    | ok u e1 =>
      rw [q] at h
      dsimp only at h ⊢
      intro σ1 H1 F1 er1 mv1
      refine ⟨e1, F1, ds, er1, RpL.mono mv1.sub _ _ rl, ?_⟩
      cases q2 : ws ds e1 with
      | ok u e2 => rw [q2] at h; exact fun σ' H' F' er' mv' => h σ' H' F' er' (mv1.trans mv')
      | exc x e2 => rw [q2] at h; exact h
      | bad => rw [q2] at h; exact h
    | exc x e1 => rw [q] at h; exact h
    | bad => rw [q] at h; exact h
theorem jg_tup {es : List Expr} {k : Nat} {ws : List D → M Unit} {n : Nat} (hc : X.calm = true) (h : JGs X T W es ws)
    (hn : (assignEach es X.env).length = n := by rfl) (hst : (assignEach es X.env).findIdx? (·.1) = none := by rfl) : JG X T W (.Tuple es k pos) (gT n ws) := by
  refine ⟨fun pins s σ H v u Q I r q => (pg_tup hc h hn hst).run pins s σ H v u Q I r ?_⟩
  obtain ⟨e, F, d, er, rd, q⟩ := q
  unfold gT at q
  split at q
  · rename_i u e' hh
    split at hh
    · rename_i ds
      rw [rp_tup] at rd
      obtain ⟨a, xs, rfl, rd, rl⟩ := rd
      split at hh
      · rename_i hl
        refine ⟨a, xs, rfl, seqT_mono er.sub rd, by rw [← rl.len]; exact hl, e, F, ds, er, rl, ?_⟩
        rw [hh]; exact q
      · cases hh
    · rename_i ds
      rw [rp_ct] at rd
      obtain ⟨a, xs, rfl, rd, rl⟩ := rd
      split at hh
      · rename_i hl
        refine ⟨a, xs, rfl, seqC_mono er.sub rd, by rw [← rl.len]; exact hl, e, F, ds, er, rl, ?_⟩
        rw [hh]; exact q
      · cases hh
    · cases hh
  · exact q.elim
def sAsg (m : M D) (w : D → M Unit) : M Fl := bnd m fun d => bnd (w d) fun _ => skp
theorem RunAt.noexc {K : PySem.W.Frag} {mg : Str → Option Value} {e : En} {σ : St} {H F : Hp} {w : M Unit} {Dn : Ends} (h : RunS K mg T W e F (bnd w fun _ => skp) σ H Dn) (hx : ∀ x e', w e ≠ .exc x e') : match w e with
  | .ok _ e' => ∀ σ' H' F', ER K mg T e' σ' H' F' → Mv e σ H F e' σ' H' F' → Dn.nx σ' H'
  | _ => False := by
  unfold RunS bnd at h
  cases q : w e with
  | ok u e' => rw [q] at h; exact h
  | exc x e' => exact (hx x e' q).elim
  | bad => rw [q] at h; exact h
def NoExc (w : D → M Unit) : Prop := ∀ d e x e', w d e ≠ .exc x e'
def NoExcs (w : List D → M Unit) : Prop := ∀ d e x e', w d e ≠ .exc x e'
theorem ne_name {i : Nat} : NoExc (gN i) := fun _ _ _ _ h => by cases h
theorem nes_nil : NoExcs gsN := fun d e x e' h => by cases d <;> cases h
theorem nes_cons {w : D → M Unit} {ws : List D → M Unit} (h1 : NoExc w) (h2 : NoExcs ws) : NoExcs (gsC w ws) := fun d e x e' h => by
  cases d with
  | nil => cases h
  | cons d ds =>
    simp only [gsC, bnd] at h
    cases q : w d e with
    | ok u e1 => rw [q] at h; exact h2 _ _ _ _ h
    | exc x e1 => exact h1 _ _ _ _ q
    | bad => rw [q] at h; cases h
theorem ne_tup {n : Nat} {ws : List D → M Unit} (h2 : NoExcs ws) : NoExc (gT n ws) := fun d e x e' h => by
  unfold gT at h
  split at h
  · split at h
    · exact h2 _ _ _ _ h
    · cases h
  · split at h
    · exact h2 _ _ _ _ h
    · cases h
  · cases h
theorem js_asg {tg : Expr} {w : D → M Unit} (ha : JV X T W a ma) (hg : JG X T W tg w) (hne : NoExc w) (hs : swapsWithSole [tg] a pos.line X.env = pure false := by rfl) (hw : swappedStores [tg] a X.env = pure none := by rfl)
    (h1 : (assignEach [tg] X.env).map (·.2) = [assign tg X.env] := by rfl) : JS X T W (.Assign [tg] a pos) (sAsg ma w) :=
  PSimp (ps_asg ha hg hs hw h1) fun D σ H ⟨e, F, er, h⟩ => ⟨e, F, er, h.bind.mono fun d e1 H1 F1 er1 mv1 h1 v hv => ⟨e1, F1, d, er1, hv, RunAt.noexc h1 fun x e' => hne d e1 x e'⟩⟩
def sPar (ms : M (List D)) (ws : List D → M Unit) : M Fl := bnd ms fun ds => bnd (ws ds) fun _ => skp
theorem js_par {i j : Nat} {x y : Str} {ms : M (List D)} {px py pt : Pos} {kt k2 pt2} (hT : NoP T i) (hT' : NoP T j) (hc : X.calm = true) (hN : X.N.Nodup) (hi : X.N[i]? = some x) (hj : X.N[j]? = some y) (hij : i ≠ j)
    (hx : X.env.scope.names.lookup x = some .local) (hy : X.env.scope.names.lookup y = some .local) (ha : JA X T W [a, b] ms)
    (hw : swappedStores [.Tuple [.Name x px, .Name y py] kt pt] (.Tuple [a, b] k2 pt2) X.env = pure (some [x, y]) := by rfl)
    (hs : swapsWithSole [.Tuple [.Name x px, .Name y py] kt pt] (.Tuple [a, b] k2 pt2) pos.line X.env = pure false := by rfl) :
    JS X T W (.Assign [.Tuple [.Name x px, .Name y py] kt pt] (.Tuple [a, b] k2 pt2) pos) (sPar ms (gsC (gN i) (gsC (gN j) gsN))) := by
  refine PSimp (ps_par hc hN hi hj hij hx hy ha hw hs) fun D σ H ⟨e, F, er, h⟩ => ⟨e, F, er, h.bind.mono fun ds e1 H1 F1 er1 mv1 h1 vs hvs => ?_⟩
  match ds, hvs with
  | [], _ => exact h1.elim
  | [_], _ => exact h1.elim
  | _ :: _ :: _ :: _, _ => exact h1.elim
  | [d1, d2], hvs =>
    obtain ⟨v, w, rfl, r1, r2⟩ := rl_two hvs
    obtain ⟨er2, mv2⟩ := er1.setV hT r1
    obtain ⟨er3, mv3⟩ := er2.setV hT' r2
    exact ⟨v, w, rfl, h1 _ H1 F1 er3 (mv2.trans mv3)⟩
theorem js_par3 {i j l : Nat} {x y z : Str} {ms : M (List D)} {px py pz pt : Pos} {kt k2 pt2} (hT : NoP T i) (hT' : NoP T j) (hT2 : NoP T l) (hc : X.calm = true) (hN : X.N.Nodup) (hi : X.N[i]? = some x) (hj : X.N[j]? = some y) (hl : X.N[l]? = some z) (hij : i ≠ j) (hil : i ≠ l) (hjl : j ≠ l)
    (hx : X.env.scope.names.lookup x = some .local) (hy : X.env.scope.names.lookup y = some .local) (hz : X.env.scope.names.lookup z = some .local) (ha : JA X T W [a, b, c] ms)
    (hw : swappedStores [.Tuple [.Name x px, .Name y py, .Name z pz] kt pt] (.Tuple [a, b, c] k2 pt2) X.env = pure (some [x, y, z]) := by rfl)
    (hs : swapsWithSole [.Tuple [.Name x px, .Name y py, .Name z pz] kt pt] (.Tuple [a, b, c] k2 pt2) pos.line X.env = pure false := by rfl) :
    JS X T W (.Assign [.Tuple [.Name x px, .Name y py, .Name z pz] kt pt] (.Tuple [a, b, c] k2 pt2) pos) (sPar ms (gsC (gN i) (gsC (gN j) (gsC (gN l) gsN)))) := by
  refine PSimp (ps_par3 hc hN hi hj hl hij hil hjl hx hy hz ha hw hs) fun D σ H ⟨e, F, er, h⟩ => ⟨e, F, er, h.bind.mono fun ds e1 H1 F1 er1 mv1 h1 vs hvs => ?_⟩
  match ds, hvs with
  | [], _ => exact h1.elim
  | [_], _ => exact h1.elim
  | [_, _], _ => exact h1.elim
  | _ :: _ :: _ :: _ :: _, _ => exact h1.elim
  | [d1, d2, d3], hvs =>
    rw [rl_cons] at hvs
    obtain ⟨u, us, rfl, r0, hvs⟩ := hvs
    obtain ⟨v, w, rfl, r1, r2⟩ := rl_two hvs
    obtain ⟨er2, mv2⟩ := er1.setV hT r0
    obtain ⟨er3, mv3⟩ := er2.setV hT' r1
    obtain ⟨er4, mv4⟩ := er3.setV hT2 r2
    exact ⟨u, v, w, rfl, h1 _ H1 F1 er4 ((mv2.trans mv3).trans mv4)⟩
end
end Sr
namespace Sr
variable [TabL]
open PySem PySem.Spec L2
open PyProof.Rows hiding St
def Walks (K : PySem.W.Frag) (mg : Str → Option Value) (J : It) (ds : List D) (F : Hp) : Prop :=
  ∃ (G : Hp → Prop) (Y : Nat → Hp → V → Hp → Prop), Walk J ds.length G Y ∧ (∀ H, Same F H → G H) ∧
    ∀ i H1 F1 x H2, i < ds.length → Same F F1 → Same F1 H1 → Y i H1 x H2 → ∃ F2 d, Al H1 F1 H2 F2 ∧ ds[i]? = some d ∧ Rp K mg F2 d x
def TIt (K : PySem.W.Frag) (mg : Str → Option Value) (T : Pn) (W : WX) (m : M (List D)) : TI := fun σ H R => ∃ e F, ER K mg T e σ H F ∧ RunAt K mg T W e F m σ H fun ds _ H' F' => ∀ J, Walks K mg J ds F' → R J H'
abbrev JI (X : Cx) (T : Pn) (W : WX) (tg iter : Expr) (m : M (List D)) : Prop := PI X tg iter (TIt X.K X.mg T W m)
theorem PIimp {X : Cx} {tg iter : Expr} {t t' : TI} (h : PI X tg iter t) (k : ∀ σ H R, t' σ H R → t σ H R) : PI X tg iter t' := ⟨fun pins s σ H R I q => h.run pins s σ H R I (k σ H R q)⟩
def lp (b k : M Fl) : M Fl := fun e => match b e with
  | .ok .nx e2 => k e2
  | .ok .ct e2 => k e2
  | .ok .bk e2 => .ok .nx e2
  | o => o
def forL (w : D → M Unit) (b : M Fl) : List D → M Fl
  | [] => skp
  | d :: ds => bnd (w d) fun _ => lp b (forL w b ds)
def sFor (m : M (List D)) (w : D → M Unit) (b : M Fl) : M Fl := bnd m fun ds => forL w b ds
def whl (c : M Bool) (b : M Fl) : Nat → M Fl
  | 0 => fun _ => .bad
  | n + 1 => bnd c fun k => if k = true then lp b (whl c b n) else skp
def wF : Nat := 1000000
def sWhile (c : M Bool) (b : M Fl) : M Fl := whl c b wF
section
variable {X : Cx} {T : Pn} {W : WX} {pos : Pos} {a b c : Expr} {ma mb mc : M D} {body : List Stmt} {s u : M Fl}
theorem RunS.lp {K : PySem.W.Frag} {mg : Str → Option Value} {e : En} {F : Hp} {σ : St} {H : Hp} {Dn : Ends} {b k : M Fl} (h : RunS K mg T W e F (Sr.lp b k) σ H Dn) (N : St → Hp → Prop) (hN : ∀ σ' H' e' F', ER K mg T e' σ' H' F' → RunS K mg T W e' F' k σ' H' Dn → N σ' H') :
    RunS K mg T W e F b σ H { Dn with nx := N, ct := N, bk := Dn.nx } := by
  unfold RunS
  cases q : b e with
  | ok fl e1 =>
    cases fl with
    | nx => exact fun σ' H' F' er mv => hN σ' H' e1 F' er (h.after (by unfold Sr.lp; rw [q]) mv)
    | ct => exact fun σ' H' F' er mv => hN σ' H' e1 F' er (h.after (by unfold Sr.lp; rw [q]) mv)
    | bk => unfold RunS Sr.lp at h; rw [q] at h; exact h
    | rt d => unfold RunS Sr.lp at h; rw [q] at h; exact h
    | ro d => unfold RunS Sr.lp at h; rw [q] at h; exact h
  | exc x e1 => unfold RunS Sr.lp at h; rw [q] at h; exact h
  | bad => unfold RunS Sr.lp at h; rw [q] at h; exact h
theorem js_for {tg iter : Expr} {m : M (List D)} {w : D → M Unit} (hp : PassesOwn (model X.prog X.w) X.A X.env X.xe) (hc : X.calm = true) (hi : JI X T W tg iter m) (hg : JG X T W tg w) (hne : NoExc w) (hb : JSs X T W body s)
    (hs : ∀ x, foldedSetIterable iter X.env x = pure x := by intro _; rfl) : JS X T W (.For tg iter body [] pos) (sFor m w s) := by
  refine PSimp (ps_for hp hc hi hg hb hs) fun Dn σ H ⟨e, F, er, h⟩ => ⟨e, F, er, h.bind.mono fun ds e1 H1 F1 er1 mv1 h1 J wk => ?_⟩
  obtain ⟨G, Y, wlk, hG, hY⟩ := wk
  refine for_it wlk (fun i σ2 H2 => ∃ e2 F2, ER X.K X.mg T e2 σ2 H2 F2 ∧ Same F1 F2 ∧ RunS X.K X.mg T W e2 F2 (forL w s (ds.drop i)) σ2 H2 Dn) ⟨e1, F1, er1, Same.refl _, h1⟩ (fun i σ2 H2 _ ⟨e2, F2, er2, s2, _⟩ => hG H2 (s2.trans er2.sub)) ?_ ?_
  · rintro i x σ2 H2 H3 hi ⟨e2, F2, er2, s2, h2⟩ y
    obtain ⟨F3, d, al, hd, rd⟩ := hY i H2 F2 x H3 hi s2 er2.sub y
    have er3 := er2.al al
    have hdr : ds.drop i = d :: ds.drop (i + 1) := by
      rw [List.drop_eq_getElem_cons hi]
      have : ds[i] = d := by rw [List.getElem?_eq_getElem hi] at hd; exact Option.some.inj hd
      rw [this]
    rw [hdr] at h2
    have h3 := h2.after (s' := forL w s (d :: ds.drop (i + 1))) rfl (Mv.al er2 al)
    refine ⟨e2, F3, d, er3, rd, ?_⟩
    cases q : w d e2 with
    | ok u e3 =>
      intro σ4 H4 F4 er4 mv4
      have h4 := h3.after (s' := Sr.lp s (forL w s (ds.drop (i + 1)))) (by show bnd (w d) _ e2 = _; unfold bnd; rw [q]) mv4
      refine ⟨e3, F4, er4, ?_⟩
      have s4 : Same F1 F4 := (s2.trans (al.same er2.sub).1).trans mv4.sub
      have hh := h4.lp (fun σ' H' => ∃ e5 F5, ER X.K X.mg T e5 σ' H' F5 ∧ RunS X.K X.mg T W e5 F5 (forL w s (ds.drop (i + 1))) σ' H' Dn) fun σ' H' e' F' er' r' => ⟨e', F', er', r'⟩
      unfold RunS at hh ⊢
      cases q2 : s e3 with
      | ok fl e5 =>
        rw [q2] at hh
        cases fl with
        | nx => exact fun σ' H' F' er' mv' => ⟨e5, F', er', s4.trans mv'.sub, h4.after (by unfold Sr.lp; rw [q2]) mv'⟩
        | ct => exact fun σ' H' F' er' mv' => ⟨e5, F', er', s4.trans mv'.sub, h4.after (by unfold Sr.lp; rw [q2]) mv'⟩
        | bk => exact hh
        | rt d => exact hh
        | ro d => exact hh
      | exc x e5 => rw [q2] at hh; exact hh
      | bad => rw [q2] at hh; exact hh
    | exc x e3 => exact (hne d e2 x e3 q).elim
    | bad =>
      have h4 : RunS X.K X.mg T W e2 F3 (bnd (w d) fun _ => Sr.lp s (forL w s (ds.drop (i + 1)))) σ2 H3 Dn := h3
      unfold RunS bnd at h4; rw [q] at h4; exact h4
  · rintro σ2 H2 ⟨e2, F2, er2, s2, h2⟩
    rw [List.drop_length] at h2
    exact h2 σ2 H2 F2 er2 Mv.refl
theorem js_while {n : M Bool} (hp : PassesOwn (model X.prog X.w) X.A X.env X.xe) (hc : JT X T W c n) (hb : JSs X T W body s) : JS X T W (.While c body [] pos) (sWhile n s) := by
  refine PSimp (ps_while hp hc hb) fun Dn σ H ⟨e, F, er, h⟩ => ?_
  refine ⟨fun m σ2 H2 => ∃ e2 F2, ER X.K X.mg T e2 σ2 H2 F2 ∧ RunS X.K X.mg T W e2 F2 (whl n s m) σ2 H2 Dn, ⟨wF, e, F, er, h⟩, ?_⟩
  rintro m σ2 H2 ⟨e2, F2, er2, h2⟩
  cases m with
  | zero => exact h2.elim
  | succ m =>
    refine ⟨e2, F2, er2, h2.bind.mono fun k e3 H3 F3 er3 mv3 h3 => ?_⟩
    cases k with
    | true =>
      rw [if_pos rfl] at h3 ⊢
      exact ⟨fun σ' H' => ∃ e' F', ER X.K X.mg T e' σ' H' F' ∧ RunS X.K X.mg T W e' F' (whl n s m) σ' H' Dn, fun σ' H' z => ⟨m, Nat.lt_succ_self m, z⟩, e3, F3, er3, h3.lp _ fun σ' H' e' F' er' r' => ⟨e', F', er', r'⟩⟩
    | false =>
      rw [if_neg (by decide)] at h3 ⊢
      exact h3 σ2 H3 F3 er3 Mv.refl
def dItems : D → Option (List D)
  | .lst ds => some ds
  | .tup ds => some ds
  | .str z => some (z.cps.toList.map fun c => .str ⟨#[c]⟩)
  | .ct ds => some ds
  | _ => none
def mItems (m : M D) : M (List D) := bnd m fun d => opt (dItems d)
theorem walks_list {K : PySem.W.Frag} {mg : Str → Option Value} {F : Hp} {a : Addr} {xs : List V} {ds : List D} (h : F a = some (.lst xs)) (l : RpL K mg F ds xs) : Walks K mg (Itl K a) ds F := by
  refine ⟨_, _, by rw [l.len]; exact walk_list (xs := xs), fun H s => SqL.of (s _ _ h), fun i H1 F1 x H2 hi s1 s2 y => ?_⟩
  obtain ⟨rfl, y⟩ := y
  obtain ⟨v, h1, h2⟩ := l.get (List.getElem?_eq_getElem hi)
  rw [h1] at y; cases y
  exact ⟨F1, ds[i], Al.refl, List.getElem?_eq_getElem hi, Rp.mono s1 _ _ h2⟩
theorem walks_tup {K : PySem.W.Frag} {mg : Str → Option Value} {F : Hp} {a : Addr} {xs : List V} {ds : List D} (h : SqT K F a xs) (l : RpL K mg F ds xs) : Walks K mg (Itt K a) ds F := by
  refine ⟨_, _, by rw [l.len]; exact walk_tup (xs := xs), fun H s => seqC_mono s h, fun i H1 F1 x H2 hi s1 s2 y => ?_⟩
  obtain ⟨rfl, y⟩ := y
  obtain ⟨v, h1, h2⟩ := l.get (List.getElem?_eq_getElem hi)
  rw [h1] at y; cases y
  exact ⟨F1, ds[i], Al.refl, List.getElem?_eq_getElem hi, Rp.mono s1 _ _ h2⟩
theorem walks_str {K : PySem.W.Frag} {mg : Str → Option Value} {F : Hp} {z : Str} : Walks K mg (Its z) (z.cps.toList.map fun c => .str ⟨#[c]⟩) F := by
  refine ⟨_, _, by rw [List.length_map, Array.length_toList]; exact walk_str (z := z), fun H s => trivial, fun i H1 F1 x H2 hi s1 s2 y => ?_⟩
  obtain ⟨rfl, c, hc, rfl⟩ := y
  refine ⟨F1, .str ⟨#[c]⟩, Al.refl, ?_, by rw [rp_str]⟩
  rw [List.getElem?_map, Array.getElem?_toList, hc]; rfl
theorem RunAt.got {K : PySem.W.Frag} {mg : Str → Option Value} {A : Type} {e e1 : En} {σ : St} {H F : Hp} {m : M A} {x : A} {P : A → En → Hp → Hp → Prop} (h : RunAt K mg T W e F m σ H P) (q : m e = .ok x e1) : RunAt K mg T W e F m σ H fun a e' H' F' => a = x ∧ e' = e1 ∧ P a e' H' F' := by
  unfold RunAt at h ⊢
  rw [q] at h ⊢
  exact fun H' F' er mv => ⟨rfl, rfl, h H' F' er mv⟩
theorem PIor {tg iter : Expr} {t t' : TI} (h : PI X tg iter t) (h' : PI X tg iter t') : PI X tg iter (fun σ H R => t σ H R ∨ t' σ H R) := ⟨fun pins s σ H R I q => q.elim (h.run pins s σ H R I) (h'.run pins s σ H R I)⟩
theorem ji_v {tg : Expr} (ha : JV X T W a ma) : JI X T W tg a (mItems ma) := by
  refine PIimp (PIor (pi_list ha) (PIor (pi_tup ha) (pi_str ha))) fun σ H R ⟨e, F, er, h⟩ => ?_
  cases q : ma e with
  | ok d e1 =>
    cases d with
    | lst ds =>
      refine .inl ⟨e, F, er, (h.bind.got q).mono fun d e1 H1 F1 er1 mv1 h1 v hv => ?_⟩
      obtain ⟨rfl, rfl, h1⟩ := h1
      rw [rp_lst] at hv
      obtain ⟨a, xs, rfl, hv, l⟩ := hv
      exact ⟨a, rfl, ⟨xs, SqL.of (er1.sub _ _ hv)⟩, h1 H1 F1 er1 Mv.refl _ (walks_list hv l)⟩
    | tup ds =>
      refine .inr (.inl ⟨e, F, er, (h.bind.got q).mono fun d e1 H1 F1 er1 mv1 h1 v hv => ?_⟩)
      obtain ⟨rfl, rfl, h1⟩ := h1
      rw [rp_tup] at hv
      obtain ⟨a, xs, rfl, hv, l⟩ := hv
      exact ⟨a, rfl, ⟨xs, seqT_mono er1.sub hv⟩, h1 H1 F1 er1 Mv.refl _ (walks_tup (SqT.of hv) l)⟩
    | ct ds =>
      refine .inr (.inl ⟨e, F, er, (h.bind.got q).mono fun d e1 H1 F1 er1 mv1 h1 v hv => ?_⟩)
      obtain ⟨rfl, rfl, h1⟩ := h1
      rw [rp_ct] at hv
      obtain ⟨a, xs, rfl, hv, l⟩ := hv
      exact ⟨a, rfl, ⟨xs, seqC_mono er1.sub hv⟩, h1 H1 F1 er1 Mv.refl _ (walks_tup hv l)⟩
    | str z =>
      refine .inr (.inr ⟨e, F, er, (h.bind.got q).mono fun d e1 H1 F1 er1 mv1 h1 v hv => ?_⟩)
      obtain ⟨rfl, rfl, h1⟩ := h1
      rw [rp_str] at hv
      exact ⟨z, hv, h1 H1 F1 er1 Mv.refl _ walks_str⟩
    | _ => unfold RunAt mItems bnd at h; rw [q] at h; exact h.elim
  | exc x e1 =>
    refine .inl ⟨e, F, er, ?_⟩
    unfold RunAt mItems bnd at h; unfold RunAt; rw [q] at h ⊢; exact h
  | bad => unfold RunAt mItems bnd at h; rw [q] at h; exact h.elim
def rngL (lo hi : Int) : List D := (List.range (hi - lo).toNat).map fun (i : Nat) => D.int (lo + i)
def okR (i : Int) : Bool := decide (-(2 ^ 62) ≤ i) && decide (i < 2 ^ 62)
def gRng : List D → Option (List D)
  | [.int n] => if okR n = true then some (rngL 0 n) else none
  | _ => none
def gRng2 : List D → Option (List D)
  | [.int a, .int b] => if (okR a && okR b) = true then some (rngL a b) else none
  | _ => none
def mRng (ms : M (List D)) : M (List D) := bnd ms fun ds => opt (gRng ds)
def mRng2 (ms : M (List D)) : M (List D) := bnd ms fun ds => opt (gRng2 ds)
theorem walks_range {K : PySem.W.Frag} {mg : Str → Option Value} {F : Hp} {lo hi : Int} : Walks K mg (Itr lo (hi - lo).toNat) (rngL lo hi) F := by
  refine ⟨_, _, by unfold rngL; rw [List.length_map, List.length_range]; exact walk_range, fun H s => trivial, fun i H1 F1 x H2 hi s1 s2 y => ?_⟩
  obtain ⟨rfl, rfl⟩ := y
  refine ⟨F1, .int (lo + i), Al.refl, ?_, by rw [rp_int]⟩
  unfold rngL at hi ⊢
  rw [List.length_map, List.length_range] at hi
  rw [List.getElem?_map, List.getElem?_range hi]; rfl
theorem ji_range1 {tg : Expr} {p : Pos} {ms : M (List D)} (hg : Gl X "range") (hm : X.mg "range" = none) (ha : JA X T W [a] ms) (hs : starEach [a] X.env = [(false, eval a X.env)] := by rfl) : JI X T W tg (.Call (.Name "range" p) [a] [] pos) (mRng ms) := by
  refine PIimp (pi_range1 hg hm ha hs) fun σ H R ⟨e, F, er, h⟩ => ⟨e, F, er, h.bind.mono fun ds e1 H1 F1 er1 mv1 h1 vs hvs => ?_⟩
  obtain ⟨z, hz, fin⟩ := h1.fin er1
  unfold gRng at hz
  split at hz
  · rename_i n
    split at hz
    · rename_i ho
      cases hz
      obtain ⟨v, rfl, r⟩ := rl_one hvs
      rw [rp_int] at r; subst r
      unfold okR at ho
      rw [Bool.and_eq_true, decide_eq_true_eq, decide_eq_true_eq] at ho
      refine ⟨n, rfl, ho.1, ho.2, fin H1 F1 Al.refl _ ?_⟩
      have := walks_range (K := X.K) (mg := X.mg) (F := F1) (lo := 0) (hi := n)
      rw [Int.sub_zero] at this
      exact this
    · cases hz
  · cases hz
theorem ji_range2 {tg : Expr} {p : Pos} {ms : M (List D)} (hg : Gl X "range") (hm : X.mg "range" = none) (ha : JA X T W [a, b] ms) (hs : starEach [a, b] X.env = [(false, eval a X.env), (false, eval b X.env)] := by rfl) (hs2 : starEach [b] X.env = [(false, eval b X.env)] := by rfl) : JI X T W tg (.Call (.Name "range" p) [a, b] [] pos) (mRng2 ms) := by
  refine PIimp (pi_range2 hg hm ha hs hs2) fun σ H R ⟨e, F, er, h⟩ => ⟨e, F, er, h.bind.mono fun ds e1 H1 F1 er1 mv1 h1 vs hvs => ?_⟩
  obtain ⟨z, hz, fin⟩ := h1.fin er1
  unfold gRng2 at hz
  split at hz
  · rename_i i j
    split at hz
    · rename_i ho
      cases hz
      obtain ⟨v, w, rfl, r, r'⟩ := rl_two hvs
      rw [rp_int] at r r'; subst r r'
      unfold okR at ho
      simp only [Bool.and_eq_true, decide_eq_true_eq] at ho
      exact ⟨i, j, rfl, ⟨ho.1.1, ho.1.2, ho.2.1, ho.2.2⟩, fin H1 F1 Al.refl _ walks_range⟩
    · cases hz
  · cases hz
theorem ER.put {K : PySem.W.Frag} {mg : Str → Option Value} {e : En} {σ : St} {H F : Hp} {i : Nat} {d d' : D} {p : Addr} {o : HO} (er : ER K mg T e σ H F) (h : e[i]? = some (.own d)) (hp : σ[i]? = some (some (.ref p))) (ow : OwnAt K mg (upd H p o) F p d') :
    ER K mg T (e.set i (.own d')) σ (upd H p o) F ∧ Mv e σ H F (e.set i (.own d')) σ (upd H p o) F := by
  have hi : i < e.length := (List.getElem?_eq_some_iff.mp h).1
  obtain ⟨p', h1, h2, h3⟩ := er.own i d h
  rw [hp] at h1; cases h1
  obtain ⟨o0, ho0⟩ := h3.there
  have own : ∀ (j : Nat) (x : D), (e.set i (Sl.own d'))[j]? = some (.own x) → (j ≠ i ∧ e[j]? = some (.own x)) ∨ (j = i ∧ x = d') := fun j x q => by
    by_cases hj : j = i
    · subst hj
      rw [List.getElem?_set_self hi] at q; cases q; exact .inr ⟨rfl, rfl⟩
    · rw [List.getElem?_set_ne (Ne.symm hj)] at q; exact .inl ⟨hj, q⟩
  have iff : ∀ a, Ow (e.set i (Sl.own d')) σ a → Ow e σ a := fun a ⟨j, x, q1, q2⟩ => by
    rcases own j x q1 with ⟨_, w⟩ | ⟨rfl, _⟩
    · exact ⟨j, x, w, q2⟩
    · exact ⟨j, d, h, q2⟩
  refine ⟨⟨fun b u q => ?_, fun j x q => ?_, fun j x q => ?_, fun j k q x y q1 q2 q3 q4 => ?_, by rw [List.length_set]; exact er.len, er.pin, er.tb.write h3 (ow.nt upd_same)⟩, Same.refl _, fun a u q n => ⟨fun _ => ?_, fun z => n (iff a z)⟩, fun a u q => .inl q, fun a q => ?_⟩
  · rw [upd_ne (ne_of_none q h2)]; exact er.sub b u q
  · have hj : j ≠ i := by rintro rfl; rw [List.getElem?_set_self hi] at q; cases q
    rw [List.getElem?_set_ne (Ne.symm hj)] at q
    exact er.val j x q
  · rcases own j x q with ⟨hj, w⟩ | ⟨rfl, rfl⟩
    · obtain ⟨p', g1, g2, g3⟩ := er.own j x w
      refine ⟨p', g1, g2, g3.keep (Same.refl _) fun o' ho' => ?_⟩
      rw [upd_ne]; exact ho'
      rintro rfl
      exact hj (er.inj j i p' x d w h g1 hp)
    · exact ⟨p, hp, h2, ow⟩
  · rcases own j x q1 with ⟨hj, w1⟩ | ⟨hj, _⟩ <;> rcases own k y q2 with ⟨hk, w2⟩ | ⟨hk, _⟩
    · exact er.inj j k q x y w1 w2 q3 q4
    · rw [hk] at q4 ⊢; exact er.inj j i q x d w1 h q3 q4
    · rw [hj] at q3 ⊢; exact er.inj i k q d y h w2 q3 q4
    · rw [hj, hk]
  · rw [upd_ne]; exact q
    rintro rfl
    exact n ⟨i, d, h, hp⟩
  · by_cases hb : a = p
    · subst hb; rw [upd_same] at q; cases q
    · rw [upd_ne hb] at q; exact q
def chkL (i : Nat) : M Unit := fun e => match e[i]? with
  | some (.own (.lst _)) => .ok () e
  | _ => .bad
def putL (i : Nat) (f : List D → Option (List D)) : M Fl := fun e => match e[i]? with
  | some (.own (.lst ds)) => match f ds with
    | some ds' => .ok .nx (e.set i (.own (.lst ds')))
    | none => .bad
  | _ => .bad
theorem chk_fin {K : PySem.W.Frag} {mg : Str → Option Value} {e : En} {σ : St} {H F : Hp} {i : Nat} {Dn : Ends} {k : M Fl} (h : RunS K mg T W e F (bnd (chkL i) fun _ => k) σ H Dn) (er : ER K mg T e σ H F) : ∃ p xs, σ[i]? = some (some (.ref p)) ∧ H p = some (.lst xs) ∧ RunS K mg T W e F k σ H Dn := by
  cases q : e[i]? with
  | none => unfold RunS bnd chkL at h; rw [q] at h; exact h.elim
  | some sl =>
    cases sl with
    | no => unfold RunS bnd chkL at h; rw [q] at h; exact h.elim
    | val d => unfold RunS bnd chkL at h; rw [q] at h; exact h.elim
    | own d =>
      cases d with
      | lst ds =>
        obtain ⟨p, h1, h2, xs, h3, h4⟩ := er.own i _ q
        exact ⟨p, xs, h1, h3, h.after (by unfold bnd chkL; rw [q]) Mv.refl⟩
      | _ => unfold RunS bnd chkL at h; rw [q] at h; exact h.elim
theorem put_fin {K : PySem.W.Frag} {mg : Str → Option Value} {e : En} {σ : St} {H F : Hp} {i : Nat} {Dn : Ends} {f : List D → Option (List D)} (h : RunS K mg T W e F (putL i f) σ H Dn) (er : ER K mg T e σ H F) : ∃ p ds ds' xs, σ[i]? = some (some (.ref p)) ∧ H p = some (.lst xs) ∧ RpL K mg F ds xs ∧ f ds = some ds' ∧
    ∀ xs', RpL K mg F ds' xs' → Dn.nx σ (upd H p (.lst xs')) := by
  cases q : e[i]? with
  | none => unfold RunS putL at h; rw [q] at h; exact h.elim
  | some sl =>
    cases sl with
    | no => unfold RunS putL at h; rw [q] at h; exact h.elim
    | val d => unfold RunS putL at h; rw [q] at h; exact h.elim
    | own d =>
      cases d with
      | lst ds =>
        obtain ⟨p, h1, h2, xs, h3, h4⟩ := er.own i _ q
        cases qf : f ds with
        | none => unfold RunS putL at h; simp only [q, qf] at h
        | some ds' =>
          refine ⟨p, ds, ds', xs, h1, h3, h4, qf, fun xs' l => ?_⟩
          obtain ⟨er2, mv2⟩ := er.put (o := .lst xs') (d' := .lst ds') q h1 ⟨xs', upd_same, l⟩
          unfold RunS putL at h
          simp only [q, qf] at h
          exact h σ _ F er2 mv2
      | _ => unfold RunS putL at h; rw [q] at h; exact h.elim
def sApp (i : Nat) (m : M D) : M Fl := bnd (chkL i) fun _ => bnd m fun d => putL i fun ds => if ds.length < sizeLine then some (ds ++ [d]) else none
theorem js_append {i : Nat} {x : Str} {pn apos cpos : Pos} (hN : X.N[i]? = some x) (hv : Vis X.env.scope x) (ha : JV X T W a ma)
    (hd : (x == ("__debug__" : Str)) = false := by decide) (hcd : (x == ("__classdict__" : Str)) = false := by decide)
    (hst : swapsWith (.Call (.Attribute (.Name x pn) "append" apos) [a] [] cpos) none pos.line X.env = pure false := by rfl)
    (hbase : attributeBase (.Name x pn) "append" X.env (eval (.Name x pn) X.env) = eval (.Name x pn) X.env := by rfl)
    (hfew : ((backTo cpos (starEach [a] X.env)).all (fun x => !x.1) && (backToKw cpos (keywordEach [] X.env)).all (fun x => x.1.isSome)
      && decide ([a].length + ([] : List Keyword).length + (if ([] : List Keyword).isEmpty then 0 else 1) < 30)) = true := by rfl)
    (hline : (apos.endLine == cpos.line) = true := by rfl) (hs : starEach [a] X.env = (false, eval a X.env) :: starEach [] X.env := by rfl) :
    JS X T W (.Expr (.Call (.Attribute (.Name x pn) "append" apos) [a] [] cpos) pos) (sApp i ma) := by
  refine PSimp (ps_expr (pe_bm PySem.F.plainAttrs_list PySem.F.slot_list_append PySem.F.type_list_append mt_append (pe_var hN hv hd hcd) (pa_cons ha pa_nil hs) hbase hfew hline hs rfl) hst) fun Dn σ H ⟨e, F, er, h⟩ => ?_
  obtain ⟨p, xs, h1, h2, h⟩ := chk_fin h er
  refine ⟨_, h1, .inl ⟨rfl, xs, SqL.of h2⟩, e, F, er, h.bind.mono fun d e1 H1 F1 er1 mv1 h3 v hv => ?_⟩
  obtain ⟨p', ds, ds', ys, g1, g2, g3, g4, g5⟩ := put_fin h3 er1
  rw [h1] at g1; cases g1
  split at g4
  · rename_i hz
    cases g4
    exact ⟨p, ys, v, rfl, rfl, g2, by rw [← g3.len]; exact hz, g5 _ (g3.append (by rw [rl_cons]; exact ⟨v, [], rfl, hv, by rw [rl_nil]⟩))⟩
  · cases g4
def sPutI (i : Nat) (mi m : M D) : M Fl := bnd m fun d => bnd (chkL i) fun _ => bnd mi fun k => putL i fun ds => match k with
  | .int j => (ixN ds.length j).map fun n => ds.set n d
  | _ => none
theorem js_putI {i : Nat} {x : Str} {pn ps : Pos} {mi : M D} (hN : X.N[i]? = some x) (hv : Vis X.env.scope x) (ha : JV X T W a ma) (hi : JV X T W b mi)
    (hd : (x == ("__debug__" : Str)) = false := by decide) (hcd : (x == ("__classdict__" : Str)) = false := by decide)
    (hs : swapsWithSole [.Subscript (.Name x pn) b ps] a pos.line X.env = pure false := by rfl) (hw : swappedStores [.Subscript (.Name x pn) b ps] a X.env = pure none := by rfl)
    (h1 : (assignEach [.Subscript (.Name x pn) b ps] X.env).map (·.2) = [assign (.Subscript (.Name x pn) b ps) X.env] := by rfl)
    (hb : ∀ v, assign (.Subscript (.Name x pn) b ps) X.env v = (do
      let ov ← holding [v] (eval (.Name x pn) X.env)
      let iv ← holding [v, ov] (eval b X.env)
      standAt ps
      holding [v, ov, iv] (setItem ov iv v)
      release [v, ov, iv] []) := by intro _; rfl) :
    JS X T W (.Assign [.Subscript (.Name x pn) b ps] a pos) (sPutI i mi ma) := by
  refine PSimp (ps_asg ha (pg_sub (pe_var hN hv hd hcd) hi set_list hb) hs hw h1) fun Dn σ H ⟨e, F, er, h⟩ => ⟨e, F, er, h.bind.mono fun d e1 H1 F1 er1 mv1 h3 v hv => ?_⟩
  obtain ⟨p, xs, g1, g2, h4⟩ := chk_fin h3 er1
  refine ⟨_, g1, e1, F1, er1, h4.bind.mono fun k e2 H2 F2 er2 mv2 h5 w hw => ?_⟩
  obtain ⟨p', ds, ds', ys, g3, g4, g5, g6, g7⟩ := put_fin h5 er2
  rw [g1] at g3; cases g3
  split at g6
  · rename_i j
    rw [Option.map_eq_some_iff] at g6
    obtain ⟨n, g6, rfl⟩ := g6
    rw [rp_int] at hw
    exact ⟨p, ys, j, n, rfl, hw, g4, by rw [← g5.len]; exact g6, g7 _ (RpL.set (Rp.mono mv2.sub _ _ hv) n g5)⟩
  · cases g6
end
end Sr
namespace Sr
variable [TabL]
open PySem hiding start
open PySem.Spec L2
open PyProof.Rows hiding St
section
variable (K : PySem.W.Frag) (mg : Str → Option Value)
def spF1 (ro : Bool) (n : Nat) (f : Fnc) : Sp := fun vs H Q E => ∃ (p : Addr) (o : D) (ws : List V) (ds : List D) (F : Hp), vs = .ref p :: ws ∧ Same F H ∧ TbOk H F ∧ F p = none ∧ OwnAt K mg H F p o ∧ RpL K mg F ds ws ∧ ds.length + 1 = n ∧
  match f o ds with
  | .ok d o' => ∀ H' F', Fr (some p) H F H' F' → F' p = none → OwnAt K mg H' F' p o' → Res K mg ro (some p) d H Q H' F'
  | .exc x o' => ∀ H' F' cl dd, Fr (some p) H F H' F' → F' p = none → OwnAt K mg H' F' p o' → XR K mg x cl dd H' F' → E cl dd H'
  | .bad => False
end
def st0 (nl : Nat) (ds : List D) : En := ds.map Sl.val ++ List.replicate (nl - ds.length) Sl.no
def st1 (nl : Nat) (o : D) (ds : List D) : En := Sl.own o :: st0 (nl - 1) ds
def fin0 (ro : Bool) : Out Fl → Rs
  | .ok .nx _ => if ro = true then .bad else .ok .non .non
  | .ok (.rt d) _ => if ro = true then .bad else .ok d .non
  | .ok (.ro d) _ => .ok d .non
  | .ok _ _ => .bad
  | .exc x _ => .exc x .non
  | .bad => .bad
def fin1 (ro : Bool) : Out Fl → Rs
  | .ok fl e => match (e[0]? : Option Sl) with
    | some (Sl.own o) => match fl with
      | .nx => if ro = true then .bad else .ok .non o
      | .rt d => if ro = true then .bad else .ok d o
      | .ro d => .ok d o
      | _ => .bad
    | _ => .bad
  | .exc x e => match (e[0]? : Option Sl) with
    | some (Sl.own o) => .exc x o
    | _ => .bad
  | .bad => .bad
def mkF0 (nl : Nat) (ro : Bool) (s : M Fl) : Fnc := fun _ ds => fin0 ro (s (st0 nl ds))
def mkF1 (nl : Nat) (ro : Bool) (s : M Fl) : Fnc := fun o ds => fin1 ro (s (st1 nl o ds))
section
variable {K : PySem.W.Frag} {mg : Str → Option Value}
theorem st0_get {nl : Nat} {ds : List D} {i : Nat} {sl : Sl} (h : (st0 nl ds)[i]? = some sl) : (∃ d, ds[i]? = some d ∧ sl = .val d) ∨ sl = .no := by
  unfold st0 at h
  rw [List.getElem?_append] at h
  split at h
  · rw [List.getElem?_map] at h
    cases q : ds[i]? with
    | none => rw [q] at h; cases h
    | some d => rw [q] at h; cases h; exact .inl ⟨d, rfl, rfl⟩
  · rw [List.getElem?_replicate] at h
    split at h
    · cases h; exact .inr rfl
    · cases h
theorem ER.start0 {N : List Str} {vs : List V} {ds : List D} {H F : Hp} (s : Same F H) (tb : TbOk H F) (l : RpL K mg F ds vs) (hl : vs.length ≤ N.length) : ER K mg [] (st0 N.length ds) (start N vs) H F := by
  refine ⟨s, fun i d h => ?_, fun i d h => ?_, fun i j p d d' h => ?_, ?_, (fun p h => nomatch h), tb⟩
  · rcases st0_get h with ⟨d', h1, h2⟩ | h2
    · cases h2
      obtain ⟨v, h3, h4⟩ := l.get h1
      refine ⟨v, ?_, h4⟩
      unfold start
      rw [List.getElem?_append_left (by rw [List.length_map]; exact (List.getElem?_eq_some_iff.mp h3).1), List.getElem?_map, h3]; rfl
    · cases h2
  · rcases st0_get h with ⟨d', h1, h2⟩ | h2 <;> cases h2
  · rcases st0_get h with ⟨d', h1, h2⟩ | h2 <;> cases h2
  · unfold st0 start
    simp only [List.length_append, List.length_map, List.length_replicate, l.len]
theorem ER.start1 {N : List Str} {ws : List V} {ds : List D} {H F : Hp} {p : Addr} {o : D} (s : Same F H) (tb : TbOk H F) (fp : F p = none) (ow : OwnAt K mg H F p o) (l : RpL K mg F ds ws) (hl : ws.length + 1 ≤ N.length) : ER K mg [(0, p)] (st1 N.length o ds) (start N (.ref p :: ws)) H F := by
  have own : ∀ (i : Nat) (d : D), (st1 N.length o ds)[i]? = some (.own d) → i = 0 ∧ d = o := fun i d h => by
    unfold st1 at h
    cases i with
    | zero => simp at h; exact ⟨rfl, h.symm⟩
    | succ i =>
      rw [List.getElem?_cons_succ] at h
      rcases st0_get h with ⟨d', h1, h2⟩ | h2 <;> cases h2
  refine ⟨s, fun i d h => ?_, fun i d h => ?_, fun i j q d d' h h' => fun _ _ => by rw [(own i d h).1, (own j d' h').1], ?_, fun q h => ?_, tb⟩
  · unfold st1 at h
    cases i with
    | zero => simp at h
    | succ i =>
      rw [List.getElem?_cons_succ] at h
      rcases st0_get h with ⟨d', h1, h2⟩ | h2
      · cases h2
        obtain ⟨v, h3, h4⟩ := l.get h1
        refine ⟨v, ?_, h4⟩
        unfold start
        rw [List.map_cons, List.cons_append, List.getElem?_cons_succ, List.getElem?_append_left (by rw [List.length_map]; exact (List.getElem?_eq_some_iff.mp h3).1), List.getElem?_map, h3]; rfl
      · cases h2
  · obtain ⟨rfl, rfl⟩ := own i d h
    exact ⟨p, rfl, fp, ow⟩
  · unfold st1 st0 start
    simp only [List.length_append, List.length_map, List.length_replicate, List.length_cons, l.len]
    omega
  · rw [List.mem_singleton] at h; subst h; rfl
theorem no_ow0 {nl : Nat} {ds : List D} {σ : St} {a : Addr} : ¬ Ow (st0 nl ds) σ a := by
  rintro ⟨i, d, h, _⟩
  rcases st0_get h with ⟨d', h1, h2⟩ | h2 <;> cases h2
theorem ow1 {N : List Str} {ds : List D} {o : D} {ws : List V} {p a : Addr} (h : Ow (st1 N.length o ds) (start N (.ref p :: ws)) a) : a = p := by
  obtain ⟨i, d, h, h'⟩ := h
  unfold st1 at h
  cases i with
  | zero =>
    have e : (start N (.ref p :: ws))[0]? = some (some (.ref p)) := rfl
    rw [e] at h'; cases h'; rfl
  | succ i =>
    rw [List.getElem?_cons_succ] at h
    rcases st0_get h with ⟨d', h1, h2⟩ | h2 <;> cases h2
theorem Mv.fr0 {nl : Nat} {ds : List D} {e' : En} {σ σ' : St} {H F H' F' : Hp} (er : ER K mg [] e' σ' H' F') (mv : Mv (st0 nl ds) σ H F e' σ' H' F') : Fr none H F H' F' :=
  ⟨mv.sub, er.sub, fun a o h z _ => (mv.keep a o h no_ow0).1 z, fun a o h => by
    rcases mv.new a o h with h | h | h
    · exact .inl h
    · exact .inr h
    · exact (no_ow0 h).elim, mv.there, er.tb⟩
theorem Mv.fr1 {N : List Str} {ds : List D} {o o' : D} {ws : List V} {p : Addr} {e' : En} {σ' : St} {H F H' F' : Hp} (er : ER K mg [(0, p)] e' σ' H' F') (h0 : e'[0]? = some (.own o')) (mv : Mv (st1 N.length o ds) (start N (.ref p :: ws)) H F e' σ' H' F') : Fr (some p) H F H' F' ∧ F' p = none ∧ OwnAt K mg H' F' p o' := by
  obtain ⟨p', h1, h2, h3⟩ := er.own 0 o' h0
  rw [er.pin (0, p) List.mem_cons_self] at h1; cases h1
  refine ⟨⟨mv.sub, er.sub, fun a u h zz n => (mv.keep a u h fun z => n (by rw [ow1 z])).1 zz, fun a u h => ?_, mv.there, er.tb⟩, h2, h3⟩
  rcases mv.new a u h with g | g | g
  · exact .inl g
  · exact .inr g
  · rw [ow1 g, h2] at h; cases h
end
section
variable {P : Program} {w : World} {K : PySem.W.Frag} {mg : Str → Option Value} {base : Heap} {x qual : Str} {params : Arguments} {body : List Stmt} {scope : Scope} {dvs : List V} {kws : List (Str × V)} {f : Addr} {fd : FuncData}
abbrev WE0 (E : XK) : WX := fun cls d _ H => E cls d H
theorem res_v {ro : Bool} {p : Option Addr} {d : D} {H H' F' : Hp} {Q : VK} {v : V} (hr : ro = false) (h : Res K mg ro p d H Q H' F') (r : Rp K mg F' d v) : Q v H' := by
  subst hr; exact h v r
theorem res_o {d : D} {H F H' F' : Hp} {Q : VK} {q : Addr} {p : Option Addr} {ro : Bool} {C : Hp → Hp → Prop} (h : ∀ H' F', Fr p H F H' F' → C H' F' → Res K mg ro p d H Q H' F') (hC : ∀ F'', Same F' F'' → (∀ o, F'' = upd F' q o → C H' F'')) (c0 : C H' F') (fr : Fr p H F H' F') (hq : H q = none) (fq : F' q = none) (ow : OwnAt K mg H' F' q d) : Q (.ref q) H' := by
  cases ro with
  | true => exact h H' F' fr c0 q hq fq ow
  | false =>
    obtain ⟨o, ho⟩ := ow.there
    have s : Same F' (upd F' q o) := same_upd fq
    refine h H' (upd F' q o) ⟨fr.sub.trans s, fun b u e => ?_, fr.keep, fun b u e => ?_, fr.there, fr.tb.updF (ow.nt ho)⟩ (hC _ s o rfl) _ (ow.rp fq ho)
    · by_cases hb : b = q
      · subst hb; rw [upd_same] at e; cases e; exact ho
      · rw [upd_ne hb] at e; exact fr.fin b u e
    · by_cases hb : b = q
      · subst hb; exact .inr hq
      · rw [upd_ne hb] at e; exact fr.new b u e
theorem fnG_of {N ps : List Str} {k : Nat} {sp : Sp} (G : FunD K x qual params body scope dvs kws f fd) (S : FnScope N ps scope) (len : ∀ vs H Q E, sp vs H Q E → vs.length = ps.length)
    (hbody : ∀ (cdv : Value) (_ : fd.code = cdv) (A : Around) (outer : List Env) (s : Shared) (H : Hp) (vs : List V) (Q : VK) (E : XK), Room k (A.deeper (envOfC qual scope s.heap.objs.size f cdv)) → A.guards = some [] → sp vs H Q E →
      ∃ t, PSs (cxOf (L2N.CX P w) P w K mg base N qual scope f cdv A outer s H E) body t ∧ t { nx := fun _ H' => Q .non H', rt := Q } (start N vs) H) :
    FnG P w K mg base (k + 1) f fd ps sp := by
  obtain ⟨oc, od, dV, kV, doc, pm, an, cdv, ct, osl, rfl, lk, hcd, _, _⟩ := G.ex
  refine ⟨len, fun A outer s H args us vs Q E hr hgu e0 hb r hsp => ?_⟩
  have KX : K.In s.heap := e0.mod.kin.keeps fun b o q => (e0.bs b o q).1
  have lim : s.heap.NoLimit := e0.mod.nolimit.keeps fun b o q => (e0.bs b o q).1
  refine codeAny_call_function hr.depth (KX _ _ lk) rfl S.co S.gen rfl (PySem.W.codeRec_of KX hcd) (hb _ _ _ _ ?_)
  refine wpAny_newFunctionEnv_cells S.kind (fun ⟨n, v⟩ hy => ?_) fun env he s1 y => ?_
  · rcases S.par n (List.of_mem_zip hy).1 with q | q
    · exact .inl q
    · exact .inr ⟨q, PySem.W.cellsFrom_some _ _ _ (.inl q)⟩
  · subst he
    refine ⟨lim.keeps y.toInCall.keep, codeAny_func ?_⟩
    obtain ⟨t, ht, hq⟩ := hbody cdv rfl A outer s H vs Q E (hr.deeper _) hgu hsp
    have I := inv_start (CX := L2N.CX P w) (mg := mg) (E := E) S hr.hd e0 (len _ _ _ _ hsp) r y
    refine wpAny_mono (ht.run [] s1 (start N vs) H _ I hq) (fun fl s' hs => ?_) fun _ _ hs => hs
    match fl, hs with
    | .ret u, ⟨v, σ', H', J, rv, q⟩ => exact ⟨v, H', J.os, J.bare, J.base, J.hok, rv, q⟩
    | .next, ⟨σ', H', J, q⟩ => exact ⟨.non, H', J.os, J.bare, J.base, J.hok, rfl, q⟩
    | .brk, ⟨_, _, _, q⟩ => exact q.elim
    | .cont, ⟨_, _, _, q⟩ => exact q.elim
theorem fn0g {N ps : List Str} {k nl np : Nat} {ro : Bool} {s : M Fl} (hnl : N.length = nl) (hnp : ps.length = np) (G : FunD K x qual params body scope dvs kws f fd) (S : FnScope N ps scope)
    (hb : ∀ (cdv : Value) (_ : fd.code = cdv) (A : Around) (outer : List Env) (s0 : Shared) (H : Hp) (E : XK), Room k (A.deeper (envOfC qual scope s0.heap.objs.size f cdv)) → A.guards = some [] → JSs (cxOf (L2N.CX P w) P w K mg base N qual scope f cdv A outer s0 H E) [] (WE0 E) body s) :
    FnG P w K mg base (k + 1) f fd ps (spF0 K mg ro np (mkF0 nl ro s)) := by
  subst hnl hnp
  refine fnG_of G S (fun vs H Q E h => ?_) (fun cdv ec A outer s0 H vs Q E hr hgu h => ?_)
  · obtain ⟨ds, F, _, _, l, hl, _⟩ := h
    rw [← l.len]; exact hl
  · obtain ⟨ds, F, sub, tb, l, hl, h⟩ := h
    have hN : ps.length ≤ N.length := by have := congrArg List.length S.pre; rw [List.length_take] at this; omega
    refine ⟨_, hb cdv ec A outer s0 H E hr hgu, st0 N.length ds, F, ER.start0 sub tb l (by rw [← l.len]; omega), ?_⟩
    unfold RunS
    unfold mkF0 at h
    cases q : s (st0 N.length ds) with
    | ok fl e1 =>
      rw [q] at h
      cases fl with
      | nx =>
        cases ro with
        | true => exact h.elim
        | false => exact fun σ' H' F' er mv => res_v rfl (h H' F' (mv.fr0 er)) (by rw [rp_non])
      | rt d =>
        cases ro with
        | true => exact h.elim
        | false => exact fun σ' H' F' v er mv r => res_v rfl (h H' F' (mv.fr0 er)) r
      | ro d => exact fun σ' H' F' p er mv hp fp np ow => res_o (C := fun _ _ => True) (fun H' F' fr _ => h H' F' fr) (fun _ _ _ _ => trivial) trivial (mv.fr0 er) (hp.elim id fun z => (no_ow0 z).elim) fp ow
      | bk => exact h.elim
      | ct => exact h.elim
    | exc x e1 =>
      rw [q] at h
      intro σ' H' F' cl dd er mv xr
      exact h H' F' cl dd (mv.fr0 er) xr
    | bad => rw [q] at h; exact h.elim
theorem fn1g {N ps : List Str} {k nl np : Nat} {ro : Bool} {s : M Fl} (hnl : N.length = nl) (hnp : ps.length = np) (G : FunD K x qual params body scope dvs kws f fd) (S : FnScope N ps scope)
    (hb : ∀ (cdv : Value) (_ : fd.code = cdv) (A : Around) (outer : List Env) (s0 : Shared) (H : Hp) (E : XK) (p : Addr), Room k (A.deeper (envOfC qual scope s0.heap.objs.size f cdv)) → A.guards = some [] → JSs (cxOf (L2N.CX P w) P w K mg base N qual scope f cdv A outer s0 H E) [(0, p)] (WE0 E) body s) :
    FnG P w K mg base (k + 1) f fd ps (spF1 K mg ro np (mkF1 nl ro s)) := by
  subst hnl hnp
  refine fnG_of G S (fun vs H Q E h => ?_) (fun cdv ec A outer s0 H vs Q E hr hgu h => ?_)
  · obtain ⟨p, o, ws, ds, F, rfl, _, _, _, _, l, hl, _⟩ := h
    rw [List.length_cons, ← l.len]; exact hl
  · obtain ⟨p, o, ws, ds, F, rfl, sub, tb, fp, ow, l, hl, h⟩ := h
    have hN : ps.length ≤ N.length := by have := congrArg List.length S.pre; rw [List.length_take] at this; omega
    refine ⟨_, hb cdv ec A outer s0 H E p hr hgu, st1 N.length o ds, F, ER.start1 sub tb fp ow l (by rw [← l.len]; omega), ?_⟩
    unfold RunS
    unfold mkF1 at h
    cases q : s (st1 N.length o ds) with
    | ok fl e1 =>
      rw [q] at h
      unfold fin1 at h
      dsimp only at h
      cases q0 : (e1[0]? : Option Sl) with
      | none => rw [q0] at h; exact h.elim
      | some sl =>
        rw [q0] at h
        cases sl with
        | no => exact h.elim
        | val d => exact h.elim
        | own o' =>
          dsimp only at h
          cases fl with
          | nx =>
            cases ro with
            | true => exact h.elim
            | false =>
              intro σ' H' F' er mv
              obtain ⟨f1, f2, f3⟩ := mv.fr1 er q0
              exact res_v rfl (h H' F' f1 f2 f3) (by rw [rp_non])
          | rt d =>
            cases ro with
            | true => exact h.elim
            | false =>
              intro σ' H' F' v er mv r
              obtain ⟨f1, f2, f3⟩ := mv.fr1 er q0
              exact res_v rfl (h H' F' f1 f2 f3) r
          | ro d =>
            intro σ' H' F' pp er mv hp fp' np ow'
            obtain ⟨f1, f2, f3⟩ := mv.fr1 er q0
            obtain ⟨o1, ho1⟩ := ow.there
            have hpp : p ≠ pp := by
              rintro rfl
              exact np ⟨0, o', q0, er.pin (0, p) List.mem_cons_self⟩
            have hp : H pp = none := hp.elim id fun z => absurd (ow1 z).symm hpp
            refine res_o (ro := ro) (C := fun H'' F'' => F'' p = none ∧ OwnAt K mg H'' F'' p o') (fun H2 F2 fr c => h H2 F2 fr c.1 c.2) (fun F'' sm o e => ⟨?_, f3.keep sm fun _ z => z⟩) ⟨f2, f3⟩ f1 hp fp' ow'
            rw [e, upd_ne hpp]; exact f2
          | bk => exact h.elim
          | ct => exact h.elim
    | exc x e1 =>
      rw [q] at h
      unfold fin1 at h
      dsimp only at h
      cases q0 : (e1[0]? : Option Sl) with
      | none => rw [q0] at h; exact h.elim
      | some sl =>
        rw [q0] at h
        cases sl with
        | no => exact h.elim
        | val d => exact h.elim
        | own o' =>
          intro σ' H' F' cl dd er mv xr
          obtain ⟨f1, f2, f3⟩ := mv.fr1 er q0
          exact h H' F' cl dd f1 f2 f3 xr
    | bad => rw [q] at h; exact h.elim
theorem fn0 {N ps : List Str} {k nl np : Nat} {ro : Bool} {s : M Fl} (hnl : N.length = nl) (hnp : ps.length = np) (G : FunD K x qual params body scope dvs kws f fd) (S : FnScope N ps scope)
    (hb : ∀ (cdv : Value) (A : Around) (outer : List Env) (s0 : Shared) (H : Hp) (E : XK), Room k (A.deeper (envOfC qual scope s0.heap.objs.size f cdv)) → A.guards = some [] → JSs (cxOf (L2N.CX P w) P w K mg base N qual scope f cdv A outer s0 H E) [] (WE0 E) body s) :
    FnG P w K mg base (k + 1) f fd ps (spF0 K mg ro np (mkF0 nl ro s)) := fn0g hnl hnp G S fun cdv _ => hb cdv
theorem fn1 {N ps : List Str} {k nl np : Nat} {ro : Bool} {s : M Fl} (hnl : N.length = nl) (hnp : ps.length = np) (G : FunD K x qual params body scope dvs kws f fd) (S : FnScope N ps scope)
    (hb : ∀ (cdv : Value) (A : Around) (outer : List Env) (s0 : Shared) (H : Hp) (E : XK) (p : Addr), Room k (A.deeper (envOfC qual scope s0.heap.objs.size f cdv)) → A.guards = some [] → JSs (cxOf (L2N.CX P w) P w K mg base N qual scope f cdv A outer s0 H E) [(0, p)] (WE0 E) body s) :
    FnG P w K mg base (k + 1) f fd ps (spF1 K mg ro np (mkF1 nl ro s)) := fn1g hnl hnp G S fun cdv _ => hb cdv
end
end Sr
namespace Sr
variable [TabL]
open PySem hiding start
open PySem.Spec L2
open PyProof.Rows hiding St
section
variable {K : PySem.W.Frag} {mg : Str → Option Value} {T : Pn} {W : WX} {e : En} {σ : St} {H F H' F' : Hp}
theorem ER.fr (er : ER K mg T e σ H F) (fr : Fr none H F H' F') : ER K mg T e σ H' F' ∧ Mv e σ H F e σ H' F' := by
  have s : ∀ a o, H a = some o → NTb o → H' a = some o := fun a o h zz => fr.keep a o h zz (fun z => nomatch z)
  refine ⟨⟨fr.fin, fun i d h => ?_, fun i d h => ?_, er.inj, er.len, er.pin, fr.tb⟩, fr.sub, fun a o h n => ⟨s a o h, n⟩, fun a o h => ?_, fr.there⟩
  · obtain ⟨v, h1, h2⟩ := er.val i d h
    exact ⟨v, h1, Rp.mono fr.sub _ _ h2⟩
  · obtain ⟨p, h1, h2, h3⟩ := er.own i d h
    refine ⟨p, h1, ?_, h3.keep fr.sub fun o ho => s p o ho (h3.nt ho)⟩
    obtain ⟨o, ho⟩ := h3.there
    cases q : F' p with
    | none => rfl
    | some u =>
      rcases fr.new p u q with z | z
      · rw [h2] at z; cases z
      · rw [ho] at z; cases z
  · rcases fr.new a o h with z | z
    · exact .inl z
    · exact .inr (.inl z)
theorem ER.fr1 {i : Nat} {o o' : D} {p : Addr} (er : ER K mg T e σ H F) (h0 : e[i]? = some (.own o)) (hp : σ[i]? = some (some (.ref p))) (fr : Fr (some p) H F H' F') (fp : F' p = none) (ow : OwnAt K mg H' F' p o') : ER K mg T (e.set i (.own o')) σ H' F' ∧ Mv e σ H F (e.set i (.own o')) σ H' F' := by
  have hi : i < e.length := (List.getElem?_eq_some_iff.mp h0).1
  have own : ∀ (j : Nat) (x : D), (e.set i (Sl.own o'))[j]? = some (.own x) → (j ≠ i ∧ e[j]? = some (.own x)) ∨ (j = i ∧ x = o') := fun j x q => by
    by_cases hj : j = i
    · subst hj
      rw [List.getElem?_set_self hi] at q; cases q; exact .inr ⟨rfl, rfl⟩
    · rw [List.getElem?_set_ne (Ne.symm hj)] at q; exact .inl ⟨hj, q⟩
  have iff : ∀ a, Ow (e.set i (Sl.own o')) σ a → Ow e σ a := fun a ⟨j, x, q1, q2⟩ => by
    rcases own j x q1 with ⟨_, w⟩ | ⟨rfl, _⟩
    · exact ⟨j, x, w, q2⟩
    · exact ⟨j, o, h0, q2⟩
  refine ⟨⟨fr.fin, fun j d h => ?_, fun j d h => ?_, fun j k q x y q1 q2 q3 q4 => ?_, by rw [List.length_set]; exact er.len, er.pin, fr.tb⟩, fr.sub, fun a u h n => ⟨fun zz => fr.keep a u h zz fun z => n ?_, fun z => n (iff a z)⟩, fun a u h => ?_, fr.there⟩
  · have hj : j ≠ i := by rintro rfl; rw [List.getElem?_set_self hi] at h; cases h
    rw [List.getElem?_set_ne (Ne.symm hj)] at h
    obtain ⟨v, h1, h2⟩ := er.val j d h
    exact ⟨v, h1, Rp.mono fr.sub _ _ h2⟩
  · rcases own j d h with ⟨hj, w⟩ | ⟨rfl, rfl⟩
    · obtain ⟨q, h1, h2, h3⟩ := er.own j d w
      have hqp : q ≠ p := by
        rintro rfl
        exact hj (er.inj j i q d o w h0 h1 hp)
      obtain ⟨u, hu⟩ := h3.there
      refine ⟨q, h1, ?_, h3.keep fr.sub fun v hv => fr.keep q v hv (h3.nt hv) fun z => hqp (Option.some.inj z).symm⟩
      cases c : F' q with
      | none => rfl
      | some y =>
        rcases fr.new q y c with z | z
        · rw [h2] at z; cases z
        · rw [hu] at z; cases z
    · exact ⟨p, hp, fp, ow⟩
  · rcases own j x q1 with ⟨hj, w1⟩ | ⟨hj, _⟩ <;> rcases own k y q2 with ⟨hk, w2⟩ | ⟨hk, _⟩
    · exact er.inj j k q x y w1 w2 q3 q4
    · rw [hk] at q4 ⊢; exact er.inj j i q x o w1 h0 q3 q4
    · rw [hj] at q3 ⊢; exact er.inj i k q o y h0 w2 q3 q4
    · rw [hj, hk]
  · cases z; exact ⟨i, o, h0, hp⟩
  · rcases fr.new a u h with z | z
    · exact .inl z
    · exact .inr (.inl z)
end
def ap0 (f : Fnc) (ds : List D) : M D := fun e => match f .non ds with
  | .ok d _ => .ok d e
  | .exc x _ => .exc x e
  | .bad => .bad
def ap1 (f : Fnc) (i : Nat) (ds : List D) : M D := fun e => match e[i]? with
  | some (.own o) => match f o ds with
    | .ok d o' => .ok d (e.set i (.own o'))
    | .exc x o' => .exc x (e.set i (.own o'))
    | .bad => .bad
  | _ => .bad
def mC0 (f : Fnc) (dds : List D) (ms : M (List D)) : M D := bnd ms fun ds => ap0 f (ds ++ dds)
def chkO (i : Nat) : M Unit := fun e => match e[i]? with
  | some (.own _) => .ok () e
  | _ => .bad
def mC1 (f : Fnc) (i : Nat) (dds : List D) (ms : M (List D)) : M D := bnd (chkO i) fun _ => bnd ms fun ds => ap1 f i (ds ++ dds)
section
variable {K : PySem.W.Frag} {mg : Str → Option Value} {T : Pn} {W : WX} {e : En} {σ : St} {H F : Hp} {f : Fnc} {ds : List D} {n : Nat}
theorem ap0_v {vs : List V} {Q : VK} (h : RunAt K mg T W e F (ap0 f ds) σ H fun d _ H' F' => ∀ v, Rp K mg F' d v → Q v H') (er : ER K mg T e σ H F) (l : RpL K mg F ds vs) (hn : ds.length = n) : spF0 K mg false n f vs H Q (fun cl dd H' => W cl dd σ H') := by
  refine ⟨ds, F, er.sub, er.tb, l, hn, ?_⟩
  unfold RunAt ap0 at h
  cases q : f .non ds with
  | ok d o =>
    simp only [q] at h
    intro H' F' fr
    obtain ⟨er', mv⟩ := er.fr fr
    exact h H' F' er' mv
  | exc x o =>
    simp only [q] at h
    intro H' F' cl dd fr xr
    obtain ⟨er', mv⟩ := er.fr fr
    exact h H' F' cl dd er' mv xr
  | bad => simp only [q] at h
theorem ap0_o {vs : List V} {Q : VK} {H0 : Hp} (h : RunAt K mg T W e F (ap0 f ds) σ H fun d e' H' F' => ∀ p, H0 p = none → F' p = none → ¬ Ow e' σ p → OwnAt K mg H' F' p d → Q (.ref p) H') (hH : ∀ p, H p = none → H0 p = none) (er : ER K mg T e σ H F) (l : RpL K mg F ds vs) (hn : ds.length = n) : spF0 K mg true n f vs H Q (fun cl dd H' => W cl dd σ H') := by
  refine ⟨ds, F, er.sub, er.tb, l, hn, ?_⟩
  unfold RunAt ap0 at h
  cases q : f .non ds with
  | ok d o =>
    simp only [q] at h
    intro H' F' fr p hp fp ow
    obtain ⟨er', mv⟩ := er.fr fr
    exact h H' F' er' mv p (hH p hp) fp (Ow.ne_of_free er hp) ow
  | exc x o =>
    simp only [q] at h
    intro H' F' cl dd fr xr
    obtain ⟨er', mv⟩ := er.fr fr
    exact h H' F' cl dd er' mv xr
  | bad => simp only [q] at h
theorem ap1_v {i : Nat} {p : Addr} {vs : List V} {Q : VK} (h : RunAt K mg T W e F (ap1 f i ds) σ H fun d _ H' F' => ∀ v, Rp K mg F' d v → Q v H') (er : ER K mg T e σ H F) (hp : σ[i]? = some (some (.ref p))) (l : RpL K mg F ds vs) (hn : ds.length + 1 = n) : spF1 K mg false n f (.ref p :: vs) H Q (fun cl dd H' => W cl dd σ H') := by
  unfold RunAt ap1 at h
  cases q0 : e[i]? with
  | none => simp only [q0] at h
  | some sl =>
    cases sl with
    | no => simp only [q0] at h
    | val d => simp only [q0] at h
    | own o =>
      simp only [q0] at h
      obtain ⟨p', h1, h2, h3⟩ := er.own i o q0
      rw [hp] at h1; cases h1
      refine ⟨p, o, vs, ds, F, rfl, er.sub, er.tb, h2, h3, l, hn, ?_⟩
      cases q : f o ds with
      | ok d o' =>
        simp only [q] at h
        intro H' F' fr fp ow
        obtain ⟨er', mv⟩ := er.fr1 q0 hp fr fp ow
        exact h H' F' er' mv
      | exc x o' =>
        simp only [q] at h
        intro H' F' cl dd fr fp ow xr
        obtain ⟨er', mv⟩ := er.fr1 q0 hp fr fp ow
        exact h H' F' cl dd er' mv xr
      | bad => simp only [q] at h
theorem chkO_fin {A : Type} {i : Nat} {k : M A} {P : A → En → Hp → Hp → Prop} (h : RunAt K mg T W e F (bnd (chkO i) fun _ => k) σ H P) (er : ER K mg T e σ H F) : ∃ p, σ[i]? = some (some (.ref p)) ∧ RunAt K mg T W e F k σ H P := by
  unfold RunAt bnd chkO at h
  cases q : e[i]? with
  | none => simp only [q] at h
  | some sl =>
    cases sl with
    | no => simp only [q] at h
    | val d => simp only [q] at h
    | own d =>
      simp only [q] at h
      obtain ⟨p, h1, h2, h3⟩ := er.own i d q
      exact ⟨p, h1, h⟩
end
theorem len_nil {e e' : En} {ds : List D} (h : mNil e = .ok ds e') : ds.length = 0 := by cases h; rfl
theorem len_cons {n : Nat} {m : M D} {ms : M (List D)} (hh : ∀ (ds : List D) (e e' : En), ms e = .ok ds e' → ds.length = n) (ds : List D) (e e' : En) (h : mCons m ms e = .ok ds e') : ds.length = n + 1 := by
  unfold mCons bnd at h
  cases q : m e with
  | ok d e1 =>
    simp only [q] at h
    cases q2 : ms e1 with
    | ok d2 e2 => simp only [q2, ret] at h; cases h; rw [List.length_cons, hh _ _ _ q2]
    | exc x e2 => simp only [q2] at h; cases h
    | bad => simp only [q2] at h; cases h
  | exc x e1 => simp only [q] at h; cases h
  | bad => simp only [q] at h; cases h
structure JL (X : Cx) (T : Pn) (W : WX) (es : List Expr) (ms : M (List D)) : Prop where
  ja : JA X T W es ms
  ln : ∀ (ds : List D) (e e' : En), ms e = .ok ds e' → ds.length = es.length
theorem jl_nil {X : Cx} {T : Pn} {W : WX} : JL X T W [] mNil := ⟨ja_nil, fun _ _ _ h => len_nil h⟩
theorem jl_cons {X : Cx} {T : Pn} {W : WX} {e : Expr} {es : List Expr} {m : M D} {ms : M (List D)} (ha : JV X T W e m) (hr : JL X T W es ms) (hs : starEach (e :: es) X.env = (false, eval e X.env) :: starEach es X.env := by rfl) : JL X T W (e :: es) (mCons m ms) :=
  ⟨ja_cons ha hr.ja hs, len_cons hr.ln⟩
structure Fn (X : Cx) (k : Nat) (x : Str) (sp : Sp) (ps : List Str) (dvs : List V) : Prop where
  ex : ∃ f fd ds, FnG X.prog X.w X.K X.mg X.base k f fd ps sp ∧ X.mg x = some (.ref f) ∧ PySem.W.keepIn X.K (.ref f) = true ∧ Binds X.K fd ps ds ∧ Vals dvs ds
section
variable {X : Cx} {k : Nat} {f : Addr} {fd : FuncData} {ps : List Str} {sp : Sp} {dvs : List V} {ds : List Value} {W : WX} {x : Str} {p pos : Pos} {e : Expr} {es : List Expr} {t : TA}
theorem run_g {pins : List (Addr × Obj)} {σ : St} {H : Hp} {s : Shared} {Q : VK} {us : List Value} {vs : List V} (F : FnG X.prog X.w X.K X.mg X.base k f fd ps sp) (hr : Room k X.A) (hgu : X.A.guards = some [])
    (hb : Binds X.K fd ps ds) (hd : Vals dvs ds) (tk : L2N.Takes X W) (I : Inv X pins σ H s) (r : Vals vs us) (h : sp (vs ++ dvs) H Q (WE W σ)) : wpAny (model X.prog X.w) X.A (call (.ref f) us) (EP X pins σ Q) X.xe s := by
  have r2 : Vals (vs ++ dvs) (us ++ ds) := r.append hd
  have hl : (us ++ ds).length = ps.length := by rw [← r2.length]; exact F.len _ _ _ _ h
  refine wpAny_call (codeAny_mono (F.run X.A X.stack s H _ _ _ Q _ hr hgu I.env0 (hb s us I.kIn hl) r2 h) ?_)
  intro r s' hq
  match r, hq with
  | .error e, hq => exact L2N.passAt tk σ pins H s e s' I hq
  | .ok (.ret u), hq => exact I.after hq
  | .ok .next, hq => exact hq.elim
  | .ok .brk, hq => exact hq.elim
  | .ok .cont, hq => exact hq.elim
theorem pe_callG (F : FnG X.prog X.w X.K X.mg X.base k f fd ps sp) (hr : Room k X.A) (hgu : X.A.guards = some []) (hg : Gl X x) (hm : X.mg x = some (.ref f)) (hk : PySem.W.keepIn X.K (.ref f) = true) (hb : Binds X.K fd ps ds) (hd : Vals dvs ds) (tk : L2N.Takes X W)
    (ha : PA X (e :: es) t) (hdb : (x == ("__debug__" : Str)) = false := by decide) (he : starEach (e :: es) X.env = (false, eval e X.env) :: starEach es X.env := by rfl) (hpl : (backTo pos (starEach es X.env)).any (·.1) = false := by rfl) :
    PE X (.Call (.Name x p) (e :: es) [] pos) (tCallSD sp dvs (fun σ => WE W σ) t) := by
  refine ⟨fun pins s σ H Q I h => wpAny_Call_Name_kw (ld_glob I hg hm ?_ hdb)⟩
  refine PySem.W.callWith_K (h₀ := X.base) I.ok.mod.kin hk (thn (ha.run pos pins s σ H _ I h) fun us s1 ⟨vs, H1, I1, r, q⟩ => ⟨I1.kIn, ?_⟩) he hpl
  exact run_g F hr hgu hb hd tk I1 r q
end
section
variable {X : Cx} {T : Pn} {W : WX} {pos p : Pos} {a b : Expr} {es : List Expr} {ma mb : M D} {ms : M (List D)} {f : Fnc} {k n : Nat} {x : Str} {ps : List Str} {dvs : List V} {dds : List D}
theorem jv_call0 (G : Fn X k x (spF0 X.K X.mg false n f) ps dvs) (hr : Room k X.A) (hgu : X.A.guards = some []) (tk : L2N.Takes X W) (hdd : ∀ F, RpL X.K X.mg F dds dvs) (hg : Gl X x) (ha : JL X T W (a :: es) ms) (hn : (a :: es).length + dds.length = n := by rfl)
    (hdb : (x == ("__debug__" : Str)) = false := by decide) (he : starEach (a :: es) X.env = (false, eval a X.env) :: starEach es X.env := by rfl) (hpl : (backTo pos (starEach es X.env)).any (·.1) = false := by rfl) :
    JV X T W (.Call (.Name x p) (a :: es) [] pos) (mC0 f dds ms) := by
  obtain ⟨fa, fd, ds0, FO, hm, hk, hb, hd⟩ := G.ex
  refine PEimp (pe_callG FO hr hgu hg hm hk hb hd tk ha.ja hdb he hpl) fun σ H Q ⟨e, F, er, h⟩ => ⟨e, F, er, ?_⟩
  have hb2 := h.bind
  unfold RunAt at hb2 ⊢
  cases q : ms e with
  | ok ds e1 =>
    rw [q] at hb2
    intro H1 F1 er1 mv1 vs hvs
    exact ap0_v (hb2 H1 F1 er1 mv1) er1 (hvs.append (hdd F1)) (by rw [List.length_append, ha.ln ds e e1 q]; exact hn)
  | exc x e1 => rw [q] at hb2; exact hb2
  | bad => rw [q] at hb2; exact hb2
theorem jo_call0 (G : Fn X k x (spF0 X.K X.mg true n f) ps dvs) (hr : Room k X.A) (hgu : X.A.guards = some []) (tk : L2N.Takes X W) (hdd : ∀ F, RpL X.K X.mg F dds dvs) (hg : Gl X x) (ha : JL X T W (a :: es) ms) (hn : (a :: es).length + dds.length = n := by rfl)
    (hdb : (x == ("__debug__" : Str)) = false := by decide) (he : starEach (a :: es) X.env = (false, eval a X.env) :: starEach es X.env := by rfl) (hpl : (backTo pos (starEach es X.env)).any (·.1) = false := by rfl) :
    JO X T W (.Call (.Name x p) (a :: es) [] pos) (mC0 f dds ms) := by
  obtain ⟨fa, fd, ds0, FO, hm, hk, hb, hd⟩ := G.ex
  refine PEimp (pe_callG FO hr hgu hg hm hk hb hd tk ha.ja hdb he hpl) fun σ H Q ⟨e, F, er, h⟩ => ⟨e, F, er, ?_⟩
  have hb2 := h.bind
  unfold RunAt at hb2 ⊢
  cases q : ms e with
  | ok ds e1 =>
    rw [q] at hb2
    intro H1 F1 er1 mv1 vs hvs
    exact ap0_o (hb2 H1 F1 er1 mv1) mv1.there er1 (hvs.append (hdd F1)) (by rw [List.length_append, ha.ln ds e e1 q]; exact hn)
  | exc x e1 => rw [q] at hb2; exact hb2
  | bad => rw [q] at hb2; exact hb2
theorem jv_call1 {i : Nat} {y : Str} {py : Pos} (G : Fn X k x (spF1 X.K X.mg false n f) ps dvs) (hr : Room k X.A) (hgu : X.A.guards = some []) (tk : L2N.Takes X W) (hdd : ∀ F, RpL X.K X.mg F dds dvs) (hg : Gl X x) (hN : X.N[i]? = some y) (hv : Vis X.env.scope y) (ha : JL X T W es ms) (hn : es.length + dds.length + 1 = n := by rfl)
    (hdb : (x == ("__debug__" : Str)) = false := by decide) (he : starEach (.Name y py :: es) X.env = (false, eval (.Name y py) X.env) :: starEach es X.env := by rfl) (hpl : (backTo pos (starEach es X.env)).any (·.1) = false := by rfl)
    (hd2 : (y == ("__debug__" : Str)) = false := by decide) (hcd : (y == ("__classdict__" : Str)) = false := by decide) :
    JV X T W (.Call (.Name x p) (.Name y py :: es) [] pos) (mC1 f i dds ms) := by
  obtain ⟨fa, fd, ds0, FO, hm, hk, hb, hd⟩ := G.ex
  refine PEimp (pe_callG FO hr hgu hg hm hk hb hd tk (pa_cons (pe_var hN hv hd2 hcd) ha.ja he) hdb he hpl) fun σ H Q ⟨e, F, er, h⟩ => ?_
  obtain ⟨p, hp, h⟩ := chkO_fin h er
  refine ⟨_, hp, e, F, er, ?_⟩
  have hb2 := h.bind
  unfold RunAt at hb2 ⊢
  cases q : ms e with
  | ok ds e1 =>
    rw [q] at hb2
    intro H1 F1 er1 mv1 vs hvs
    exact ap1_v (hb2 H1 F1 er1 mv1) er1 hp (hvs.append (hdd F1)) (by rw [List.length_append, ha.ln ds e e1 q]; exact hn)
  | exc x e1 => rw [q] at hb2; exact hb2
  | bad => rw [q] at hb2; exact hb2
end
end Sr
namespace Sr
variable [TabL]
open PySem hiding start
open PySem.Spec L2
open PyProof.Rows hiding St
def putD (f : Str) (d : D) : List (Str × D) → List (Str × D)
  | [] => [(f, d)]
  | (g, x) :: r => if g = f then (g, d) :: r else (g, x) :: putD f d r
section
variable {K : PySem.W.Frag} {mg : Str → Option Value} {F : Hp}
theorem RpF.get {f : Str} {d : D} : ∀ {fs : List (Str × D)} {gs : List (Str × V)}, RpF K mg F fs gs → fs.lookup f = some d → ∃ v, gs.lookup f = some v ∧ Rp K mg F d v
  | [], gs, _, e => by cases e
  | (k, x) :: fs, gs, h, e => by
    rw [rf_cons] at h
    obtain ⟨v, vs, rfl, r, h⟩ := h
    rw [List.lookup_cons] at e ⊢
    split at e
    · cases e; exact ⟨v, rfl, r⟩
    · exact RpF.get h e
theorem RpF.put {f : Str} {d : D} {v : V} (r : Rp K mg F d v) : ∀ {fs : List (Str × D)} {gs : List (Str × V)}, RpF K mg F fs gs → RpF K mg F (putD f d fs) (putF f v gs)
  | [], gs, h => by
    rw [rf_nil] at h; subst h
    unfold putD putF
    rw [rf_cons]; exact ⟨v, [], rfl, r, by rw [rf_nil]⟩
  | (k, x) :: fs, gs, h => by
    rw [rf_cons] at h
    obtain ⟨w, vs, rfl, q, h⟩ := h
    unfold putD putF
    split
    · rw [rf_cons]; exact ⟨v, vs, rfl, r, h⟩
    · rw [rf_cons]; exact ⟨w, _, rfl, q, RpF.put r h⟩
end
def gFld (c f : Str) : D → Option D
  | .obj c' fs => if c' = c then fs.lookup f else none
  | _ => none
def mFldB (c f : Str) (m : M Bv) : M D := bnd m fun b => bnd (der b) fun d => opt (gFld c f d)
section
variable {X : Cx} {T : Pn} {W : WX} {pos : Pos} {a b : Expr} {es : List Expr} {ma mb : M D} {m1 : M Bv} {ms : M (List D)} {f : Fnc} {k n : Nat} {x c g : Str} {C : Addr}
theorem fld_ok {H F : Hp} {d z : D} {v : V} (s : Same F H) (r : Rq X.K X.mg H F d v) (hc : Cl X c C) (e : gFld c g d = some z) : ∃ a dx fs w, v = .ref a ∧ H a = some (.ins C dx fs) ∧ fs.lookup g = some w ∧ Rp X.K X.mg F z w := by
  cases d <;> simp only [gFld, reduceCtorEq] at e
  split at e
  · rename_i hcc
    subst hcc
    obtain ⟨a, C', dx, gs, rfl, h1, h2, h3⟩ := r
    rw [hc.mg] at h1; cases h1
    obtain ⟨w, h4, h5⟩ := h3.get e
    exact ⟨a, dx, gs, w, rfl, h2, h4, h5⟩
  · cases e
def gA (i : Nat) (c f : Str) : D → M Unit := fun d e => match e[i]? with
  | some (.own (.obj c' fs)) => if c' = c ∧ fs.length < 1000 then .ok () (e.set i (.own (.obj c (putD f d fs)))) else .bad
  | _ => .bad
theorem ne_attr {i : Nat} : NoExc (gA i c g) := fun d e x e' h => by
  unfold gA at h
  split at h
  · split at h <;> cases h
  · cases h
theorem jg_attr {i : Nat} {y : Str} {pn : Pos} (hc : Cl X c C) (hn : NoAttr X.K C g) (hN : X.N[i]? = some y) (hv : Vis X.env.scope y) (hd : (y == ("__debug__" : Str)) = false := by decide) (hcd : (y == ("__classdict__" : Str)) = false := by decide) :
    JG X T W (.Attribute (.Name y pn) g pos) (gA i c g) := by
  refine ⟨fun pins s σ H v u Q I r h => ?_⟩
  obtain ⟨e, F, d, er, rd, h⟩ := h
  unfold gA at h
  cases q : e[i]? with
  | none => simp only [q] at h
  | some sl =>
    cases sl with
    | no => simp only [q] at h
    | val z => simp only [q] at h
    | own z =>
      cases z with
      | obj c' fs =>
        simp only [q] at h
        split at h
        · rename_i u' e' hh
          split at hh
          · rename_i hcc
            cases hh
            obtain ⟨p, h1, h2, C', dx, gs, h3, h4, h5⟩ := er.own i _ q
            rw [hcc.1, hc.mg] at h3; cases h3
            rw [assign_Attribute]
            refine wpAny_bind (wpAny_holding (thn ((pe_var (pos := pn) hN hv hd hcd).run pins s σ H (fun x H1 => x = .ref p ∧ H1 = H) I ⟨_, h1, rfl, rfl⟩) fun ov s1 ⟨x, H1, I1, r1, ex, eH⟩ => ?_))
            subst ex eH
            obtain rfl : ov = Value.ref p := r1
            refine wpAny_bind (wpAny_standAt (wpAny_bind (wpAny_holding (setattr_ok I1 h4 hc.cl hn (by rw [← h5.len]; exact hcc.2) r fun s2 I2 => ?_))))
            obtain ⟨er2, mv2⟩ := er.put (o := .ins C dx (putF g v gs)) (d' := .obj c (putD g d fs)) q h1 ⟨C, dx, _, hc.mg, upd_same, h5.put rd⟩
            exact wpAny_release ⟨σ, _, I2, h σ _ F er2 mv2⟩
          · cases hh
        · exact h.elim
      | _ => simp only [q] at h
end
end Sr
namespace Sr
variable [TabL]
open PySem hiding start
open PySem.Spec L2
open PyProof.Rows hiding St
theorem RunAt.eq {K : PySem.W.Frag} {mg : Str → Option Value} {T : Pn} {W : WX} {A : Type} {e : En} {σ : St} {H F : Hp} {m : M A} {P : A → En → Hp → Hp → Prop} (h : RunAt K mg T W e F m σ H P) : RunAt K mg T W e F m σ H fun a e' H' F' => m e = .ok a e' ∧ P a e' H' F' := by
  unfold RunAt at h ⊢
  cases q : m e with
  | ok a e' => rw [q] at h; exact fun H' F' er mv => ⟨rfl, h H' F' er mv⟩
  | exc x e' => rw [q] at h; exact h
  | bad => rw [q] at h; exact h
def sNever : M Fl := fun _ => .bad
section
variable {X : Cx} {k n : Nat} {f C : Addr} {fd : FuncData} {ps ks : List Str} {sp : Sp} {W : WX} {g : List Value → List Value → List Value} {gV : List V → List V → List V}
theorem run_mk {pins : List (Addr × Obj)} {σ : St} {H : Hp} {s : Shared} {Q : VK} {us ws : List Value} {vs zs : List V} (M0 : Mk X.K C f)
    (F0 : FnG X.prog X.w X.K X.mg X.base k f fd ps sp) (hr : Room (k + 1) X.A) (hgu : X.A.guards = some []) (hb : KBn X.K fd ps (n + 1) ks g gV) (tk : L2N.Takes X W)
    (I : Inv X pins σ H s) (r : Vals vs us) (rz : Vals zs ws) (l1 : vs.length = n) (l2 : zs.length = ks.length)
    (h : ∀ x dx, H x = none → H dx = none → dx ≠ x → sp (gV (.ref x :: vs) zs) (upd (upd H dx (.own x)) x (.ins C dx [])) (fun v H2 => v = .non ∧ Q (.ref x) H2) (WE W σ)) :
    wpAny (model X.prog X.w) X.A (call (.ref C) us (ks.zip ws)) (EP X pins σ Q) X.xe s := by
  have f1 : H (s.heap.objs.size + 1) = none := I.hok.fresh (by omega)
  have f0 : H s.heap.objs.size = none := I.hok.fresh (by omega)
  have hq := h _ _ f1 f0 (Nat.ne_of_lt (Nat.lt_succ_self _))
  have I2 := Inv.made (C := C) I
  have r1 : Vals (V.ref _ :: vs) (Value.ref (s.heap.objs.size + 1) :: us) := .cons rfl r
  have n1 : (Value.ref (s.heap.objs.size + 1) :: us).length = n + 1 := by rw [List.length_cons, ← r.length, l1]
  refine wpAny_call (make_map (f := f) I.kIn M0.makes M0.init (beq_iff_eq.mp M0.fn) ?_)
  refine codeAny_mono (F0.run _ X.stack _ _ ⟨_, ks.zip ws⟩ (g _ ws) _ _ (WE W σ) (hr.make C us _) (by simpa [Around.under, Code.guards, Code.isGuard, guardIds, pushGuards] using hgu) (I2.env0.make C us _) (hb.to _ _ ws I2.kIn n1 (rz.length.symm.trans l2)) (hb.rel r1 rz) hq) ?_
  intro r s' hq'
  match r, hq' with
  | .error e, hq' => exact L2N.passAt tk σ pins _ _ e s' I2 hq'
  | .ok (.ret u), hq' =>
    obtain ⟨v, H', I3, rv, ev, q3⟩ := I2.after hq'
    subst ev
    exact ⟨rv, V.ref (s.heap.objs.size + 1), H', I3, rfl, q3⟩
  | .ok .next, hq' => exact hq'.elim
  | .ok .brk, hq' => exact hq'.elim
  | .ok .cont, hq' => exact hq'.elim
end
structure JK (X : Cx) (T : Pn) (W : WX) (kws : List Keyword) (ms : M (List D)) : Prop where
  pk : PK X kws (TAs X.K X.mg T W ms)
  ln : ∀ (ds : List D) (e e' : En), ms e = .ok ds e' → ds.length = kws.length
theorem PKimp {X : Cx} {es : List Keyword} {t t' : TA} (h : PK X es t) (k : ∀ σ H Q, t' σ H Q → t σ H Q) : PK X es t' := ⟨fun pos pins s σ H Q I q => h.run pos pins s σ H Q I (k σ H Q q)⟩
theorem jk_nil {X : Cx} {T : Pn} {W : WX} : JK X T W [] mNil := ⟨PKimp pk_nil fun σ H Q ⟨e, F, er, h⟩ => h.rfin er H F Al.refl _ (by rw [rl_nil]), fun _ _ _ h => len_nil h⟩
theorem jk_cons {X : Cx} {T : Pn} {W : WX} {e : Expr} {nm : Option Str} {kpos : Pos} {kws : List Keyword} {m : M D} {ms : M (List D)} (ha : JV X T W e m) (hr : JK X T W kws ms) : JK X T W (⟨nm, e, kpos⟩ :: kws) (mCons m ms) := by
  refine ⟨PKimp (pk_cons ha hr.pk) fun σ H Q ⟨e, F, er, h⟩ => ⟨e, F, er, h.bind.mono fun d e1 H1 F1 er1 mv1 h1 v hv => ⟨e1, F1, er1, h1.bind.mono fun ds e2 H2 F2 er2 mv2 h2 vs hvs => ?_⟩⟩, len_cons hr.ln⟩
  exact h2.rfin er2 H2 F2 Al.refl _ (by rw [rl_cons]; exact ⟨v, vs, rfl, Rp.mono mv2.sub _ _ hv, hvs⟩)
structure Mkr (X : Cx) (k : Nat) (c : Str) (C : Addr) (sp : Sp) (ps : List Str) (n : Nat) (ks : List Str) (gV : List V → List V → List V) : Prop where
  cl : Cl X c C
  ex : ∃ f fd g, Mk X.K C f ∧ FnG X.prog X.w X.K X.mg X.base k f fd ps sp ∧ KBn X.K fd ps (n + 1) ks g gV
def apM (c : Str) (f : Fnc) (ds : List D) : M D := fun e => match f (.obj c []) ds with
  | .ok .non o => .ok o e
  | .ok _ _ => .bad
  | .exc x _ => .exc x e
  | .bad => .bad
def mMk (c : Str) (f : Fnc) (gD : List D → List D → List D) (ms mk : M (List D)) : M D := bnd ms fun ds => bnd mk fun es => apM c f (gD ds es)
section
variable {X : Cx} {T : Pn} {W : WX} {pos p : Pos} {a : Expr} {es : List Expr} {kws : List Keyword} {ms mk : M (List D)} {f : Fnc} {k n np : Nat} {c : Str} {C : Addr} {ps ks : List Str} {gV : List V → List V → List V} {gD : List D → List D → List D}
theorem apM_o {K : PySem.W.Frag} {mg : Str → Option Value} {e : En} {σ : St} {H F H0 : Hp} {ds : List D} {vs : List V} {Q : VK} {x dx : Addr}
    (h : RunAt K mg T W e F (apM c f ds) σ H fun d e' H' F' => ∀ p, H0 p = none → F' p = none → ¬ Ow e' σ p → OwnAt K mg H' F' p d → Q (.ref p) H') (hH : ∀ p, H p = none → H0 p = none) (er : ER K mg T e σ H F) (l : RpL K mg F ds vs) (hn : ds.length + 1 = n)
    (hm : mg c = some (.ref C)) (hx : H x = none) (hdx : H dx = none) (hne : dx ≠ x) : spF1 K mg false n f (.ref x :: vs) (upd (upd H dx (.own x)) x (.ins C dx [])) (fun v H2 => v = .non ∧ Q (.ref x) H2) (fun cl dd H' => W cl dd σ H') := by
  have s0 : Same H (upd (upd H dx (.own x)) x (.ins C dx [])) := fun b o q => by
    rw [upd_ne (ne_of_none q hx), upd_ne (ne_of_none q hdx)]; exact q
  refine ⟨x, .obj c [], vs, ds, F, rfl, er.sub.trans s0, (er.tb.push hdx (by first | assumption | (intro _ z; exact nomatch z) | (intro _ z; cases z))).push (by rw [upd_ne (Ne.symm hne)]; exact hx) (by first | assumption | (intro _ z; exact nomatch z) | (intro _ z; cases z)), er.sub.free hx, ⟨C, dx, [], hm, upd_same, by rw [rf_nil]⟩, l, hn, ?_⟩
  have conv : ∀ H' F', Fr (some x) (upd (upd H dx (.own x)) x (.ins C dx [])) F H' F' → Fr none H F H' F' := fun H' F' fr =>
    ⟨fr.sub, fr.fin, fun b o q zz _ => fr.keep b o (s0 b o q) zz fun z => (ne_of_none q hx) (Option.some.inj z).symm, fun b o q => (fr.new b o q).imp id fun z => s0.free z, fun b q => s0.free (fr.there b q), fr.tb⟩
  unfold RunAt apM at h
  cases q : f (.obj c []) ds with
  | ok d o' =>
    simp only [q] at h
    intro H' F' fr fp ow v hv
    obtain ⟨er', mv⟩ := er.fr (conv H' F' fr)
    cases d with
    | non =>
      rw [rp_non] at hv
      exact ⟨hv, h H' F' er' mv x (hH x hx) fp (Ow.ne_of_free er hx) ow⟩
    | _ => exact h.elim
  | exc x' o' =>
    simp only [q] at h
    intro H' F' cl dd fr fp ow xr
    obtain ⟨er', mv⟩ := er.fr (conv H' F' fr)
    exact h H' F' cl dd er' mv xr
  | bad => simp only [q] at h
theorem jo_make (G : Mkr X k c C (spF1 X.K X.mg false np f) ps n ks gV) (hr : Room (k + 1) X.A) (hgu : X.A.guards = some []) (tk : L2N.Takes X W) (hg : Gl X c) (ha : JL X T W (a :: es) ms) (hkw : JK X T W kws mk)
    (hrel : ∀ (ds es : List D) (vs zs : List V) (F : Hp) (x : Addr), RpL X.K X.mg F ds vs → RpL X.K X.mg F es zs → ds.length = n → es.length = ks.length → ∃ ws, gV (.ref x :: vs) zs = .ref x :: ws ∧ RpL X.K X.mg F (gD ds es) ws ∧ (gD ds es).length + 1 = np)
    (hn : (a :: es).length = n := by rfl) (hkl : kws.length = ks.length := by rfl)
    (hall : (backToKw pos (keywordEach kws X.env)).all (·.1.isSome) = true := by rfl) (hks : (backToKw pos (keywordEach kws X.env)).filterMap (·.1) = ks := by rfl) (hdb : (c == ("__debug__" : Str)) = false := by decide)
    (he : starEach (a :: es) X.env = (false, eval a X.env) :: starEach es X.env := by rfl) (hpl : ((backTo pos (starEach (a :: es) X.env)).any (·.1) || (backToKw pos (keywordEach kws X.env)).any (·.1.isNone)) = false := by rfl) :
    JO X T W (.Call (.Name c p) (a :: es) kws pos) (mMk c f gD ms mk) := by
  obtain ⟨fa, fd, g, M0, F0, hb⟩ := G.ex
  refine ⟨fun pins s σ H Q I h => ?_⟩
  obtain ⟨e, F, er, h⟩ := h
  refine wpAny_Call_Name_kw (ld_glob I hg G.cl.mg ?_ hdb)
  refine PySem.W.callWith_KW (h₀ := X.base) I.ok.mod.kin M0.kp hall (thn (ha.ja.run pos pins s σ H (fun vs H1 => TAs X.K X.mg T W mk σ H1 fun zs H2 => vs.length = n ∧ zs.length = ks.length ∧ ∀ x dx, H2 x = none → H2 dx = none → dx ≠ x → spF1 X.K X.mg false np f (gV (.ref x :: vs) zs) (upd (upd H2 dx (.own x)) x (.ins C dx [])) (fun v H3 => v = .non ∧ Q (.ref x) H3) (WE W σ)) I ?_) fun us s1 ⟨vs, H1, I1, r, q⟩ => ?_) hpl he
  · refine ⟨e, F, er, h.bind.eq.mono fun ds e1 H1 F1 er1 mv1 h1 vs hvs => ⟨e1, F1, er1, h1.2.bind.eq.mono fun es e2 H2 F2 er2 mv2 h2 zs hzs => ?_⟩⟩
    have hl1 : ds.length = n := (ha.ln ds e e1 h1.1).trans hn
    have hl2 : es.length = ks.length := (hkw.ln es e1 e2 h2.1).trans hkl
    refine ⟨by rw [← hvs.len]; exact hl1, by rw [← hzs.len]; exact hl2, fun x dx hx hdx hne => ?_⟩
    obtain ⟨ws, e1', e2', e3'⟩ := hrel ds es vs zs F2 x (RpL.mono mv2.sub _ _ hvs) hzs hl1 hl2
    rw [e1']
    exact apM_o h2.2 (fun p hp => mv1.there p (mv2.there p hp)) er2 e2' e3' G.cl.mg hx hdx hne
  · refine thn (hkw.pk.run pos pins s1 σ H1 _ I1 q) fun ws s2 ⟨zs, H2, I2, rz, l1, l2, q2⟩ => ⟨I2.kIn, ?_⟩
    rw [hks]
    exact run_mk M0 F0 hr hgu hb tk I2 r rz l1 l2 q2
end
end Sr
namespace Sr
variable [TabL]
open PySem hiding start
open PySem.Spec L2
open PyProof.Rows hiding St
section
variable {X : Cx} {T : Pn} {W : WX} {pos : Pos} {a : Expr} {ma : M D}
def rRepr (K : PySem.W.Frag) : List V → Hp → VK → Prop := fun xs H Q => ∃ (q : Addr) (p : PyData), xs = [.ref q] ∧ Dp K H (.ref q) p ∧ p.showable = true ∧ p.hasDict = false ∧ p.depth ≤ 64 ∧ p.shown.length ≤ sizeLine ∧ Q (.str p.shown) H
theorem call_reprD (hgu : X.A.guards = some []) (hu : X.A.units + 100 < cLine) : CallR X (.builtin "repr") (rRepr X.K) := by
  intro pins s σ H xs us Q I r h
  obtain ⟨q, p, rfl, hp, h1, h2, h3, h4, hq⟩ := h
  obtain ⟨u, rfl, ru⟩ := vals1 r
  obtain rfl : u = Value.ref q := ru
  obtain ⟨as, rd⟩ := Dp.reads I p _ _ hp rfl
  exact repr_of_reads' rd h1 (PyData.noDict_hsm h2) hgu (by omega) (fun _ _ e => e) (fun h' u tk hk => ⟨.str _, H, I.kept hk, ⟨_, rfl⟩, hq⟩) h4
def gRepr : D → Option D
  | .lst ds => match toP (.lst ds) with
    | some p => if (p.showable && !p.hasDict && decide (p.depth ≤ 64) && decide (p.shown.length ≤ sizeLine)) = true then some (.str p.shown) else none
    | none => none
  | .tup ds => match toP (.tup ds) with
    | some p => if (p.showable && !p.hasDict && decide (p.depth ≤ 64) && decide (p.shown.length ≤ sizeLine)) = true then some (.str p.shown) else none
    | none => none
  | _ => none
theorem c_repr (hgu : X.A.guards = some []) (hu : X.A.units + 100 < cLine) : Cal1 X (.builtin "repr") gRepr := by
  intro H F x d d' s r e
  unfold gRepr at e
  split at e
  · rename_i ds
    split at e
    · rename_i p hp
      split at e
      · rename_i hh
        cases e
        simp only [Bool.and_eq_true, Bool.not_eq_true', decide_eq_true_eq] at hh
        have hdp := Rq.dp s hp r
        obtain ⟨q, xs, rfl, _⟩ := r
        exact ⟨_, call_reprD hgu hu, fun Q qq => ⟨q, p, rfl, hdp, hh.1.1.1, hh.1.1.2, hh.1.2, hh.2, qq H F _ Al.refl (by rw [rp_str])⟩⟩
      · cases e
    · cases e
  · rename_i ds
    split at e
    · rename_i p hp
      split at e
      · rename_i hh
        cases e
        simp only [Bool.and_eq_true, Bool.not_eq_true', decide_eq_true_eq] at hh
        have hdp := Rq.dp s hp r
        rw [rq_tup] at r
        obtain ⟨q, xs, rfl, _⟩ := r
        exact ⟨_, call_reprD hgu hu, fun Q qq => ⟨q, p, rfl, hdp, hh.1.1.1, hh.1.1.2, hh.1.2, hh.2, qq H F _ Al.refl (by rw [rp_str])⟩⟩
      · cases e
    · cases e
  · cases e
def IsiK (K : PySem.W.Frag) (mg : Str → Option Value) (u : Value) (g : D → Option Bool) : Prop := ∀ (H F : Hp) (d : D) (v : V) (b : Bool), Same F H → Rp K mg F d v → g d = some b → ∃ t, TyX K H v t ∧ PySem.W.kitOne K t u = some b
abbrev Isi (X : Cx) (u : Value) (g : D → Option Bool) : Prop := IsiK X.K X.mg u g
def mIsi (g : D → Option Bool) (m : M D) : M D := bnd m fun d => opt ((g d).map D.bl)
theorem runIsi {g : D → Option Bool} {u : Value} {cv : V} {σ : St} {H : Hp} {Q : VK} (hi : Isi X u g) (hc : ClsV cv u) (h : TV X.K X.mg T W (mIsi g ma) σ H Q) : TV X.K X.mg T W ma σ H fun v H1 => rIsi X.K [v, cv] H1 Q := by
  obtain ⟨e, F, er, h⟩ := h
  refine ⟨e, F, er, h.bind.mono fun d e1 H1 F1 er1 mv1 h1 v hv => ?_⟩
  obtain ⟨z, hz, fin⟩ := h1.fin er1
  rw [Option.map_eq_some_iff] at hz
  obtain ⟨b, hb, rfl⟩ := hz
  obtain ⟨t, h2, h3⟩ := hi H1 F1 d v b er1.sub hv hb
  exact ⟨v, cv, t, u, b, rfl, hc, h2, h3, fin H1 F1 Al.refl _ (by rw [rp_bl])⟩
theorem jv_isiB {g : D → Option Bool} {y : Str} {n : String} {p p2 : Pos} (hi : Isi X (.type n) g) (hg : Gl X "isinstance") (hm : X.mg "isinstance" = none) (hy : Gl X y) (hmy : X.mg y = none) (hv : bootBuiltins y = some (.type n)) (ha : JV X T W a ma)
    (hnn : y ≠ "__name__" := by decide) (hdy : (y == ("__debug__" : Str)) = false := by decide)
    (he : starEach [a, .Name y p2] X.env = (false, eval a X.env) :: starEach [.Name y p2] X.env := by rfl) (he2 : starEach [.Name y p2] X.env = (false, eval (.Name y p2) X.env) :: starEach [] X.env := by rfl) :
    JV X T W (.Call (.Name "isinstance" p) [a, .Name y p2] [] pos) (mIsi g ma) :=
  PEimp (pe_callB call_isi hg hm (by decide +kernel) (pa_cons ha (pa_cons (pe_bltn (v := .ty n) hy hmy hv rfl hnn hdy) pa_nil he2) he) (by decide) (by decide) he (by rfl)) fun σ H Q h => runIsi hi (.ty n) h
theorem jv_isiC {g : D → Option Bool} {y : Str} {C : Addr} {p p2 : Pos} (hi : Isi X (.ref C) g) (hg : Gl X "isinstance") (hm : X.mg "isinstance" = none) (hy : Gl X y) (hmy : X.mg y = some (.ref C)) (ha : JV X T W a ma)
    (hdy : (y == ("__debug__" : Str)) = false := by decide)
    (he : starEach [a, .Name y p2] X.env = (false, eval a X.env) :: starEach [.Name y p2] X.env := by rfl) (he2 : starEach [.Name y p2] X.env = (false, eval (.Name y p2) X.env) :: starEach [] X.env := by rfl) :
    JV X T W (.Call (.Name "isinstance" p) [a, .Name y p2] [] pos) (mIsi g ma) :=
  PEimp (pe_callB call_isi hg hm (by decide +kernel) (pa_cons ha (pa_cons (pe_glob (v := .ref C) hy hmy rfl hdy) pa_nil he2) he) (by decide) (by decide) he (by rfl)) fun σ H Q h => runIsi hi (.own C) h
def dKind : D → Option (Kd ⊕ Str)
  | .non => some (.inl .non)
  | .bl _ => some (.inl .bool)
  | .int _ => some (.inl .int)
  | .str _ => some (.inl .str)
  | .byt _ => some (.inl .bytes)
  | .lst _ => some (.inl .list)
  | .tup _ => some (.inl .tuple)
  | .dk _ => some (.inl .dict)
  | .dt _ => some (.inl .dict)
  | .obj c _ => some (.inr c)
  | .scr _ => none
  | .ct _ => none
  | .dl _ => none
structure ClI (K : PySem.W.Frag) (mg : Str → Option Value) (c : Str) (C : Addr) : Prop where
  cl : ClK K mg c C
  ha : PySem.W.findIn K (.ref C) "__class__" = some (some (.builtin "object.__class__"))
  hn : PySem.W.specialIn K (.builtin "object.__class__") "__get__" = some (some (.builtin "getset_descriptor.__get__"))
  ht : PySem.W.takesIn K (.builtin "object.__class__") = some true
  hm : PySem.W.mroIn K C (.type "object") = some true
section
variable {K : PySem.W.Frag} {mg : Str → Option Value}
theorem tyx_ok {H F : Hp} {d : D} {v : V} {n : Kd} (s : Same F H) (r : Rp K mg F d v) (h : dKind d = some (.inl n)) : TyX K H v (.type n.nm) := by
  cases d <;> simp only [dKind, Option.some.injEq, Sum.inl.injEq, reduceCtorEq] at h
  · subst h; rw [rp_non] at r; subst r; exact .base .non
  · subst h; rw [rp_bl] at r; subst r; exact .base (.bl _)
  · subst h; rw [rp_int] at r; subst r; exact .base (.int _)
  · subst h; rw [rp_str] at r; subst r; exact .base (.str _)
  · subst h; rw [rp_byt] at r; subst r; exact .byt _
  · subst h; rw [rp_lst] at r; obtain ⟨a, xs, rfl, q, _⟩ := r; exact .base (.lst (s _ _ q))
  · subst h; rw [rp_tup] at r
    obtain ⟨a, xs, rfl, q, _⟩ := r
    exact .base (.tup (s _ _ q))
  · subst h; rw [rp_dk] at r; obtain ⟨a, xs, rfl, q, _⟩ := r; rcases q with q | ⟨o, q⟩; exact .base (.dK (s _ _ q)); exact .fDict (s _ _ q)
  · subst h; unfold Rp at r; obtain ⟨a, xs, rfl, q, _⟩ := r; exact .base (.dT (s _ _ q))
theorem tyx_obj {H F : Hp} {c : Str} {C : Addr} {fs : List (Str × D)} {v : V} (s : Same F H) (r : Rp K mg F (.obj c fs) v) (h : ClI K mg c C) : TyX K H v (.ref C) := by
  rw [rp_obj] at r
  obtain ⟨a, C', dx, gs, rfl, h1, h2, _⟩ := r
  rw [h.cl.mg] at h1; cases h1
  exact .base (.ins (s _ _ h2) h.cl.cl h.ha h.hn h.ht h.hm)
def gIsi (tb : Kd → Option Bool) (to : Str → Option Bool) (d : D) : Option Bool := match dKind d with
  | some (.inl n) => tb n
  | some (.inr c) => to c
  | none => none
theorem isi_of {u : Value} {tb : Kd → Option Bool} {to : Str → Option Bool} (h1 : ∀ n b, tb n = some b → PySem.W.kitOne K (.type n.nm) u = some b) (h2 : ∀ c b, to c = some b → ∃ C, ClI K mg c C ∧ PySem.W.kitOne K (.ref C) u = some b) : IsiK K mg u (gIsi tb to) := by
  intro H F d v b s r e
  unfold gIsi at e
  split at e
  · rename_i n hk
    exact ⟨_, tyx_ok s r hk, h1 n b e⟩
  · rename_i c hk
    obtain ⟨C, hC, hb⟩ := h2 c b e
    cases d <;> simp only [dKind, Option.some.injEq, Sum.inr.injEq, reduceCtorEq] at hk
    subst hk
    exact ⟨_, tyx_obj s r hC, hb⟩
  · cases e
def tInt : Kd → Option Bool
  | .bool => some true
  | .int => some true
  | _ => some false
def tOnly (k : Kd) : Kd → Option Bool := fun n => some (decide (n = k))
theorem tInt_ok : ∀ n b, tInt n = some b → PySem.W.kitOne K (.type n.nm) (.type "int") = some b := by
  intro n b h
  cases n <;> cases h <;> exact kit_ty (by decide +kernel)
theorem tBool_ok : ∀ n b, tOnly .bool n = some b → PySem.W.kitOne K (.type n.nm) (.type "bool") = some b := by
  intro n b h
  cases n <;> cases h <;> exact kit_ty (by decide +kernel)
theorem tStr_ok : ∀ n b, tOnly .str n = some b → PySem.W.kitOne K (.type n.nm) (.type "str") = some b := by
  intro n b h
  cases n <;> cases h <;> exact kit_ty (by decide +kernel)
theorem tTuple_ok : ∀ n b, tOnly .tuple n = some b → PySem.W.kitOne K (.type n.nm) (.type "tuple") = some b := by
  intro n b h
  cases n <;> cases h <;> exact kit_ty (by decide +kernel)
end
end
theorem law_g {P : Program} {w : World} {K : PySem.W.Frag} {mg mb : Str → Option Value} {k : Nat} {fa a : Addr} {fd : FuncData} {x : Str} {sp : Sp} {s : Shared} {vs : List Value} {ns : List Int}
    (KX : K.In s.heap) (hns : s.heap.Ns mainGlobals mg) (hb : s.heap.Ns builtinsNs mb) (hbb : ∀ x : Str, x ≠ "__name__" → mb x = bootBuiltins x) (hlim : s.heap.NoLimit) (hg : s.gens = #[])
    (ha : s.heap.get? a = some { cls := .type "list", data := .seq vs.toArray }) (hi : IntsAre vs ns) (hl : ns.length ≤ sizeLine) (hr : Room k callerA)
    (F : ∀ base : Heap, K.In base → base.Ns mainGlobals mg → FnG P w K mg base k fa fd [x] sp) (hbind : ∀ (s : Shared) (u : Value), BindsTo s fd ⟨[u], []⟩ [(x, u)])
    (hsp : ∀ H : Hp, Only H → SqL K H a (ns.map V.int) → sp [.ref a] H (fun v _ => v = .bl true) fun _ _ _ => False) :
    codeAny (model P w) callerA (.call (.ref fa) ⟨[.ref a], []⟩) (fun r s' => r = .ok (.ret (.bool true)) ∧ OldK s.heap s'.heap ∧ s'.os = s.os ∧ AllBare s'.gens) s := by
  have rv := vals_ints hi
  have lenV := hi.length
  have core : ∀ H : Hp, Only H → SqL K H a (ns.map V.int) → HOk P w H s.heap → (∀ b, H b ≠ none → b = a) → (H a ≠ none → K.lookup a = none) →
      codeAny (model P w) callerA (.call (.ref fa) ⟨[.ref a], []⟩) (fun r s' => r = .ok (.ret (.bool true)) ∧ OldK s.heap s'.heap ∧ s'.os = s.os ∧ AllBare s'.gens) s := by
    intro H hO hS hok hA hK
    have onlyA : ∀ {b : Addr} {u : HO}, H b = some u → b = a := fun {b u} q => hA b (by rw [q]; simp)
    have noD : ∀ {b : Addr} {o : Obj} {es : Array DictEntry} {ep : Nat}, s.heap.get? b = some o → o.data = .dict es ep → H b = none := fun {b o es ep} e d => by
      cases q : H b with
      | none => rfl
      | some u => rw [onlyA q, ha] at e; cases e; cases d
    have nsK : ∀ {b : Addr} {m : Str → Option Value}, s.heap.Ns b m → (hidT s.heap H).Ns b m := fun {b m} ⟨o, es, ep, e, d, r⟩ => ⟨o, es, ep, hidT_get e (noD e d), d, r⟩
    have hKb : K.In (hidT s.heap H) := fun b o e => by
      refine hidT_get (KX b o e) ?_
      cases q : H b with
      | none => rfl
      | some u =>
        have e' := onlyA q
        subst e'
        rw [hK (by rw [q]; simp)] at e; cases e
    have hM : Mod K mg (hidT s.heap H) := by
      obtain ⟨mc, h1, h2⟩ := hlim
      exact ⟨hKb, nsK hns, ⟨mb, nsK hb, hbb⟩, ⟨mc, nsK h1, h2⟩⟩
    have e0 : Env0 P w K mg (hidT s.heap H) callerA [] s H := ⟨rfl, hM, fun b o e => of_hidT e, Nat.le_of_eq (hidT_size _ _), trivial, fun b z => (by cases z), hok, .of_eq hg⟩
    refine codeAny_mono ((F _ hKb (nsK hns)).run callerA [] s H _ [.ref a] [.ref a] _ _ hr rfl e0 (hbind s (.ref a)) (.cons rfl .nil) (hsp H hO hS)) ?_
    intro r s' h
    match r, h with
    | .error e, h => obtain ⟨_, _, _, _, _, _, _, _, _, _, _, _, z⟩ := h; exact z.elim
    | .ok .next, h => exact h.elim
    | .ok .brk, h => exact h.elim
    | .ok .cont, h => exact h.elim
    | .ok (.ret u), ⟨v, H', os, bare, un, hok', r', q⟩ =>
      have q' : v = .bl true := q
      subst q'
      obtain rfl : u = Value.bool true := r'
      refine ⟨rfl, OldK.of_keep fun b o e => ?_, os, bare⟩
      cases q : H b with
      | none => exact un.keep b o e q (fun z => by cases z) (by simp)
      | some u =>
        rcases hO b with z | ⟨ob, xs, z⟩
        · rw [q] at z; cases z
        · obtain ⟨e1, _⟩ := hok b _ z
          obtain ⟨e2, _⟩ := hok' b _ (un.frzs b ob _ z)
          rw [e] at e1; cases e1
          exact e2
  cases hk : K.lookup a with
  | some o =>
    have e := KX a o hk
    rw [ha] at e
    cases e
    refine core (fun _ => none) (fun _ => .inl rfl) (.inr ⟨_, vs.toArray, _, hk, rfl, rfl, rfl, by rw [List.size_toArray, lenV]; exact hl, by simpa using rv⟩) (fun b u z => by cases z) (fun b z => absurd rfl z) fun z => absurd rfl z
  | none =>
    refine core (fun b => if b = a then some (.frz { cls := .type "list", data := .seq vs.toArray } (.lst (ns.map V.int))) else none) (fun b => ?_) (.inl (.inr ⟨_, if_pos rfl⟩)) (fun b u z => ?_) (fun b z => ?_) fun _ => hk
    · by_cases hb : b = a
      · exact .inr ⟨_, _, if_pos hb⟩
      · exact .inl (if_neg hb)
    · by_cases hb : b = a
      · subst hb
        dsimp only at z
        rw [if_pos rfl] at z; cases z
        exact ⟨ha, by rw [List.length_map]; exact hl, vs, _, rv, ha⟩
      · dsimp only at z
        rw [if_neg hb] at z; cases z
    · by_cases hb : b = a
      · exact hb
      · exact absurd (if_neg hb) z
end Sr
namespace Sr
variable [TabL]
open PySem hiding start
open PySem.Spec L2
open PyProof.Rows hiding St
def gLt (a b : D) : Option D := (gI0 (fun i j => .bl (decide (i < j))) a b).or (gLtT a b)
def gLe : D → D → Option D := gI0 fun i j => .bl (decide (i ≤ j))
def gGt : D → D → Option D := gI0 fun i j => .bl (decide (j < i))
def gGe : D → D → Option D := gI0 fun i j => .bl (decide (j ≤ i))
structure Pl (X : Cx) (k : Nat) : Prop where
  room : Room k X.A
  gu : X.A.guards = some []
section
variable {X : Cx} {k : Nat}
theorem Pl.u64 (h : Pl X k) : X.A.units + 64 < cLine := h.room.units
theorem Pl.u100 (h : Pl X k) : X.A.units + 100 < cLine := by have := h.room.un; omega
theorem Pl.u0 (h : Pl X k) : X.A.units < cLine := h.room.units0
theorem Pl.u1 (h : Pl X k) : X.A.units + 1 < cLine := by have := h.room.un; omega
theorem p_lt (h : Pl X k) : Op2 X (compareOp .Lt) gLt := o_lt.or (o_ltT h.u0)
theorem p_le : Op2 X (compareOp .LtE) gLe := o_le
theorem p_gt : Op2 X (compareOp .Gt) gGt := o_gt
end
section
variable {X : Cx} {T : Pn} {W : WX} {pos p : Pos} {a : Expr} {es : List Expr} {ma : M D} {ms : M (List D)} {f : Fnc} {k j n : Nat} {x c g : Str} {ps : List Str} {dvs : List V} {dds : List D} {C : Addr}
theorem jv_gI {i : Int} (hg : Gl X x) (h : ∃ t, X.mg x = some (.int i t)) (hx : (x == ("__debug__" : Str)) = false := by decide) : JV X T W (.Name x pos) (ret (.int i)) := by
  obtain ⟨t, h⟩ := h
  exact jv_glob (v := .int i) hg h ⟨t, rfl⟩ (fun F => by rw [rp_int]) hx
theorem jv_gS {z : Str} (hg : Gl X x) (h : ∃ t, X.mg x = some (.str z t)) (hx : (x == ("__debug__" : Str)) = false := by decide) : JV X T W (.Name x pos) (ret (.str z)) := by
  obtain ⟨t, h⟩ := h
  exact jv_glob (v := .str z) hg h ⟨t, rfl⟩ (fun F => by rw [rp_str]) hx
theorem runCalV {fv : Value} {g1 : D → Option D} {σ : St} {H : Hp} {Q : VK} (hc : Cal1 X fv g1) (h : TV X.K X.mg T W (m1 g1 ma) σ H Q) : TV X.K X.mg T W ma σ H fun v H1 => rAnyC X fv [v] H1 Q := by
  obtain ⟨e, F, er, h⟩ := h
  refine ⟨e, F, er, h.bind.mono fun d e1 H1 F1 er1 mv1 h1 v hv => ?_⟩
  obtain ⟨z, hz, fin⟩ := h1.fin er1
  obtain ⟨r, hr, q⟩ := hc H1 F1 v d z er1.sub (Rp.rq er1.sub hv) hz
  exact ⟨r, hr, q Q fun H' F' z al hz => fin H' F' al z hz⟩
theorem jv_callV1 {id : String} {g1 : D → Option D} (hc : Cal1 X (.builtin id) g1) (hg : Gl X x) (hm : X.mg x = none) (hv : bootBuiltins x = some (.builtin id)) (ha : JV X T W a ma) (hn : x ≠ "__name__" := by decide) (hdb : (x == ("__debug__" : Str)) = false := by decide)
    (he : starEach [a] X.env = (false, eval a X.env) :: starEach [] X.env := by rfl) : JV X T W (.Call (.Name x p) [a] [] pos) (m1 g1 ma) :=
  PEimp (pe_callB callAny hg hm hv (pa_cons ha pa_nil he) hn hdb he rfl) fun σ H Q h => runCalV hc h
theorem jv_callT1 {id : String} {g1 : D → Option D} (hc : Cal1 X (.type id) g1) (hg : Gl X x) (hm : X.mg x = none) (hv : bootBuiltins x = some (.type id)) (ha : JV X T W a ma) (hn : x ≠ "__name__" := by decide) (hdb : (x == ("__debug__" : Str)) = false := by decide)
    (he : starEach [a] X.env = (false, eval a X.env) :: starEach [] X.env := by rfl) : JV X T W (.Call (.Name x p) [a] [] pos) (m1 g1 ma) :=
  PEimp (pe_callTy callAny hg hm hv (pa_cons ha pa_nil he) hn hdb he rfl) fun σ H Q h => runCalV hc h
theorem jv_fldV (hc : Cl X c C) (hn : NoAttr X.K C g) (ha : JV X T W a ma) (hb : attributeBase a g X.env (eval a X.env) = eval a X.env := by rfl) : JV X T W (.Attribute a g pos) (m1 (gFld c g) ma) := by
  refine PEimp (pe_fld ha hb) fun σ H Q ⟨e, F, er, h⟩ => ⟨e, F, er, h.bind.mono fun d e1 H1 F1 er1 mv1 h1 v hv => ?_⟩
  obtain ⟨z, hz, fin⟩ := h1.fin er1
  obtain ⟨a, dx, fs, w, rfl, h4, h5, h6⟩ := fld_ok er1.sub (Rp.rq er1.sub hv) hc hz
  exact ⟨a, C, dx, fs, w, rfl, h4, hc.cl, hn, h5, fin H1 F1 Al.refl w h6⟩
structure Prp (X : Cx) (k : Nat) (c : Str) (C : Addr) (y g : Str) : Prop where
  cl : Cl X c C
  ex : ∃ pp ga fd, PropOf X.K C y pp ga ∧ FnOk X.prog X.w X.K X.mg X.base CX0 k ga fd ["self"] (getSp C g) ∧ Binds X.K fd ["self"] []
theorem jv_propV {y : Str} (G : Prp X k c C y g) (hp : Pl X j) (ha : JV X T W a ma) (hj : k + 1 ≤ j := by decide) (hab : attributeBase a y X.env (eval a X.env) = eval a X.env := by rfl) : JV X T W (.Attribute a y pos) (m1 (gFld c g) ma) := by
  obtain ⟨pp, ga, fd, h1, h2, h3⟩ := G.ex
  refine PEimp (pe_prop (E := E0) (dvs := []) ha G.cl.cl h1 h2 (hp.room.mono hj) h3 .nil pass0 hab) fun σ H Q ⟨e, F, er, h⟩ => ⟨e, F, er, h.bind.mono fun d e1 H1 F1 er1 mv1 h1 v hv => ?_⟩
  obtain ⟨z, hz, fin⟩ := h1.fin er1
  obtain ⟨a, dx, fs, w, rfl, h4, h5, h6⟩ := fld_ok er1.sub (Rp.rq er1.sub hv) G.cl hz
  exact ⟨a, dx, fs, rfl, h4, a, dx, fs, w, rfl, h4, h5, fin H1 F1 Al.refl w h6⟩
theorem jv_c0 (G : Fn X k x (spF0 X.K X.mg false n f) ps dvs) (hp : Pl X j) (tk : L2N.Takes X W) (hdd : ∀ F, RpL X.K X.mg F dds dvs) (hg : Gl X x) (ha : JL X T W (a :: es) ms) (hk : k ≤ j := by decide) (hn : (a :: es).length + dds.length = n := by rfl)
    (hdb : (x == ("__debug__" : Str)) = false := by decide) (he : starEach (a :: es) X.env = (false, eval a X.env) :: starEach es X.env := by rfl) (hpl : (backTo pos (starEach es X.env)).any (·.1) = false := by rfl) :
    JV X T W (.Call (.Name x p) (a :: es) [] pos) (mC0 f dds ms) := jv_call0 G (hp.room.mono hk) hp.gu tk hdd hg ha hn hdb he hpl
theorem jo_c0 (G : Fn X k x (spF0 X.K X.mg true n f) ps dvs) (hp : Pl X j) (tk : L2N.Takes X W) (hdd : ∀ F, RpL X.K X.mg F dds dvs) (hg : Gl X x) (ha : JL X T W (a :: es) ms) (hk : k ≤ j := by decide) (hn : (a :: es).length + dds.length = n := by rfl)
    (hdb : (x == ("__debug__" : Str)) = false := by decide) (he : starEach (a :: es) X.env = (false, eval a X.env) :: starEach es X.env := by rfl) (hpl : (backTo pos (starEach es X.env)).any (·.1) = false := by rfl) :
    JO X T W (.Call (.Name x p) (a :: es) [] pos) (mC0 f dds ms) := jo_call0 G (hp.room.mono hk) hp.gu tk hdd hg ha hn hdb he hpl
theorem jv_c1 (i : Nat) {y : Str} {py : Pos} (G : Fn X k x (spF1 X.K X.mg false n f) ps dvs) (hp : Pl X j) (tk : L2N.Takes X W) (hdd : ∀ F, RpL X.K X.mg F dds dvs) (hg : Gl X x) (hN : X.N[i]? = some y) (hv : Vis X.env.scope y) (ha : JL X T W es ms) (hk : k ≤ j := by decide) (hn : es.length + dds.length + 1 = n := by rfl)
    (hdb : (x == ("__debug__" : Str)) = false := by decide) (he : starEach (.Name y py :: es) X.env = (false, eval (.Name y py) X.env) :: starEach es X.env := by rfl) (hpl : (backTo pos (starEach es X.env)).any (·.1) = false := by rfl)
    (hd2 : (y == ("__debug__" : Str)) = false := by decide) (hcd : (y == ("__classdict__" : Str)) = false := by decide) :
    JV X T W (.Call (.Name x p) (.Name y py :: es) [] pos) (mC1 f i dds ms) := jv_call1 G (hp.room.mono hk) hp.gu tk hdd hg hN hv ha hn hdb he hpl hd2 hcd
theorem nodd : ∀ F, RpL X.K X.mg F [] [] := fun F => by rw [rl_nil]
end
abbrev FnC (P : Program) (w : World) (K : PySem.W.Frag) (mg : Str → Option Value) (base : Heap) (k : Nat) (x : Str) (sp : Sp) (ps : List Str) (dvs : List V) : Prop :=
  ∃ f fd ds, FnG P w K mg base k f fd ps sp ∧ mg x = some (.ref f) ∧ PySem.W.keepIn K (.ref f) = true ∧ Binds K fd ps ds ∧ Vals dvs ds
end Sr
namespace Sr
open PySem hiding start
open PySem.Spec L2
open PyProof.Rows hiding St
theorem DefZ.funD {K : PySem.W.Frag} {d : DefZ} (e : fnZ K (d.ad K) = d.val) (c : d.ok K = true) : ∃ fd, FunD K d.name d.qual (defArgs d.st) (defBody d.st) (defScope d.st) [] d.kwd (d.ad K) fd := by
  obtain ⟨kp, c2⟩ := He.ba c
  unfold fnZ at e
  cases q : K.lookup (d.ad K) with
  | none => rw [q] at c2; cases c2
  | some o =>
    obtain ⟨oc, od, dt, osl⟩ := o
    rw [q] at c2 e
    cases dt with
    | func fd =>
      obtain ⟨n1, n2, n3, n4, n5, n6, n7, n8, n9, n10, n11, n12, n13, n14, n15⟩ := fd
      have e2 : (some (n1, n2, n3, n4, n5, n6, n7, n15) : He.FnW) = some (d.name, d.qual, defArgs d.st, .stmts (defBody d.st), defScope d.st, mainGlobals, [], builtinsNs) := e
      simp only [Option.some.injEq, Prod.mk.injEq] at e2
      obtain ⟨h1, h2, h3, h4, h5, h6, h7, h8⟩ := e2
      subst h1 h2 h3 h4 h5 h6 h7 h8
      have c3 : (PySem.W.codeIn K n13 d.qual && (He.dflB K n8 [] && He.kwdB K n9 d.kwd)) = true := c2
      obtain ⟨k1, k2⟩ := He.ba c3
      obtain ⟨k3, k4⟩ := He.ba k2
      exact ⟨_, ⟨oc, od, n8, n9, n10, n11, n12, n13, n14, osl, rfl, q, k1, He.dflB_ok k3, He.kwdB_ok k4⟩, kp⟩
    | _ => cases c2
section
variable {fa : List He.Fa} {fn : List DefZ} {ex : PySem.W.Frag → Bool} {K : PySem.W.Frag}
theorem SaysZ.fact (c : SaysZ fa fn ex K) (i : Nat) {f : He.Fa} (h : fa[i]? = some f := by rfl) : f.ok K = true := List.all_eq_true.mp c.all.1 f (List.mem_of_getElem? h)
theorem SaysZ.def_ (c : SaysZ fa fn ex K) (i : Nat) {d : DefZ} (h : fn[i]? = some d := by rfl) : ∃ fd, FunD K d.name d.qual (defArgs d.st) (defBody d.st) (defScope d.st) [] d.kwd (d.ad K) fd := by
  have e : fn.map (fun d => fnZ K (d.ad K)) = fn.map DefZ.val := congrArg (fun z : AlZ => z.2) c
  have e2 : (fn.map fun d => fnZ K (d.ad K))[i]? = (fn.map DefZ.val)[i]? := by rw [e]
  rw [List.getElem?_map, List.getElem?_map, h] at e2
  exact DefZ.funD (Option.some.inj e2) (List.all_eq_true.mp c.all.2.1 d (List.mem_of_getElem? h))
end
theorem propB_ok {K : PySem.W.Frag} {c f : Str} (h : propB K c f = true) : PropOf K (He.ga K c) f (prG K c f).1 (prG K c f).2 := by
  unfold propB at h
  simp only [Bool.and_eq_true, decide_eq_true_eq] at h
  obtain ⟨h1, h2, h3, h4⟩ := h
  refine ⟨h1, h2, h3, ?_⟩
  split at h4
  · rename_i g r e
    rw [decide_eq_true_eq] at h4
    rw [← h4]; exact ⟨r, e⟩
  · cases h4
theorem cliB_ok {K : PySem.W.Frag} {mg : Str → Option Value} {c : Str} (hc : ClK K mg c (He.ga K c)) (h : cliB K c = true) : ClI K mg c (He.ga K c) := by
  unfold cliB at h
  simp only [Bool.and_eq_true, decide_eq_true_eq] at h
  exact ⟨hc, h.1, h.2.1, h.2.2.1, h.2.2.2⟩
theorem noKd_ok {K : PySem.W.Frag} {c : Str} (h : noKd K c = true) : ∀ n b, (fun _ : Kd => some false) n = some b → PySem.W.kitOne K (.type n.nm) (.ref (He.ga K c)) = some b := by
  intro n b e
  cases e
  have hm : n ∈ allKd := by cases n <;> decide
  exact of_decide_eq_true (List.all_eq_true.mp h n hm)
theorem ownB_ok {K : PySem.W.Frag} {mg : Str → Option Value} {u : Value} {l : List (Str × Bool)} (h : ownB K u l = true) (hC : ∀ q ∈ l, ClI K mg q.1 (He.ga K q.1)) : ∀ c b, l.lookup c = some b → ∃ C, ClI K mg c C ∧ PySem.W.kitOne K (.ref C) u = some b := by
  intro c b e
  have hm : (c, b) ∈ l := PySem.mem_of_lookup e
  exact ⟨_, hC (c, b) hm, of_decide_eq_true (List.all_eq_true.mp h (c, b) hm)⟩
def gMul : D → D → Option D := gMulI
theorem o_mul [TabL] {X : Cx} : Op2 X (binaryOp .Mult) gMul := o_mulI
end Sr
namespace Sr
variable [TabL]
open PySem hiding start
open PySem.Spec L2
open PyProof.Rows hiding St
theorem bt_len : bootBuiltins "len" = some (.builtin "len") := by decide +kernel
theorem bt_max : bootBuiltins "max" = some (.builtin "max") := by decide +kernel
theorem bt_min : bootBuiltins "min" = some (.builtin "min") := by decide +kernel
theorem bt_repr : bootBuiltins "repr" = some (.builtin "repr") := by decide +kernel
theorem bt_all : bootBuiltins "all" = some (.builtin "all") := by decide +kernel
theorem bt_int : bootBuiltins "int" = some (.type "int") := by decide +kernel
theorem bt_bool : bootBuiltins "bool" = some (.type "bool") := by decide +kernel
theorem bt_str : bootBuiltins "str" = some (.type "str") := by decide +kernel
theorem bt_tuple : bootBuiltins "tuple" = some (.type "tuple") := by decide +kernel
theorem law_true {K : PySem.W.Frag} {mg : Str → Option Value} {f : Fnc} {ns : List Int} {H : Hp} {a : Addr} (h : f .non [.scr ns] = .ok (.bl true) .non) (hO : Only H) (hl : TabL.l = []) (hS : SqL K H a (ns.map V.int)) : spF0 K mg false 1 f [.ref a] H (fun v _ => v = .bl true) fun _ _ _ => False := by
  have tb : TbOk H H := ⟨by rw [hl]; exact (fun p hp => nomatch hp), fun b o e => by
    rcases hO b with z | ⟨ob, xs, z⟩ <;> rw [e] at z <;> cases z
    exact (fun _ z => nomatch z), fun b ps e => by
    rcases hO b with z | ⟨ob, xs, z⟩ <;> rw [e] at z <;> cases z⟩
  refine ⟨[.scr ns], H, Same.refl _, tb, ?_, rfl, ?_⟩
  · rw [rl_cons]
    exact ⟨_, [], rfl, by rw [rp_scr]; exact ⟨a, rfl, hS⟩, by rw [rl_nil]⟩
  · rw [h]
    intro H' F' _ v hv
    rw [rp_bl] at hv
    exact hv
theorem fn_get {P : Program} {w : World} {K : PySem.W.Frag} {mg : Str → Option Value} {base : Heap} {x qual f : Str} {st : Stmt} {kws : List (Str × V)} {fa C : Addr} {fd : FuncData} {p1 p2 p3 : Pos} (G : FunD K x qual (defArgs st) (defBody st) (defScope st) [] kws fa fd) (cl : Cls K C) (hn : NoAttr K C f)
    (S : FnScope ["self"] ["self"] (defScope st)) (hb : defBody st = [.Return (some (.Attribute (.Name "self" p1) f p2)) p3]) : FnOk P w K mg base CX0 1 fa fd ["self"] (getSp C f) := by
  refine G.ok S (fun vs H Q E h => ?_) (fun cdv A outer s H vs Q E hr h => ?_)
  · obtain ⟨a, dx, fs, v, rfl, _⟩ := h
    rfl
  · obtain ⟨a, dx, fs, v, rfl, h1, h2, h3⟩ := h
    have hv : Vis (defScope st) "self" := by
      rcases S.par "self" (by simp) with q | q
      · exact .inl q
      · exact .inr (.inl q)
    rw [hb]
    refine ⟨_, pss_one (ps_ret (pe_fld (pe_var (i := 0) rfl hv) rfl)), ?_⟩
    exact ⟨_, rfl, a, C, dx, fs, v, rfl, h1, cl, hn, h2, h3⟩
theorem kbn0 {K : PySem.W.Frag} {fd : FuncData} {ps : List Str} (h : Binds K fd ps []) : KBn K fd ps ps.length [] (fun us _ => us) (fun vs _ => vs) := by
  refine ⟨fun s us ws X l1 l2 => ?_, fun r _ => r⟩
  have e : ws = [] := List.length_eq_zero_iff.mp l2
  subst e
  have b := h s us X (by rw [List.append_nil]; exact l1)
  rw [List.append_nil] at b
  exact b
end Sr
namespace Sr
open PySem hiding start
open L2
section
variable {A B : Type}
theorem bnd_ok {m : M A} {f : A → M B} {e e' : En} {a : A} (h : m e = .ok a e') : bnd m f e = f a e' := by unfold bnd; rw [h]
theorem sq_nx {s u : M Fl} {e e' : En} (h : s e = .ok .nx e') : sq s u e = u e' := by unfold sq; rw [h]
theorem lp_nx {b k : M Fl} {e e' : En} (h : b e = .ok .nx e') : lp b k e = k e' := by unfold lp; rw [h]
theorem lp_rt {b k : M Fl} {e e' : En} {d : D} (h : b e = .ok (.rt d) e') : lp b k e = .ok (.rt d) e' := by unfold lp; rw [h]
end
def turn (w : D → M Unit) (b : M Fl) (d : D) : M Fl := bnd (w d) fun _ => b
theorem forL_cons_nx {w : D → M Unit} {b : M Fl} {d : D} {ds : List D} {e e' : En} (h : turn w b d e = .ok .nx e') : forL w b (d :: ds) e = forL w b ds e' := by
  unfold turn bnd at h
  show bnd (w d) (fun _ => lp b (forL w b ds)) e = _
  unfold bnd
  cases q : w d e with
  | ok u e1 => rw [q] at h; exact lp_nx h
  | exc x e1 => rw [q] at h; cases h
  | bad => rw [q] at h; cases h
theorem forL_cons_rt {w : D → M Unit} {b : M Fl} {d : D} {ds : List D} {e e' : En} {z : D} (h : turn w b d e = .ok (.rt z) e') : forL w b (d :: ds) e = .ok (.rt z) e' := by
  unfold turn bnd at h
  show bnd (w d) (fun _ => lp b (forL w b ds)) e = _
  unfold bnd
  cases q : w d e with
  | ok u e1 => rw [q] at h; exact lp_rt h
  | exc x e1 => rw [q] at h; cases h
  | bad => rw [q] at h; cases h
theorem forL_inv {w : D → M Unit} {b : M Fl} (I : En → Prop) : ∀ {ds : List D} {e : En}, (∀ d ∈ ds, ∀ e, I e → ∃ e', turn w b d e = .ok .nx e' ∧ I e') → I e → ∃ e', forL w b ds e = .ok .nx e' ∧ I e'
  | [], e, _, h => ⟨e, rfl, h⟩
  | d :: ds, e, hs, h => by
    obtain ⟨e1, h1, h2⟩ := hs d (by simp) e h
    obtain ⟨e2, h3, h4⟩ := forL_inv I (ds := ds) (fun d hd => hs d (List.mem_cons_of_mem _ hd)) h2
    exact ⟨e2, by rw [forL_cons_nx h1]; exact h3, h4⟩
end Sr
namespace Sr
open PySem hiding start
open L2
def irng (lo hi : Int) : List Int := (List.range (hi - lo).toNat).map fun (i : Nat) => lo + i
theorem rngL_eq (lo hi : Int) : rngL lo hi = (irng lo hi).map D.int := by
  unfold rngL irng
  rw [List.map_map]; rfl
theorem irng_mem {lo hi i : Int} (h : i ∈ irng lo hi) : lo ≤ i ∧ i < hi := by
  unfold irng at h
  rw [List.mem_map] at h
  obtain ⟨n, h1, rfl⟩ := h
  rw [List.mem_range] at h1
  omega
theorem forL_map {A B : Type} {w : D → M Unit} {b : M Fl} (f : B → D) (R : A → En → Prop) (step : A → B → A) (a : A) (xs : List B) (e : En)
    (hs : ∀ pre x post, xs = pre ++ x :: post → ∀ e, R (pre.foldl step a) e → ∃ e', turn w b (f x) e = .ok .nx e' ∧ R (step (pre.foldl step a) x) e') (h0 : R a e) : ∃ e', forL w b (xs.map f) e = .ok .nx e' ∧ R (xs.foldl step a) e' := by
  suffices H : ∀ (pre post : List B) (e : En), xs = pre ++ post → R (pre.foldl step a) e → ∃ e', forL w b (post.map f) e = .ok .nx e' ∧ R (xs.foldl step a) e' from H [] xs e rfl h0
  intro pre post
  induction post generalizing pre with
  | nil => intro e h hR; rw [List.append_nil] at h; subst h; exact ⟨e, rfl, hR⟩
  | cons x post ih =>
    intro e h hR
    obtain ⟨e1, h1, h2⟩ := hs pre x post h e hR
    obtain ⟨e2, h3, h4⟩ := ih (pre ++ [x]) e1 (by rw [h]; simp) (by rw [List.foldl_append]; exact h2)
    exact ⟨e2, by rw [List.map_cons, forL_cons_nx h1]; exact h3, h4⟩
theorem cmul_l {i j : Int} (h1 : -18446744073709551616 < i) (h2 : i < 18446744073709551616) : cMul i j = true := by
  unfold cMul; simp; left; exact ⟨h1, h2⟩
def PenOk (o : D) : Prop := ∃ a b c : Int, o = .lst [.int a, .int b, .int c] ∧ 0 ≤ a ∧ 0 ≤ b ∧ b ≤ 2147483647
end Sr
namespace Sr
open PySem hiding start
open L2
structure Sh (d : D) (k n : Nat) (p : PyData) : Prop where
  eq : toP d = some p
  sh : p.showable = true
  nd : p.hasDict = false
  dp : p.depth ≤ k
  ln : p.shown.length ≤ n
structure ShL (ds : List D) (k n : Nat) (ps : List PyData) : Prop where
  eq : toPL ds = some ps
  sh : PyData.showableAll ps = true
  nd : PyData.hasDictAll ps = false
  dp : PyData.depthAll ps ≤ k
  ln : piled (PyData.shownAll ps) ≤ n
theorem listText_le (ts : List Str) : (listText ts).length ≤ piled ts + 2 := by
  cases ts with
  | nil => decide +kernel
  | cons t r =>
    show (textFrom 1 ((("[" : Str) ++ ((if 0 > 0 then ", " else "" : String) : Str)) ++ t) r ++ ("]" : Str)).length ≤ _
    rw [strLen_append, textFrom_length_pos _ _ _ (by omega), piled_cons, strLen_append, strLen_append]
    have h1 : (("[" : Str)).length = 1 := by decide +kernel
    have h2 : (("]" : Str)).length = 1 := by decide +kernel
    have h3 : (((if 0 > 0 then ", " else "" : String) : Str)).length = 0 := by decide +kernel
    omega
theorem tupleText_le (ts : List Str) : (tupleText ts).length ≤ piled ts + 3 := by
  unfold tupleText
  rw [strLen_append, strLen_append]
  have h1 : (("(" : Str)).length = 1 := by decide +kernel
  have h2 : (((if ts.length == 1 then ",)" else ")" : String) : Str)).length ≤ 2 := by split <;> decide +kernel
  cases ts with
  | nil =>
    have h3 : (Str.join ", " ([] : List Str)).length = 0 := by decide +kernel
    rw [h3]; omega
  | cons t r =>
    have h3 := join_length_add (t :: r) (by simp)
    omega
theorem sh_non : Sh .non 0 4 .none := ⟨rfl, rfl, rfl, Nat.le_refl _, by decide +kernel⟩
theorem shl_nil : ShL [] 0 0 [] := ⟨rfl, rfl, rfl, Nat.le_refl _, Nat.le_refl _⟩
theorem shl_cons {d : D} {ds : List D} {k k' n n' : Nat} {p : PyData} {ps : List PyData} (h : Sh d k n p) (hs : ShL ds k' n' ps) : ShL (d :: ds) (max k k') (n + 2 + n') (p :: ps) := by
  refine ⟨by simp only [toPL, h.eq, hs.eq, Option.bind_some, Option.map_some], by simp only [PyData.showableAll, h.sh, hs.sh, Bool.and_self], by simp only [PyData.hasDictAll, h.nd, hs.nd, Bool.or_self], ?_, ?_⟩
  · have := h.dp; have := hs.dp; simp only [PyData.depthAll]; omega
  · have := h.ln; have := hs.ln; simp only [PyData.shownAll, piled_cons]; omega
theorem sh_lst {ds : List D} {k n : Nat} {ps : List PyData} (h : ShL ds k n ps) : Sh (.lst ds) (k + 1) (n + 2) (.list ps) := by
  refine ⟨by simp only [toP, h.eq, Option.map_some], by simp only [PyData.showable]; exact h.sh, by simp only [PyData.hasDict]; exact h.nd, ?_, ?_⟩
  · have := h.dp; simp only [PyData.depth]; omega
  · have := listText_le (PyData.shownAll ps); have := h.ln; simp only [PyData.shown]; omega
theorem sh_tup {ds : List D} {k n : Nat} {ps : List PyData} (h : ShL ds k n ps) : Sh (.tup ds) (k + 1) (n + 3) (.tuple ps) := by
  refine ⟨by simp only [toP, h.eq, Option.map_some], by simp only [PyData.showable]; exact h.sh, by simp only [PyData.hasDict]; exact h.nd, ?_, ?_⟩
  · have := h.dp; simp only [PyData.depth]; omega
  · have := tupleText_le (PyData.shownAll ps); have := h.ln; simp only [PyData.shown]; omega
theorem repr_lst {ds : List D} {k n : Nat} {p : PyData} (h : Sh (.lst ds) k n p) (hk : k ≤ 64) (hn : n ≤ 16777216) : gRepr (.lst ds) = some (.str p.shown) := by
  have h1 := h.dp; have h2 := h.ln
  have hs : sizeLine = 16777216 := by decide
  simp only [gRepr, h.eq, h.sh, h.nd, Bool.not_false, Bool.and_true, Bool.true_and, Bool.and_eq_true, decide_eq_true_eq]
  rw [if_pos ⟨by omega, by rw [hs]; omega⟩]
theorem repr_tup {ds : List D} {k n : Nat} {p : PyData} (h : Sh (.tup ds) k n p) (hk : k ≤ 64) (hn : n ≤ 16777216) : gRepr (.tup ds) = some (.str p.shown) := by
  have h1 := h.dp; have h2 := h.ln
  have hs : sizeLine = 16777216 := by decide
  simp only [gRepr, h.eq, h.sh, h.nd, Bool.not_false, Bool.and_true, Bool.true_and, Bool.and_eq_true, decide_eq_true_eq]
  rw [if_pos ⟨by omega, by rw [hs]; omega⟩]
end Sr
namespace Sr
variable [TabL]
open PySem hiding start
open PySem.Spec L2
open PyProof.Rows hiding St
def W0 : WX := fun _ _ _ _ => False
theorem takes0 {X : Cx} : L2N.Takes X W0 := fun u s' ⟨a, B, sI, pins, σ, H, cls, d, e, I, nb, up, sky, na, os, ag, w⟩ => w.elim
def wipE : List Nat → En → En
  | [], e => e
  | v :: vs, e => (wipE vs e).set v .no
def rst : List Nat → En → En → En
  | [], _, e2 => e2
  | v :: vs, e1, e2 => (rst vs e1 e2).set v (match e1[v]? with
    | some (.val d) => .val d
    | _ => .no)
theorem wipE_len : ∀ (vs : List Nat) (e : En), (wipE vs e).length = e.length
  | [], _ => rfl
  | v :: vs, e => by unfold wipE; rw [List.length_set, wipE_len vs e]
theorem rst_len : ∀ (vs : List Nat) (e1 e : En), (rst vs e1 e).length = e.length
  | [], _, _ => rfl
  | v :: vs, e1, e => by unfold rst; rw [List.length_set, rst_len vs e1 e]
theorem wipE_get : ∀ {vs : List Nat} {e : En} {j : Nat} {x : Sl}, (wipE vs e)[j]? = some x → x ≠ .no → j ∉ vs ∧ e[j]? = some x
  | [], e, j, x, h, _ => ⟨by simp, h⟩
  | v :: vs, e, j, x, h, n => by
    unfold wipE at h
    by_cases hj : v = j
    · subst hj
      by_cases hl : v < (wipE vs e).length
      · rw [List.getElem?_set_self hl] at h; cases h; exact (n rfl).elim
      · rw [List.getElem?_eq_none (by rw [List.length_set]; omega)] at h; cases h
    · rw [List.getElem?_set_ne hj] at h
      obtain ⟨h1, h2⟩ := wipE_get h n
      exact ⟨by simp only [List.mem_cons, not_or]; exact ⟨fun q => hj q.symm, h1⟩, h2⟩
theorem rst_get : ∀ {vs : List Nat} {e1 e : En} {j : Nat} {x : Sl}, (rst vs e1 e)[j]? = some x → x ≠ .no → (j ∉ vs ∧ e[j]? = some x) ∨ ((∃ d, x = .val d) ∧ e1[j]? = some x)
  | [], e1, e, j, x, h, _ => .inl ⟨by simp, h⟩
  | v :: vs, e1, e, j, x, h, n => by
    unfold rst at h
    by_cases hj : v = j
    · subst hj
      by_cases hl : v < (rst vs e1 e).length
      · rw [List.getElem?_set_self hl] at h
        cases q : e1[v]? with
        | none => rw [q] at h; cases h; exact (n rfl).elim
        | some s =>
          rw [q] at h
          cases s with
          | no => cases h; exact (n rfl).elim
          | own d => cases h; exact (n rfl).elim
          | val d => cases h; exact .inr ⟨⟨d, rfl⟩, rfl⟩
      · rw [List.getElem?_eq_none (by rw [List.length_set]; omega)] at h; cases h
    · rw [List.getElem?_set_ne hj] at h
      rcases rst_get h n with ⟨h1, h2⟩ | h1
      · exact .inl ⟨by simp only [List.mem_cons, not_or]; exact ⟨fun q => hj q.symm, h1⟩, h2⟩
      · exact .inr h1
theorem wipe_get {σ : St} {j : Nat} : ∀ {vs : List Nat}, (wipe σ vs)[j]? = if j ∈ vs ∧ j < σ.length then some none else σ[j]?
  | [] => by simp [wipe]
  | v :: vs => by
    unfold wipe
    by_cases hj : v = j
    · subst hj
      by_cases hl : v < σ.length
      · rw [List.getElem?_set_self (by rw [wipe_length]; exact hl), if_pos ⟨by simp, hl⟩]
      · rw [List.getElem?_eq_none (by rw [List.length_set, wipe_length]; omega), if_neg (fun z => hl z.2), List.getElem?_eq_none (by omega)]
    · rw [List.getElem?_set_ne hj, wipe_get (vs := vs)]
      have : j ∈ v :: vs ↔ j ∈ vs := by simp only [List.mem_cons]; exact ⟨fun z => z.elim (fun q => (hj q.symm).elim) id, .inr⟩
      simp only [this]
theorem wipe_set {σ : St} {i : Nat} {x : Option V} {vs : List Nat} (h : i ∈ vs) : wipe (σ.set i x) vs = wipe σ vs := by
  refine List.ext_getElem? fun j => ?_
  rw [wipe_get, wipe_get, List.length_set]
  by_cases hj : j ∈ vs ∧ j < σ.length
  · rw [if_pos hj, if_pos hj]
  · rw [if_neg hj, if_neg hj]
    by_cases hij : i = j
    · subst hij
      have : ¬ i < σ.length := fun z => hj ⟨h, z⟩
      rw [List.getElem?_eq_none (by rw [List.length_set]; omega), List.getElem?_eq_none (by omega)]
    · rw [List.getElem?_set_ne hij]
section
variable {K : PySem.W.Frag} {mg : Str → Option Value} {T : Pn} {W : WX} {e e0 e1 e2 : En} {σ σ0 : St} {H F H0 F0 H1 F1 F2 : Hp} {p : Addr} {o : HO} {vs : List Nat}
theorem Mv.updNew (m : Mv e0 σ0 H0 F0 e σ H F) (n : H0 p = none) : Mv e0 σ0 H0 F0 e σ (upd H p o) F := by
  refine ⟨m.sub, fun a u h w => ?_, m.new, fun a h => ?_⟩
  · obtain ⟨h1, h2⟩ := m.keep a u h w
    exact ⟨fun zz => by rw [upd_ne (ne_of_none h n)]; exact h1 zz, h2⟩
  · by_cases ha : a = p
    · subst ha; exact n
    · rw [upd_ne ha] at h; exact m.there a h
theorem ER.updFree (er : ER K mg T e σ H F) (n : F p = none) (w : ¬ Ow e σ p) (hx : ∀ u, H p = some u → NTb u ∧ ∀ φ, u ≠ .ext φ := by first | exact uf_none (by assumption) | exact uf_some (by assumption) (by intro _ z; cases z) (by intro _ z; cases z) | exact uf_some upd_same (by intro _ z; cases z) (by intro _ z; cases z)) (no : NTb o := by first | assumption | (intro _ z; exact nomatch z) | (intro _ z; cases z)) : ER K mg T e σ (upd H p o) F := by
  refine ⟨fun b u q => ?_, er.val, fun i d h => ?_, er.inj, er.len, er.pin, er.tb.upW (fun ps z => (hx _ z).1 ps rfl) (fun q z => (hx _ z).2 _ rfl) no⟩
  · rw [upd_ne (ne_of_none q n)]; exact er.sub b u q
  · obtain ⟨q, h1, h2, h3⟩ := er.own i d h
    refine ⟨q, h1, h2, h3.keep (Same.refl _) fun u hu => ?_⟩
    rw [upd_ne]; exact hu
    rintro rfl
    exact w ⟨i, d, h, h1⟩
theorem ER.wip (er : ER K mg T e σ H F) (hT : ∀ v ∈ vs, NoP T v) : ER K mg T (wipE vs e) (wipe σ vs) H F ∧ Mv e σ H F (wipE vs e) (wipe σ vs) H F := by
  have ow : ∀ a, Ow (wipE vs e) (wipe σ vs) a → Ow e σ a := fun a ⟨j, d, h1, h2⟩ => by
    obtain ⟨h3, h4⟩ := wipE_get h1 (fun z => nomatch z)
    rw [wipe_out h3] at h2
    exact ⟨j, d, h4, h2⟩
  refine ⟨⟨er.sub, fun i d h => ?_, fun i d h => ?_, fun i j q d d' h1 h2 h3 h4 => ?_, by rw [wipE_len, wipe_length]; exact er.len, fun q hq => ?_, er.tb⟩, Same.refl _, fun a u h n => ⟨fun _ => h, fun z => n (ow a z)⟩, fun a u h => .inl h, fun a h => h⟩
  · obtain ⟨h1, h2⟩ := wipE_get h (fun z => nomatch z)
    obtain ⟨v, h3, h4⟩ := er.val i d h2
    exact ⟨v, by rw [wipe_out h1]; exact h3, h4⟩
  · obtain ⟨h1, h2⟩ := wipE_get h (fun z => nomatch z)
    obtain ⟨v, h3, h4⟩ := er.own i d h2
    exact ⟨v, by rw [wipe_out h1]; exact h3, h4⟩
  · obtain ⟨g1, g2⟩ := wipE_get h1 (fun z => nomatch z)
    obtain ⟨g3, g4⟩ := wipE_get h2 (fun z => nomatch z)
    rw [wipe_out g1] at h3; rw [wipe_out g3] at h4
    exact er.inj i j q d d' g2 g4 h3 h4
  · rw [wipe_out (fun z => hT _ z q hq rfl)]; exact er.pin q hq
theorem ER.rst (er : ER K mg T e2 (wipe σ vs) H F2) (er1 : ER K mg T e1 σ H1 F1) (mv : Mv e1 σ H1 F1 e2 (wipe σ vs) H F2) (hl : e2.length = e1.length) : ER K mg T (Sr.rst vs e1 e2) σ H F2 ∧ Mv e1 σ H1 F1 (Sr.rst vs e1 e2) σ H F2 := by
  have ow : ∀ j d, (Sr.rst vs e1 e2)[j]? = some (.own d) → j ∉ vs ∧ e2[j]? = some (.own d) := fun j d h => by
    rcases rst_get h (fun z => nomatch z) with h1 | ⟨⟨d', h1⟩, _⟩
    · exact h1
    · cases h1
  refine ⟨⟨er.sub, fun i d h => ?_, fun i d h => ?_, fun i j q d d' h1 h2 h3 h4 => ?_, by rw [rst_len, hl]; exact er1.len, er1.pin, er.tb⟩, mv.sub, fun a u h n => ?_, mv.new, mv.there⟩
  · rcases rst_get h (fun z => nomatch z) with ⟨h1, h2⟩ | ⟨_, h2⟩
    · obtain ⟨v, h3, h4⟩ := er.val i d h2
      exact ⟨v, by rw [wipe_out h1] at h3; exact h3, h4⟩
    · obtain ⟨v, h3, h4⟩ := er1.val i d h2
      exact ⟨v, h3, Rp.mono mv.sub _ _ h4⟩
  · obtain ⟨h1, h2⟩ := ow i d h
    obtain ⟨v, h3, h4⟩ := er.own i d h2
    exact ⟨v, by rw [wipe_out h1] at h3; exact h3, h4⟩
  · obtain ⟨g1, g2⟩ := ow i d h1
    obtain ⟨g3, g4⟩ := ow j d' h2
    exact er.inj i j q d d' g2 g4 (by rw [wipe_out g1]; exact h3) (by rw [wipe_out g3]; exact h4)
  · obtain ⟨h1, h2⟩ := mv.keep a u h n
    refine ⟨h1, fun ⟨j, d, q1, q2⟩ => h2 ?_⟩
    obtain ⟨g1, g2⟩ := ow j d q1
    exact ⟨j, d, g2, by rw [wipe_out g1]; exact q2⟩
end
def TH (K : PySem.W.Frag) (mg : Str → Option Value) (T : Pn) (vs : List Nat) (w : D → M Unit) : TG := fun v σ H Q => ∃ e F d, ER K mg T e σ H F ∧ Rp K mg F d v ∧
  match w d e with
  | .ok _ e' => ∀ σ' H' F', ER K mg T e' σ' H' F' → Mv e σ H F e' σ' H' F' → wipe σ' vs = wipe σ vs → Q σ' H'
  | _ => False
def THs (K : PySem.W.Frag) (mg : Str → Option Value) (T : Pn) (vs : List Nat) (w : List D → M Unit) : TGs := fun us σ H Q => ∃ e F ds, ER K mg T e σ H F ∧ RpL K mg F ds us ∧
  match w ds e with
  | .ok _ e' => ∀ σ' H' F', ER K mg T e' σ' H' F' → Mv e σ H F e' σ' H' F' → wipe σ' vs = wipe σ vs → Q σ' H'
  | _ => False
abbrev JH (X : Cx) (T : Pn) (vs : List Nat) (tg : Expr) (w : D → M Unit) : Prop := PG X tg (TH X.K X.mg T vs w)
abbrev JHs (X : Cx) (T : Pn) (vs : List Nat) (tg : List Expr) (w : List D → M Unit) : Prop := PGs X tg (THs X.K X.mg T vs w)
def lcL (w : D → M Unit) (t : M Bool) (el : M D) (vs : List Nat) : List D → List D → M (List D)
  | [], acc => ret acc
  | d :: ds, acc => bnd (w d) fun _ => bnd t fun b => if b = true then bnd el fun y => (if acc.length < sizeLine then fun e => lcL w t el vs ds (acc ++ [y]) (wipE vs e) else fun _ => .bad) else fun e => lcL w t el vs ds acc (wipE vs e)
def mLc (vs : List Nat) (m : M (List D)) (w : D → M Unit) (t : M Bool) (el : M D) : M D := bnd m fun ds e1 => match lcL w t el vs ds [] (wipE vs e1) with
  | .ok acc e2 => .ok (.lst acc) (rst vs e1 e2)
  | _ => .bad
def mYes : M Bool := ret true
theorem bnd_inv {A B : Type} {m : M A} {f : A → M B} {e e2 : En} {b : B} (h : bnd m f e = .ok b e2) : ∃ a e1, m e = .ok a e1 ∧ f a e1 = .ok b e2 := by
  unfold bnd at h
  cases q : m e with
  | ok a e1 => rw [q] at h; exact ⟨a, e1, rfl, h⟩
  | exc x e1 => rw [q] at h; cases h
  | bad => rw [q] at h; cases h
section
variable {X : Cx} {T : Pn} {W : WX} {pos : Pos}
theorem jh_name {i : Nat} {x : Str} {vs : List Nat} (hT : NoP T i) (hN : X.N.Nodup) (hi : X.N[i]? = some x) (hx : Loc X.env.scope x) (hm : i ∈ vs) (hf : X.fn x = true ∨ X.env.scope.names.lookup x = some .local := by first | exact .inl rfl | exact .inr rfl | assumption) : JH X T vs (.Name x pos) (gN i) := by
  refine ⟨fun pins s σ H v u Q I r h => (pg_name hN hi hx hf).run pins s σ H v u Q I r ?_⟩
  obtain ⟨e, F, d, er, rd, h⟩ := h
  obtain ⟨er2, mv2⟩ := er.setV hT rd
  exact h _ H F er2 mv2 (wipe_set hm)
theorem jhs_nil {vs : List Nat} : JHs X T vs [] gsN := by
  refine ⟨fun pins s σ H us u Q I r h => pgs_nil.run pins s σ H us u Q I r ?_⟩
  obtain ⟨e, F, ds, er, rd, h⟩ := h
  cases ds with
  | nil => rw [rl_nil] at rd; exact ⟨rd, h σ H F er Mv.refl rfl⟩
  | cons d ds => exact h.elim
theorem jhs_cons {e : Expr} {es : List Expr} {vs : List Nat} {w : D → M Unit} {ws : List D → M Unit} (h1 : JH X T vs e w) (h2 : JHs X T vs es ws)
    (hs : (assignEach (e :: es) X.env).map (·.2) = assign e X.env :: (assignEach es X.env).map (·.2) := by rfl) : JHs X T vs (e :: es) (gsC w ws) := by
  refine ⟨fun pins s σ H us u Q I r h => (pgs_cons h1 h2 hs).run pins s σ H us u Q I r ?_⟩
  obtain ⟨e, F, ds, er, rd, h⟩ := h
  cases ds with
  | nil => exact h.elim
  | cons d ds =>
    rw [rl_cons] at rd
    obtain ⟨v, us, rfl, rd, rl⟩ := rd
    refine ⟨v, us, rfl, e, F, d, er, rd, ?_⟩
    simp only [gsC, bnd] at h
    cases q : w d e with
    | ok u e1 =>
      rw [q] at h
      dsimp only at h ⊢
      intro σ1 H1 F1 er1 mv1 w1
      refine ⟨e1, F1, ds, er1, RpL.mono mv1.sub _ _ rl, ?_⟩
      cases q2 : ws ds e1 with
      | ok u e2 => rw [q2] at h; exact fun σ' H' F' er' mv' w2 => h σ' H' F' er' (mv1.trans mv') (w2.trans w1)
      | exc x e2 => rw [q2] at h; exact h
      | bad => rw [q2] at h; exact h
    | exc x e1 => rw [q] at h; exact h
    | bad => rw [q] at h; exact h
theorem jh_tup {es : List Expr} {k : Nat} {vs : List Nat} {ws : List D → M Unit} {n : Nat} (hc : X.calm = true) (h : JHs X T vs es ws)
    (hn : (assignEach es X.env).length = n := by rfl) (hst : (assignEach es X.env).findIdx? (·.1) = none := by rfl) : JH X T vs (.Tuple es k pos) (gT n ws) := by
  refine ⟨fun pins s σ H v u Q I r q => (pg_tup hc h hn hst).run pins s σ H v u Q I r ?_⟩
  obtain ⟨e, F, d, er, rd, q⟩ := q
  unfold gT at q
  split at q
  · rename_i u e' hh
    split at hh
    · rename_i ds
      rw [rp_tup] at rd
      obtain ⟨a, xs, rfl, rd, rl⟩ := rd
      split at hh
      · rename_i hl
        refine ⟨a, xs, rfl, seqT_mono er.sub rd, by rw [← rl.len]; exact hl, e, F, ds, er, rl, ?_⟩
        rw [hh]; exact q
      · cases hh
    · rename_i ds
      rw [rp_ct] at rd
      obtain ⟨a, xs, rfl, rd, rl⟩ := rd
      split at hh
      · rename_i hl
        refine ⟨a, xs, rfl, seqC_mono er.sub rd, by rw [← rl.len]; exact hl, e, F, ds, er, rl, ?_⟩
        rw [hh]; exact q
      · cases hh
    · cases hh
  · exact q.elim
abbrev JTs (X : Cx) (T : Pn) (W : WX) (ifs : List Expr) (m : M Bool) : Prop := PTs X ifs (TT' X.K X.mg T W m)
theorem jts_nil : JTs X T W [] mYes := ⟨fun pins s σ H Q I ⟨e, F, er, h⟩ => pts_nil.run pins s σ H Q I (h H F er Mv.refl)⟩
theorem jts_one {c : Expr} {t : M Bool} (h : JT X T W c t) : JTs X T W [c] t := pts_one h
theorem lc_imp {vs : List Nat} {m : M (List D)} {w : D → M Unit} {t : M Bool} {el : M D} {σ : St} {H : Hp} {Q : VK} (hT : ∀ v ∈ vs, NoP T v) (h : TO X.K X.mg T W (mLc vs m w t el) σ H Q) : tLc (TIt X.K X.mg T W m) (TH X.K X.mg T vs w) (TT' X.K X.mg T W0 t) (TV X.K X.mg T W0 el) vs σ H Q := by
  obtain ⟨e, F, er, h⟩ := h
  refine ⟨e, F, er, h.bind.mono fun ds e1 H1 F1 er1 mv1 h1 J wk D hD => ?_⟩
  obtain ⟨G, Y, wlk, hG, hY⟩ := wk
  unfold RunAt at h1
  cases q : lcL w t el vs ds [] (wipE vs e1) with
  | exc x e2 => simp only [q] at h1
  | bad => simp only [q] at h1
  | ok acc eF =>
    simp only [q] at h1
    obtain ⟨erw, mvw⟩ := er1.wip (vs := vs) hT
    have fD : F1 D = none := er1.sub.free hD
    have nD : ¬ Ow (wipE vs e1) (wipe σ vs) D := Ow.ne_of_free erw hD
    refine lc_it wlk (fun i H' => ∃ e2 F2 ac xs, ER X.K X.mg T e2 (wipe σ vs) H' F2 ∧ Mv e1 σ H1 F1 e2 (wipe σ vs) H' F2 ∧ F2 D = none ∧ ¬ Ow e2 (wipe σ vs) D ∧ H' D = some (.lst xs) ∧ RpL X.K X.mg F2 ac xs ∧ lcL w t el vs (ds.drop i) ac e2 = .ok acc eF)
      ⟨wipE vs e1, F1, [], [], erw.updFree fD nD, mvw.updNew hD, fD, nD, upd_same, by rw [rl_nil], q⟩ (fun i H' _ ⟨e2, F2, ac, xs, er2, mv2, _⟩ => hG H' (mv2.sub.trans er2.sub)) ?_ ?_
    · rintro i x H2 H3 hi ⟨e2, F2, ac, xs, er2, mv2, fD2, nD2, hD2, rl2, q2⟩ y
      obtain ⟨F3, d, al, hd, rd⟩ := hY i H2 F2 x H3 hi mv2.sub er2.sub y
      have er3 := er2.al al
      have mv3 := mv2.trans (Mv.al er2 al)
      have keepD : ∀ {e4 : En} {σ4 : St} {H4 F4 : Hp}, Mv e2 (wipe σ vs) H2 F2 e4 σ4 H4 F4 → H4 D = some (.lst xs) ∧ ¬ Ow e4 σ4 D ∧ F4 D = none := fun {e4 σ4 H4 F4} mv => by
        obtain ⟨k1, k2⟩ := mv.keep D _ hD2 nD2
        refine ⟨k1 (by first | assumption | (intro _ z; exact nomatch z) | (intro _ z; cases z)), k2, ?_⟩
        cases z : F4 D with
        | none => rfl
        | some u =>
          rcases mv.new D u z with z | z | z
          · rw [fD2] at z; cases z
          · rw [hD2] at z; cases z
          · exact (nD2 z).elim
      have hdr : ds.drop i = d :: ds.drop (i + 1) := by
        rw [List.drop_eq_getElem_cons hi]
        have : ds[i] = d := by rw [List.getElem?_eq_getElem hi] at hd; exact Option.some.inj hd
        rw [this]
      rw [hdr] at q2
      unfold lcL at q2
      obtain ⟨_, e4, w4, q2⟩ := bnd_inv q2
      obtain ⟨b, e5, t5, q2⟩ := bnd_inv q2
      refine ⟨e2, F3, d, er3, rd, ?_⟩
      rw [w4]
      intro σ4 H4 F4 er4 mv4 ws
      refine ⟨ws.trans (by refine List.ext_getElem? fun j => ?_; rw [wipe_get, wipe_get, wipe_length]; by_cases hj : j ∈ vs ∧ j < σ.length <;> simp only [hj, if_true, if_false, and_self]), e4, F4, er4, RunAt.of t5 fun H5 F5 er5 mv5 => ?_⟩
      cases b with
      | false =>
        rw [if_neg (by decide)] at q2 ⊢
        have mm := ((Mv.al er2 al).trans mv4).trans mv5
        obtain ⟨k1, k2, k3⟩ := keepD mm
        obtain ⟨er6, mv6⟩ := er5.wip (vs := vs) hT
        have wz : wipe σ4 vs = wipe σ vs := ws.trans (by refine List.ext_getElem? fun j => ?_; rw [wipe_get, wipe_get, wipe_length]; by_cases hj : j ∈ vs ∧ j < σ.length <;> simp only [hj, if_true, if_false, and_self])
        rw [wz] at er6 mv6
        have mm2 := mm.trans mv6
        obtain ⟨_, k2', _⟩ := keepD mm2
        exact ⟨_, F5, ac, xs, er6, mv2.trans mm2, k3, k2', k1, RpL.mono mm.sub _ _ rl2, q2⟩
      | true =>
        rw [if_pos rfl] at q2 ⊢
        obtain ⟨y', e6, el6, q2⟩ := bnd_inv q2
        refine ⟨e5, F5, er5, RunAt.of el6 fun H6 F6 er6 mv6 v hv => ?_⟩
        have mm := (((Mv.al er2 al).trans mv4).trans mv5).trans mv6
        obtain ⟨k1, k2, k3⟩ := keepD mm
        split at q2
        · rename_i hz
          obtain ⟨er7, mv7⟩ := er6.wip (vs := vs) hT
          have wz : wipe σ4 vs = wipe σ vs := ws.trans (by refine List.ext_getElem? fun j => ?_; rw [wipe_get, wipe_get, wipe_length]; by_cases hj : j ∈ vs ∧ j < σ.length <;> simp only [hj, if_true, if_false, and_self])
          rw [wz] at er7 mv7
          have mm2 := mm.trans mv7
          obtain ⟨_, k2', _⟩ := keepD mm2
          have rl6 := RpL.mono mm.sub _ _ rl2
          refine ⟨xs, k1, by rw [← rl2.len]; exact hz, _, F6, ac ++ [y'], xs ++ [v], er7.updFree k3 k2', (mv2.trans mm2).updNew hD, k3, k2', upd_same, rl6.append (by rw [rl_cons]; exact ⟨v, [], rfl, hv, by rw [rl_nil]⟩), q2⟩
        · cases q2
    · rintro H2 ⟨e2, F2, ac, xs, er2, mv2, fD2, nD2, hD2, rl2, q2⟩
      rw [List.drop_length] at q2
      have hl : e2.length = e1.length := by rw [er2.len, wipe_length, er1.len]
      cases q2
      obtain ⟨er3, mv3⟩ := er2.rst er1 mv2 hl
      refine h1 H2 F2 er3 mv3 D (mv1.there D hD) fD2 (fun z => nD2 (by
        obtain ⟨j, d, q1, q2⟩ := z
        rcases rst_get q1 (fun z => nomatch z) with ⟨g1, g2⟩ | ⟨⟨d', g1⟩, _⟩
        · exact ⟨j, d, g2, by rw [wipe_out g1]; exact q2⟩
        · cases g1)) ⟨xs, hD2, rl2⟩
theorem to_tv {K : PySem.W.Frag} {mg : Str → Option Value} {m : M D} {σ : St} {H : Hp} {Q : VK} (h : TV K mg T W m σ H Q) : TO K mg T W m σ H Q := by
  obtain ⟨e, F, er, q⟩ := h
  refine ⟨e, F, er, ?_⟩
  unfold RunAt at q ⊢
  cases z : m e with
  | ok d e1 =>
    rw [z] at q
    intro H' F' er' mv' p hp fp np ow
    obtain ⟨o, ho⟩ := ow.there
    refine q H' (upd F' p o) (er'.freeze fp np ho (ow.nt ho)) ⟨mv'.sub.trans (same_upd fp), mv'.keep, fun a u ha => ?_, mv'.there⟩ _ (ow.rp fp ho)
    by_cases hb : a = p
    · subst hb; exact .inr (.inl hp)
    · rw [upd_ne hb] at ha; exact mv'.new a u ha
  | exc x e1 => rw [z] at q; exact q
  | bad => rw [z] at q; exact q
theorem Pl.blk {k : Nat} {s : Shared} {H : Hp} {scope : Scope} {en : Env} {fp : List Addr} (h : Pl X k) : Pl (X.blk s H scope en fp) k := ⟨h.room, h.gu⟩
section
variable {elt tg iter : Expr} {ifs : List Expr} {scope : Scope} {m : M (List D)} {w : D → M Unit} {t : M Bool} {el : M D} {k : Nat}
theorem jo_lc (own : List (Str × Nat)) (hp : Pl X k) (hc : X.calm = true) (hN : X.N.Nodup) (hT : ∀ v ∈ own.map (·.2), NoP T v) (ok : BlkOk X.N X.env.scope scope own) (hi : JI X T W tg iter m)
    (hg : ∀ (s : Shared) (H : Hp) (C : Addr) (cl : List (Str × Addr)) (fp : List Addr), Pl (X.blk s H scope (compEnvC scope cl C X.env) fp) k → JH (X.blk s H scope (compEnvC scope cl C X.env) fp) T (own.map (·.2)) tg w)
    (ht : ∀ (s : Shared) (H : Hp) (C : Addr) (cl : List (Str × Addr)) (fp : List Addr), Pl (X.blk s H scope (compEnvC scope cl C X.env) fp) k → JTs (X.blk s H scope (compEnvC scope cl C X.env) fp) T W0 ifs t)
    (he : ∀ (s : Shared) (H : Hp) (C : Addr) (cl : List (Str × Addr)) (fp : List Addr), Pl (X.blk s H scope (compEnvC scope cl C X.env) fp) k → JV (X.blk s H scope (compEnvC scope cl C X.env) fp) T W0 elt el) (hs : ∀ x, foldedSetIterable iter X.env x = pure x := by intro _; rfl) :
    JO X T W (.ListComp elt [⟨tg, iter, ifs, 0⟩] scope pos) (mLc (own.map (·.2)) m w t el) :=
  PEimp (pe_lc (g := TH X.K X.mg T (List.map (fun q : Str × Nat => q.2) own) w) (tt := TT' X.K X.mg T W0 t) (te := TV X.K X.mg T W0 el) hc hN hi ok (fun s H C cl fp => hg s H C cl fp hp.blk) (fun s H C cl fp => ht s H C cl fp hp.blk) (fun s H C cl fp => he s H C cl fp hp.blk) hs) fun σ H Q h => lc_imp hT h
theorem js_setLc {i : Nat} {y : Str} {py spos : Pos} (own : List (Str × Nat)) (hp : Pl X k) (hc : X.calm = true) (hN : X.N.Nodup) (hT : ∀ v ∈ own.map (·.2), NoP T v) (ok : BlkOk X.N X.env.scope scope own) (hTi : NoP T i) (hy : X.N[i]? = some y) (hyl : X.env.scope.names.lookup y = some .local)
    (hsw : swapsWith (.ListComp elt [⟨tg, iter, ifs, 0⟩] scope pos) (some (.Name y py)) spos.line X.env = pure true) (hi : JI X T W tg iter m)
    (hg : ∀ (s : Shared) (H : Hp) (C : Addr) (cl : List (Str × Addr)) (fp : List Addr), Pl (X.blk s H scope (compEnvC scope cl C X.env) fp) k → JH (X.blk s H scope (compEnvC scope cl C X.env) fp) T (own.map (·.2)) tg w)
    (ht : ∀ (s : Shared) (H : Hp) (C : Addr) (cl : List (Str × Addr)) (fp : List Addr), Pl (X.blk s H scope (compEnvC scope cl C X.env) fp) k → JTs (X.blk s H scope (compEnvC scope cl C X.env) fp) T W0 ifs t)
    (he : ∀ (s : Shared) (H : Hp) (C : Addr) (cl : List (Str × Addr)) (fp : List Addr), Pl (X.blk s H scope (compEnvC scope cl C X.env) fp) k → JV (X.blk s H scope (compEnvC scope cl C X.env) fp) T W0 elt el) (hs : ∀ x, foldedSetIterable iter X.env x = pure x := by intro _; rfl) :
    JS X T W (.Assign [.Name y py] (.ListComp elt [⟨tg, iter, ifs, 0⟩] scope pos) spos) (sSet i (mLc (own.map (·.2)) m w t el)) :=
  PSimp (ps_setLc (g := TH X.K X.mg T (List.map (fun q : Str × Nat => q.2) own) w) (tt := TT' X.K X.mg T W0 t) (te := TV X.K X.mg T W0 el) hc hN hy hyl hsw hi ok (fun s H C cl fp => hg s H C cl fp hp.blk) (fun s H C cl fp => ht s H C cl fp hp.blk) (fun s H C cl fp => he s H C cl fp hp.blk) hs) fun Dn σ H h => lc_imp hT (to_tv (run_set hTi h))
end
end
end Sr
namespace Sr
variable [TabL]
open PySem hiding start
open PySem.Spec L2
open PyProof.Rows hiding St
structure Rai (K : PySem.W.Frag) (mg : Str → Option Value) (x : Str) : Prop where
  g : mg x = some (.ref (He.ga K x))
  q : PySem.W.excIn K (He.ga K x) He.veBase "ValueError.__new__" = true
  k : PySem.W.keepIn K (.ref (He.ga K x)) = true
  s : PySem.W.subIn K (.ref (He.ga K x)) (.type "BaseException") = some true
  t : PySem.W.typeIn K (.ref (He.ga K x)) = some (.type "type")
theorem rai_of {K : PySem.W.Frag} {mg : Str → Option Value} {x : Str} (g : mg x = some (.ref (He.ga K x))) (c : (He.Fa.exc x).ok K = true) : Rai K mg x := by
  obtain ⟨h1, h2, h3, h4⟩ := He.exc_ok c
  exact ⟨g, h1, h2, h3, h4⟩
def sRaise (x : Str) : M Fl := fun e => .exc ⟨x, []⟩ e
section
variable {X : Cx} {T : Pn} {W : WX} {pos : Pos}
theorem js_raise {x m : Str} {j : Nat} {p p2 pos' : Pos} (hc : X.calm = true) (tk : L2N.Takes X W) (R : Rai X.K X.mg x) (hg : Gl X x) (hdb : (x == ("__debug__" : Str)) = false := by decide) :
    JS X T W (.Raise (some (.Call (.Name x p) [.Constant (.str m) j p2] [] pos')) none pos) (sRaise x) :=
  PSimp (L2N.ps_raise hc tk (L2N.pmk_own PySem.F.excBase_ValueError R.q R.g R.k (raises_own R.s R.t) hg hdb)) fun Dn σ H ⟨e, F, er, h⟩ => h σ H F _ none er Mv.refl ⟨R.g, .inl ⟨rfl, rfl⟩⟩
end
section
variable {K : PySem.W.Frag} {mg : Str → Option Value} {T : Pn} {e : En} {σ : St} {H F : Hp} {i : Nat}
theorem ER.pinned {a : Addr} (er : ER K mg T e σ H F) (h : σ[i]? = some (some (.ref a))) : ER K mg ((i, a) :: T) e σ H F := ⟨er.sub, er.val, er.own, er.inj, er.len, fun q hq => by
  rcases List.mem_cons.mp hq with rfl | hq
  · exact h
  · exact er.pin q hq, er.tb⟩
end
section
variable {X : Cx} {T : Pn} {W : WX} {pos : Pos} {k : Nat}
theorem Pl.tr {pn : List (Addr × Obj)} {xe : Value → Shared → Prop} (h : Pl X k) : Pl (X.tr pn xe) k := ⟨h.room, h.gu⟩
end
end Sr
namespace Sr
variable [TabL]
open PySem hiding start
open PySem.Spec L2
open PyProof.Rows hiding St
section
variable {K : PySem.W.Frag} {mg : Str → Option Value} {F : Hp}
def cutD (ds : List D) (lo hi : Option Int) : List D := (ds.drop (HT.sIx ds.length 0 lo)).take (HT.sIx ds.length ds.length hi - HT.sIx ds.length 0 lo)
theorem RpL.cut {ds : List D} {xs : List V} (h : RpL K mg F ds xs) (lo hi : Option Int) : RpL K mg F (cutD ds lo hi) (cutV xs lo hi) := by
  unfold cutD cutV
  rw [h.len]
  exact (h.drop _).take _
end
def gSl : D → Option Int → Option Int → Option D
  | .lst ds, lo, hi => some (.lst (cutD ds lo hi))
  | .tup ds, lo, hi => some (.tup (cutD ds lo hi))
  | .str z, lo, hi => if z.length ≤ sizeLine then some (.str (cutS z lo hi)) else none
  | _, _, _ => none
def mSl (m : M D) (ml mh : M (Option Int)) : M D := bnd m fun d => bnd ml fun l => bnd mh fun h => opt (gSl d l h)
def mNoP : M (Option Int) := ret none
def asI : D → Option (Option Int)
  | .int i => some (some i)
  | _ => none
def mPart (m : M D) : M (Option Int) := bnd m fun d => opt (asI d)
def TPt (K : PySem.W.Frag) (mg : Str → Option Value) (T : Pn) (W : WX) (m : M (Option Int)) : L2.TO := fun σ H Q => ∃ e F, ER K mg T e σ H F ∧ RunAt K mg T W e F m σ H fun o _ H' F' => Q o H'
abbrev JP (X : Cx) (T : Pn) (W : WX) (e : Option Expr) (m : M (Option Int)) : Prop := PO X e (TPt X.K X.mg T W m)
theorem POimp {X : Cx} {e : Option Expr} {t t' : L2.TO} (h : PO X e t) (k : ∀ σ H Q, t' σ H Q → t σ H Q) : PO X e t' := ⟨fun pins s σ H Q I q => h.run pins s σ H Q I (k σ H Q q)⟩
section
variable {X : Cx} {T : Pn} {W : WX} {pos p2 : Pos} {a : Expr} {ma : M D} {lo hi : Option Expr} {ml mh : M (Option Int)}
theorem jp_none : JP X T W none mNoP := POimp po_none fun σ H Q ⟨e, F, er, h⟩ => h.rfin er H F Al.refl
theorem jp_some (ha : JV X T W a ma) : JP X T W (some a) (mPart ma) := by
  refine POimp (po_some ha) fun σ H Q ⟨e, F, er, h⟩ => ⟨e, F, er, h.bind.mono fun d e1 H1 F1 er1 mv1 h1 v hv => ?_⟩
  obtain ⟨z, hz, fin⟩ := h1.fin er1
  unfold asI at hz
  split at hz
  · cases hz
    rw [rp_int] at hv
    exact ⟨_, hv, fin H1 F1 Al.refl⟩
  · cases hz
theorem jv_slice (ha : JV X T W a ma) (hl : JP X T W lo ml) (hh : JP X T W hi mh) : JV X T W (.Subscript a (.Slice lo hi none p2) pos) (mSl ma ml mh) := by
  refine PEimp (pe_slice (sl_list.or (sl_tupA.or sl_str)) ha hl hh) fun σ H Q ⟨e, F, er, h⟩ => ⟨e, F, er, h.bind.mono fun d e1 H1 F1 er1 mv1 h1 v hv => ⟨e1, F1, er1, h1.bind.mono fun l e2 H2 F2 er2 mv2 h2 => ⟨e2, F2, er2, h2.bind.mono fun u e3 H3 F3 er3 mv3 h3 => ?_⟩⟩⟩
  obtain ⟨z, hz, fin⟩ := h3.fin er3
  have hv := Rp.mono (mv2.sub.trans mv3.sub) _ _ hv
  cases d with
  | lst ds =>
    cases hz
    rw [rp_lst] at hv
    obtain ⟨b, xs, rfl, hb, lr⟩ := hv
    refine .inl ⟨b, xs, rfl, SqL.of (er3.sub _ _ hb), fun p hp => fin _ _ (Al.one hp) _ ?_⟩
    rw [rp_lst]
    exact ⟨p, _, rfl, upd_same, RpL.mono (same_upd (er3.sub.free hp)) _ _ (lr.cut _ _)⟩
  | tup ds =>
    cases hz
    rw [rp_tup] at hv
    obtain ⟨b, xs, rfl, hb, lr⟩ := hv
    refine .inr (.inl ⟨b, xs, rfl, seqT_mono er3.sub hb, fun hw => fin _ _ Al.refl _ ?_, fun hw p hp => fin _ _ (Al.one hp) _ ?_⟩)
    · rw [rp_tup]
      refine ⟨b, xs, rfl, hb, ?_⟩
      have e : cutD ds l u = ds := by
        unfold cutD
        rw [lr.len, hw.1, hw.2, List.drop_zero, Nat.sub_zero, ← lr.len, List.take_length]
      rw [e]; exact lr
    · rw [rp_tup]
      exact ⟨p, _, rfl, upd_same, RpL.mono (same_upd (er3.sub.free hp)) _ _ (lr.cut _ _)⟩
  | str z =>
    simp only [gSl] at hz
    split at hz
    · cases hz
      rename_i hzl
      rw [rp_str] at hv
      exact .inr (.inr ⟨z, hv, hzl, fin _ _ Al.refl _ (by rw [rp_str])⟩)
    · cases hz
  | _ => cases hz
end
end Sr
namespace Sr
variable [TabL]
open PySem hiding start
open PySem.Spec L2
open PyProof.Rows hiding St
def MtD (X : Cx) (id : String) (g : Str → List D → Option D) : Prop :=
  ∀ (H F : Hp) (a : Str) (xs : List V) (ds : List D) (d : D), Same F H → RpL X.K X.mg F ds xs → g a ds = some d →
    ∃ r, MtR X id r ∧ ∀ Q : VK, (∀ H' F' z, Al H F H' F' → Rp X.K X.mg F' d z → Q z H') → r (.str a) xs H Q
def rAnyM (X : Cx) (id : String) : V → List V → Hp → VK → Prop := fun x xs H Q => ∃ r, MtR X id r ∧ r x xs H Q
theorem mtAny {X : Cx} {id : String} : MtR X id (rAnyM X id) := fun pins s σ H x xs v us Q I rx rxs ⟨r, hr, q⟩ => hr pins s σ H x xs v us Q I rx rxs q
def asS : D → Option Str
  | .str z => some z
  | _ => none
def mMt (g : Str → List D → Option D) (m : M D) (ms : M (List D)) : M D := bnd m fun d => bnd (opt (asS d)) fun a => bnd ms fun ds => opt (g a ds)
section
variable {X : Cx} {T : Pn} {W : WX} {o e : Expr} {es : List Expr} {mo : M D} {ms : M (List D)} {name : Str} {apos cpos : Pos} {id : String} {g : Str → List D → Option D}
theorem jv_mt (slot : Slot "str" name id) (hty : typeOf (.builtin id) = pure (.type "method_descriptor")) (hm : MtD X id g) (ho : JV X T W o mo) (ha : JA X T W (e :: es) ms)
    (hbase : attributeBase o name X.env (eval o X.env) = eval o X.env := by rfl)
    (hfew : ((backTo cpos (starEach (e :: es) X.env)).all (fun x => !x.1) && (backToKw cpos (keywordEach [] X.env)).all (fun x => x.1.isSome)
      && decide ((e :: es).length + ([] : List Keyword).length + (if ([] : List Keyword).isEmpty then 0 else 1) < 30)) = true := by rfl)
    (hline : (apos.endLine == cpos.line) = true := by rfl) (hs : starEach (e :: es) X.env = (false, eval e X.env) :: starEach es X.env := by rfl) (hplain : (backTo cpos (starEach es X.env)).any (·.1) = false := by rfl) :
    JV X T W (.Call (.Attribute o name apos) (e :: es) [] cpos) (mMt g mo ms) := by
  refine PEimp (pe_bm PySem.F.plainAttrs_str slot hty mtAny ho ha hbase hfew hline hs hplain) fun σ H Q ⟨e, F, er, h⟩ => ⟨e, F, er, h.bind.mono fun d e1 H1 F1 er1 mv1 h1 v hv => ?_⟩
  have h2 := h1.bind
  obtain ⟨a, ha', fin⟩ := h2.fin er1
  have h3 := fin H1 F1 Al.refl
  unfold asS at ha'
  split at ha'
  · cases ha'
    rw [rp_str] at hv
    subst hv
    refine ⟨rfl, e1, F1, er1, h3.bind.mono fun ds e2 H2 F2 er2 mv2 h4 vs hvs => ?_⟩
    obtain ⟨z, hz, fin2⟩ := h4.fin er2
    obtain ⟨r, hr, q⟩ := hm H2 F2 _ vs ds z er2.sub hvs hz
    exact ⟨r, hr, q Q fun H' F' z al hz => fin2 H' F' al z hz⟩
  · cases ha'
def gS1 (f : Str → Str → Option D) : Str → List D → Option D
  | a, [.str b] => f a b
  | _, _ => none
theorem m_s1 {id : String} {f : Str → Str → Option D} {r : V → List V → Hp → VK → Prop} (hr : MtR X id r) (hq : ∀ a b d H F (Q : VK), f a b = some d → (∀ z, Rp X.K X.mg F d z → Q z H) → r (.str a) [.str b] H Q) : MtD X id (gS1 f) := by
  intro H F a xs ds d s l h
  refine ⟨r, hr, fun Q q => ?_⟩
  unfold gS1 at h
  split at h
  · obtain ⟨v, rfl, rv⟩ := rl_one l
    rw [rp_str] at rv; subst rv
    exact hq _ _ _ H F Q h fun z hz => q H F z Al.refl hz
  · cases h
def gCount : Str → List D → Option D := gS1 fun a b => some (.int (Txt.count a b))
theorem m_count : MtD X "str.count" gCount := m_s1 mt_count fun a b d H F Q h q => ⟨a, b, rfl, rfl, q _ (by cases h; rw [rp_int])⟩
def gStr : D → Option D
  | .int i => if i.natAbs.log2 < 1920 then some (.str (toString i)) else none
  | .str z => some (.str z)
  | _ => none
theorem c_str : Cal1 X (.type "str") gStr := by
  intro H F x d d' s r h
  cases d with
  | int i =>
    simp only [gStr] at h
    split at h
    · rename_i hz
      cases h
      have r : Rp X.K X.mg F (.int i) x := r
      rw [rp_int] at r; subst r
      exact ⟨_, call_str_int, fun Q q => ⟨i, rfl, hz, q H F _ Al.refl (by rw [rp_str])⟩⟩
    · cases h
  | str z =>
    simp only [gStr] at h
    cases h
    have r : Rp X.K X.mg F (.str z) x := r
    rw [rp_str] at r; subst r
    exact ⟨_, SkE.call_str_str, fun Q q => ⟨z, rfl, q H F _ Al.refl (by rw [rp_str])⟩⟩
  | _ => cases h
def gFmt : D → Option D
  | .int i => if i.natAbs.log2 < 1920 then some (.str (toString i)) else none
  | .str z => if z.length ≤ sizeLine then some (.str z) else none
  | _ => none
theorem jv_fmt {pos : Pos} (ho : JV X T W o mo) : JV X T W (.FormattedValue o (-1) none pos) (m1 gFmt mo) := by
  refine PEimp (pe_fmt ho) fun σ H Q ⟨e, F, er, h⟩ => ⟨e, F, er, h.bind.mono fun d e1 H1 F1 er1 mv1 h1 v hv => ?_⟩
  obtain ⟨z, hz, fin⟩ := h1.fin er1
  cases d with
  | int i =>
    simp only [gFmt] at hz
    split at hz
    · rename_i hl
      cases hz
      rw [rp_int] at hv
      exact .inr ⟨i, hv, hl, fin H1 F1 Al.refl _ (by rw [rp_str])⟩
    · cases hz
  | str y =>
    simp only [gFmt] at hz
    split at hz
    · rename_i hl
      cases hz
      rw [rp_str] at hv
      exact .inl ⟨y, hv, hl, fin H1 F1 Al.refl _ (by rw [rp_str])⟩
    · cases hz
  | _ => cases hz
def mJs : List (M D) → Str → M D
  | [], acc => ret (.str acc)
  | m :: ms, acc => bnd m fun d => bnd (opt (asS d)) fun y => if (acc ++ y).length ≤ sizeLine then mJs ms (acc ++ y) else fun _ => .bad
theorem js_imp {K : PySem.W.Frag} {mg : Str → Option Value} {σ : St} {Q : VK} : ∀ (ms : List (M D)) (acc : Str) (e : En) (H F : Hp), ER K mg T e σ H F → RunAt K mg T W e F (mJs ms acc) σ H (fun d _ H' F' => ∀ v, Rp K mg F' d v → Q v H') → tJs (ms.map (TV K mg T W)) acc σ H fun out H1 => Q (.str out) H1
  | [], acc, e, H, F, er, h => h.rfin er H F Al.refl _ (by rw [rp_str])
  | m :: ms, acc, e, H, F, er, h => by
    refine ⟨e, F, er, h.bind.mono fun d e1 H1 F1 er1 mv1 h1 v hv => ?_⟩
    obtain ⟨y, hy, fin⟩ := h1.bind.fin er1
    have h2 := fin H1 F1 Al.refl
    unfold asS at hy
    split at hy
    · cases hy
      rw [rp_str] at hv
      split at h2
      · rename_i hl
        exact ⟨_, hv, hl, js_imp ms _ e1 H1 F1 er1 h2⟩
      · exact h2.elim
    · cases hy
def JJ (X : Cx) (T : Pn) (W : WX) (es : List Expr) (ms : List (M D)) : Prop := PJ X es (ms.map (TV X.K X.mg T W))
theorem jj_nil : JJ X T W [] [] := .nil
theorem jj_cons {m : M D} {mss : List (M D)} (h : JV X T W e m) (hs : JJ X T W es mss) : JJ X T W (e :: es) (m :: mss) := .cons h hs
theorem jv_js {v1 v2 : Expr} {rest : List Expr} {pos : Pos} {mss : List (M D)} (h : JJ X T W (v1 :: v2 :: rest) mss) : JV X T W (.JoinedStr (v1 :: v2 :: rest) pos) (mJs mss Str.empty) :=
  PEimp (pe_joined h) fun σ H Q ⟨e, F, er, h⟩ => js_imp mss _ e H F er h
end
end Sr
namespace Sr
variable [TabL]
open PySem hiding start
open PySem.Spec L2
open PyProof.Rows hiding St
section
variable {X : Cx} {T : Pn} {W : WX} {pos : Pos} {a b : Expr} {ma mb : M D}
theorem run_gA {A : Around} {k : Nat} {f : Addr} {fd : FuncData} {ps : List Str} {sp : Sp} {pins : List (Addr × Obj)} {σ : St} {H : Hp} {s : Shared} {Q : VK} {us : List Value} {vs : List V} (F : FnG X.prog X.w X.K X.mg X.base k f fd ps sp) (hr : Room k A) (hgu : A.guards = some []) (hfr : A.frames = X.A.frames)
    (hb : Binds X.K fd ps []) (tk : L2N.Takes X W) (I : Inv X pins σ H s) (r : Vals vs us) (h : sp vs H Q (WE W σ)) : wpAny (model X.prog X.w) A (call (.ref f) us) (EP X pins σ Q) X.xe s := by
  have hl : us.length = ps.length := by rw [← r.length]; exact F.len _ _ _ _ h
  have e0 : Env0 X.prog X.w X.K X.mg X.base A X.stack s H := by
    have e := I.env0
    exact ⟨by rw [hfr]; exact e.frames, e.mod, e.bs, e.bsz, e.funs, e.frf, e.hok, e.bare⟩
  have hbb := hb s us I.kIn (by rw [List.append_nil]; exact hl)
  rw [List.append_nil] at hbb
  refine wpAny_call (codeAny_mono (F.run A X.stack s H _ _ _ Q _ hr hgu e0 hbb r h) fun r s' hq => ?_)
  cases r with
  | error e => exact tk e s' (L2N.XE.of_call I (fun cls d H' h => h) hq)
  | ok fl =>
    cases fl with
    | ret w => exact I.after hq
    | next => exact False.elim hq
    | brk => exact False.elim hq
    | cont => exact False.elim hq
end
end Sr
namespace Sr
variable [TabL]
open PySem hiding start
open PySem.Spec L2
open PyProof.Rows hiding St
def isO (c m : Str) : D → Option Unit
  | .obj c' fs => if c' = c ∧ (fs.lookup m).isNone = true then some () else none
  | _ => none
def mMe (c m : Str) (f : Fnc) (mo : M D) (ms : M (List D)) : M D := bnd mo fun d => bnd (opt (isO c m d)) fun _ => bnd ms fun ds => ap0 f (d :: ds)
section
variable {X : Cx} {T : Pn} {W : WX} {pos apos : Pos} {o e : Expr} {es : List Expr} {mo : M D} {ms : M (List D)} {k j n : Nat} {c m : Str} {C : Addr} {ps : List Str} {f : Fnc}
theorem isO_ok {K : PySem.W.Frag} {mg : Str → Option Value} {H F : Hp} {d : D} {x : V} {u : Unit} (hc : mg c = some (.ref C)) (s : Same F H) (hx : Rp K mg F d x) (h : isO c m d = some u) : ∃ a dx gs, x = .ref a ∧ H a = some (.ins C dx gs) ∧ gs.lookup m = none := by
  cases d with
  | obj c' fs =>
    simp only [isO] at h
    split at h
    · rename_i hh
      obtain ⟨rfl, hn⟩ := hh
      rw [rp_obj] at hx
      obtain ⟨a, C', dx, gs, rfl, m1, m2, m3⟩ := hx
      rw [hc] at m1; cases m1
      exact ⟨a, dx, gs, rfl, s _ _ m2, RpF.none m3 (Option.isNone_iff_eq_none.mp hn)⟩
    · cases h
  | _ => cases h
def tMethG (C : Addr) (m : Str) (sp : Sp) (W : WX) (ta : TE) (t : TA) : TE := fun σ H Q => ta σ H fun x H1 => ∃ a dx fs, x = .ref a ∧ H1 a = some (.ins C dx fs) ∧ fs.lookup m = none ∧ t σ H1 fun vs H2 => sp (.ref a :: vs) H2 Q (WE W σ)
theorem pe_methG {ta : TE} {t : TA} {sp : Sp} {fa : Addr} {fd : FuncData} {pl : Sem Bool} (he : PE X o ta) (cl : Cls X.K C) (hm : Meth X.K C m fa) (G : FnG X.prog X.w X.K X.mg X.base k fa fd ps sp) (hr : Room k X.A) (hgu : X.A.guards = some []) (hb : Binds X.K fd ps []) (tk : L2N.Takes X W) (ha : PA X (e :: es) t)
    (hst : starEach (e :: es) X.env = (false, eval e X.env) :: starEach es X.env := by rfl) (hpl : (backTo pos (starEach es X.env)).any (·.1) = false := by rfl)
    (ht : eval (.Call (.Attribute o m apos) (e :: es) [] pos) X.env = (do
      let ov ← eval o X.env
      standAt apos.atName
      let (f, first) ← holding [ov] (getMethod ov m pl)
      callWith pos f first (backTo pos (starEach (e :: es) X.env)) (backToKw pos (keywordEach [] X.env))) := by rfl) :
    PE X (.Call (.Attribute o m apos) (e :: es) [] pos) (tMethG C m sp W ta t) := by
  refine ⟨fun pins s σ H Q I h => ?_⟩
  refine PySem.W.methodCall_KW (pl := pl) (thn (he.run pins s σ H _ I h) fun u s1 ⟨x, H1, I1, rx, a, dx, fs, ex, ea, l, q⟩ => ?_) ht
  subst ex
  obtain rfl : u = Value.ref a := rx
  refine getmeth_ok I1 ea cl hm l ?_
  refine PySem.W.callWith_K (first := [.ref a]) (h₀ := X.base) I.ok.mod.kin hm.kp (thn (ha.run pos pins s1 σ H1 _ I1 q) fun us s2 ⟨vs, H2, I2, r, q2⟩ => ⟨I2.kIn, ?_⟩) hst hpl
  have r2 : Vals (V.ref a :: vs) (Value.ref a :: us) := .cons (show RelV (V.ref a) (Value.ref a) from rfl) r
  exact run_gA G hr hgu rfl hb tk I2 r2 q2
theorem jv_me {pl : Sem Bool} (O : OwnK X k c C m n ps f) (hp : Pl X j) (tk : L2N.Takes X W) (ho : JV X T W o mo) (ha : JL X T W (e :: es) ms) (hj : k ≤ j := by decide) (hn : (e :: es).length + 1 = n := by rfl)
    (hst : starEach (e :: es) X.env = (false, eval e X.env) :: starEach es X.env := by rfl) (hpl : (backTo pos (starEach es X.env)).any (·.1) = false := by rfl)
    (ht : eval (.Call (.Attribute o m apos) (e :: es) [] pos) X.env = (do
      let ov ← eval o X.env
      standAt apos.atName
      let (f, first) ← holding [ov] (getMethod ov m pl)
      callWith pos f first (backTo pos (starEach (e :: es) X.env)) (backToKw pos (keywordEach [] X.env))) := by rfl) :
    JV X T W (.Call (.Attribute o m apos) (e :: es) [] pos) (mMe c m f mo ms) := by
  obtain ⟨fa, fd, hm, G, hb⟩ := O.ex
  refine PEimp (pe_methG (pl := pl) ho O.cl.cl hm G (hp.room.mono hj) hp.gu hb tk ha.ja hst hpl ht) fun σ H Q ⟨e0, F, er, h⟩ => ⟨e0, F, er, h.bind.mono fun d e1 H1 F1 er1 mv1 h1 v hv => ?_⟩
  obtain ⟨u, hu, fin⟩ := h1.bind.fin er1
  have h2 := fin H1 F1 Al.refl
  obtain ⟨a, dx, gs, rfl, q1, q2⟩ := isO_ok O.cl.mg er1.sub hv hu
  refine ⟨a, dx, gs, rfl, q1, q2, e1, F1, er1, ?_⟩
  have hb2 := h2.bind
  unfold RunAt at hb2 ⊢
  cases q : ms e1 with
  | ok ds e2 =>
    rw [q] at hb2
    intro H2 F2 er2 mv2 vs hvs
    exact ap0_v (hb2 H2 F2 er2 mv2) er2 (by rw [rl_cons]; exact ⟨_, _, rfl, Rp.mono mv2.sub _ _ hv, hvs⟩) (by rw [List.length_cons, ha.ln ds e1 e2 q]; exact hn)
  | exc x e2 => rw [q] at hb2; exact hb2
  | bad => rw [q] at hb2; exact hb2
end
end Sr
namespace Sr
variable [TabL]
open PySem hiding start
open PySem.Spec L2
open PyProof.Rows hiding St
section
variable {X : Cx} {T : Pn} {W : WX} {pos : Pos}
theorem jo_dnewK : JO X T W (.Dict [] [] pos) (ret (.dk [])) := by
  refine PEimp pe_dnewK fun σ H Q ⟨e, F, er, h⟩ => fun p hp => ?_
  have np : ¬ Ow e σ p := Ow.ne_of_free er hp
  have fp : F p = none := er.sub.free hp
  exact h (upd H p (.dK [])) F (er.updFree fp np) (Mv.refl.updNew hp) p hp fp np ⟨[], upd_same, by unfold RpK; rfl⟩
theorem jo_dnewT : JO X T W (.Dict [] [] pos) (ret (.dt [])) := by
  refine PEimp pe_dnewT fun σ H Q ⟨e, F, er, h⟩ => fun p hp => ?_
  have np : ¬ Ow e σ p := Ow.ne_of_free er hp
  have fp : F p = none := er.sub.free hp
  exact h (upd H p (.dT [])) F (er.updFree fp np) (Mv.refl.updNew hp) p hp fp np ⟨[], upd_same, by unfold RpT; rfl⟩
def mPs : List (M D × M D) → M (List (D × D))
  | [] => ret []
  | (a, b) :: r => bnd a fun x => bnd b fun y => bnd (mPs r) fun ps => ret ((x, y) :: ps)
def RpP (K : PySem.W.Frag) (mg : Str → Option Value) (F : Hp) : List (D × D) → List (V × V) → Prop
  | [], ps => ps = []
  | (x, y) :: ds, ps => ∃ v w r, ps = (v, w) :: r ∧ Rp K mg F x v ∧ Rp K mg F y w ∧ RpP K mg F ds r
theorem ps_imp {K : PySem.W.Frag} {mg : Str → Option Value} {σ : St} : ∀ (l : List (M D × M D)) (e : En) (H F : Hp) (P : List (D × D) → En → Hp → Hp → Prop) (R : List (V × V) → Hp → Prop), ER K mg T e σ H F → RunAt K mg T W e F (mPs l) σ H P →
    (∀ ds e' H' F', ER K mg T e' σ H' F' → Mv e σ H F e' σ H' F' → P ds e' H' F' → ∀ ps, RpP K mg F' ds ps → R ps H') → tPairs (l.map fun q => (TV K mg T W q.1, TV K mg T W q.2)) σ H R
  | [], e, H, F, P, R, er, h, k => k [] e H F er Mv.refl (h H F er Mv.refl) [] rfl
  | (a, b) :: l, e, H, F, P, R, er, h, k => by
    refine ⟨e, F, er, h.bind.mono fun x e1 H1 F1 er1 mv1 h1 v hv => ⟨e1, F1, er1, h1.bind.mono fun y e2 H2 F2 er2 mv2 h2 w hw => ?_⟩⟩
    refine ps_imp l e2 H2 F2 _ _ er2 h2.bind fun ds e3 H3 F3 er3 mv3 h3 ps hps => ?_
    refine k _ e3 H3 F3 er3 ((mv1.trans mv2).trans mv3) (h3 H3 F3 er3 Mv.refl) _ ⟨v, w, ps, rfl, Rp.mono (mv2.sub.trans mv3.sub) _ _ hv, Rp.mono mv3.sub _ _ hw, hps⟩
def dKey : D → Option Key
  | .int i => some (.inl i)
  | .str z => some (.inr z)
  | _ => none
def dKeys : List (D × D) → Option (List (Key × D))
  | [] => some []
  | (x, y) :: r => match dKey x, dKeys r with
    | some k, some ks => some ((k, y) :: ks)
    | _, _ => none
def putKD (kvs : List (Key × D)) (k : Key) (v : D) : List (Key × D) :=
  if (kvs.any fun kv => decide (kv.1 = k)) = true then kvs.map (fun kv => if kv.1 = k then (kv.1, v) else kv) else kvs ++ [(k, v)]
def mergeKD (kvs more : List (Key × D)) : List (Key × D) := more.foldl (fun acc kv => putKD acc kv.1 kv.2) kvs
theorem RpK.any {K : PySem.W.Frag} {mg : Str → Option Value} {F : Hp} {k : Key} : ∀ {ds : List (Key × D)} {vs : List (Key × V)}, RpK K mg F ds vs → (ds.any fun kv => decide (kv.1 = k)) = (vs.any fun kv => decide (kv.1 = k))
  | [], vs, h => by unfold RpK at h; subst h; rfl
  | (q, d) :: ds, vs, h => by
    unfold RpK at h
    obtain ⟨v, r, rfl, _, h⟩ := h
    rw [List.any_cons, List.any_cons, RpK.any h]
theorem RpK.snoc {K : PySem.W.Frag} {mg : Str → Option Value} {F : Hp} {k : Key} {d : D} {v : V} (hv : Rp K mg F d v) : ∀ {ds : List (Key × D)} {vs : List (Key × V)}, RpK K mg F ds vs → RpK K mg F (ds ++ [(k, d)]) (vs ++ [(k, v)])
  | [], vs, h => by unfold RpK at h; subst h; unfold RpK; exact ⟨v, [], rfl, hv, by unfold RpK; rfl⟩
  | (q, x) :: ds, vs, h => by
    unfold RpK at h
    obtain ⟨w, r, rfl, hw, h⟩ := h
    rw [List.cons_append, List.cons_append]
    unfold RpK
    exact ⟨w, _, rfl, hw, RpK.snoc hv h⟩
theorem RpK.put {K : PySem.W.Frag} {mg : Str → Option Value} {F : Hp} {k : Key} {d : D} {v : V} (hv : Rp K mg F d v) {ds : List (Key × D)} {vs : List (Key × V)} (h : RpK K mg F ds vs) : RpK K mg F (putKD ds k d) (putK vs k v) := by
  unfold putKD putK
  rw [RpK.any h]
  split
  · exact RpK.map hv h
  · exact RpK.snoc hv h
theorem keys_ok {K : PySem.W.Frag} {mg : Str → Option Value} {F : Hp} : ∀ {ds : List (D × D)} {ks : List (Key × D)} {ps : List (V × V)}, dKeys ds = some ks → RpP K mg F ds ps → ∃ kvs : List (Key × V), ps = kvs.map (fun kv => (kV kv.1, kv.2)) ∧ RpK K mg F ks kvs
  | [], ks, ps, h, r => by cases h; unfold RpP at r; subst r; exact ⟨[], rfl, by unfold RpK; rfl⟩
  | (x, y) :: ds, ks, ps, h, r => by
    unfold RpP at r
    obtain ⟨v, w, ps', rfl, hx, hy, r⟩ := r
    unfold dKeys at h
    cases q1 : dKey x with
    | none => simp only [q1] at h; cases h
    | some k =>
      cases q2 : dKeys ds with
      | none => simp only [q1, q2] at h; cases h
      | some ks' =>
        simp only [q1, q2] at h
        cases h
        obtain ⟨kvs, rfl, hk⟩ := keys_ok q2 r
        refine ⟨(k, w) :: kvs, ?_, by unfold RpK; exact ⟨w, _, rfl, hy, hk⟩⟩
        rw [List.map_cons]
        congr 2
        cases x with
        | int i => cases q1; rw [rp_int] at hx; exact hx
        | str z => cases q1; rw [rp_str] at hx; exact hx
        | _ => cases q1
theorem RpK.merge {K : PySem.W.Frag} {mg : Str → Option Value} {F : Hp} : ∀ {more : List (Key × D)} {mv : List (Key × V)} {ds : List (Key × D)} {vs : List (Key × V)}, RpK K mg F more mv → RpK K mg F ds vs → RpK K mg F (mergeKD ds more) (mergeK vs mv)
  | [], mv, ds, vs, h, r => by unfold RpK at h; subst h; exact r
  | (k, d) :: more, mv, ds, vs, h, r => by
    unfold RpK at h
    obtain ⟨w, ms, rfl, hw, h⟩ := h
    show RpK K mg F (mergeKD (putKD ds k d) more) (mergeK (putK vs k w) ms)
    exact RpK.merge h (r.put hw)
def gDisp (ds : List (D × D)) : Option D := match dKeys ds with
  | some ks => if ks.length ≤ 15 then some (.dk (mergeKD [] ks)) else none
  | none => none
def mDisp (l : List (M D × M D)) : M D := bnd (mPs l) fun ds => opt (gDisp ds)
def JPs (X : Cx) (T : Pn) (W : WX) (pos : Pos) (keys : List (Option Expr)) (values : List Expr) (l : List (M D × M D)) : Prop := PPs X pos keys values (l.map fun q => (TV X.K X.mg T W q.1, TV X.K X.mg T W q.2))
theorem jps_nil : JPs X T W pos [] [] [] := pps_nil
theorem jps_cons {k v : Expr} {ks : List (Option Expr)} {vs : List Expr} {mk mv : M D} {l : List (M D × M D)} (hk : JV X T W k mk) (hv : JV X T W v mv) (hr : JPs X T W pos ks vs l) : JPs X T W pos (some k :: ks) (v :: vs) ((mk, mv) :: l) := pps_cons hk hv hr
theorem jo_disp {keys : List (Option Expr)} {values : List Expr} {l : List (M D × M D)} (h : JPs X T W pos keys values l) (hall : keys.all (·.isSome) = true := by rfl) (hl : keys.length = values.length := by rfl) (h0 : keys ≠ [] := by intro z; cases z) (h15 : keys.length ≤ 15 := by decide) :
    JO X T W (.Dict keys values pos) (mDisp l) := by
  refine PEimp (pe_disp h hall hl h0 h15) fun σ H Q ⟨e, F, er, h⟩ => fun p hp => ?_
  have np : ¬ Ow e σ p := Ow.ne_of_free er hp
  have fp : F p = none := er.sub.free hp
  have er0 : ER X.K X.mg T e σ (upd H p (.dK [])) F := er.updFree fp np
  have hb : RunAt X.K X.mg T W e F (mPs l) σ (upd H p (.dK [])) fun ds e1 H1 F1 => Mv e σ (upd H p (.dK [])) F e1 σ H1 F1 ∧ ∃ d, gDisp ds = some d ∧ ∀ H' F', ER X.K X.mg T e1 σ H' F' → Mv e σ H F e1 σ H' F' → ∀ q, H q = none → F' q = none → ¬ Ow e1 σ q → OwnAt X.K X.mg H' F' q d → Q (.ref q) H' := by
    unfold RunAt mDisp bnd at h
    unfold RunAt
    cases q : mPs l e with
    | ok ds e1 =>
      rw [q] at h
      intro H1 F1 er1 mv1
      dsimp only at h
      unfold opt at h
      cases qd : gDisp ds with
      | none => simp only [qd] at h
      | some d =>
        simp only [qd] at h
        exact ⟨mv1, d, rfl, fun H' F' er' mv' => h H' F' er' mv'⟩
    | exc x e1 =>
      rw [q] at h
      intro H1 F1 cl dd er1 mv1 xr
      exact h H1 F1 cl dd er1 ((Mv.refl.updNew (o := .dK []) hp).trans mv1) xr
    | bad => rw [q] at h; exact h
  refine ps_imp l e _ F _ _ er0 hb fun ds e1 H1 F1 er1 mv1 ⟨_, d, hd, fin⟩ ps hps => ?_
  obtain ⟨k1, k2⟩ := mv1.keep p _ upd_same np
  have k1 := k1 (by first | assumption | (intro _ z; exact nomatch z) | (intro _ z; cases z))
  have f1 : F1 p = none := by
    cases z : F1 p with
    | none => rfl
    | some u =>
      rcases mv1.new p u z with z | z | z
      · rw [fp] at z; cases z
      · rw [upd_same] at z; cases z
      · exact (np z).elim
  unfold gDisp at hd
  split at hd
  · rename_i ks hk
    split at hd
    · rename_i hz
      cases hd
      obtain ⟨kvs, rfl, rk⟩ := keys_ok hk hps
      refine ⟨k1, kvs, rfl, by rw [← RpK.len rk]; exact hz, ?_⟩
      exact fin _ F1 (er1.updFree f1 k2) (((Mv.refl.updNew (o := .dK []) hp).trans mv1).updNew hp) p hp f1 k2 ⟨_, upd_same, RpK.merge rk (by unfold RpK; rfl)⟩
    · cases hd
  · cases hd
end
end Sr
namespace Sr
variable [TabL]
open PySem hiding start
open PySem.Spec L2
open PyProof.Rows hiding St
def flatD : D → Bool
  | .non => true
  | .bl _ => true
  | .int _ => true
  | .str _ => true
  | _ => false
def eqF : D → D → Bool
  | .non, .non => true
  | .bl a, .bl b => a == b
  | .bl a, .int b => (if a then 1 else 0) == b
  | .int a, .bl b => a == (if b then 1 else 0)
  | .int a, .int b => a == b
  | .str a, .str b => a == b
  | _, _ => false
section
variable {K : PySem.W.Frag} {mg : Str → Option Value} {F H : Hp}
theorem flat_ok {d : D} {v : V} (r : Rp K mg F d v) (h : flatD d = true) : flatV v = true := by
  cases d <;> simp only [flatD, Bool.false_eq_true] at h
  · rw [rp_non] at r; subst r; rfl
  · rw [rp_bl] at r; subst r; rfl
  · rw [rp_int] at r; subst r; rfl
  · rw [rp_str] at r; subst r; rfl
theorem eqF_ok {d d' : D} {v v' : V} (r : Rp K mg F d v) (r' : Rp K mg F d' v') (h : flatD d = true) (h' : flatD d' = true) : eqV v v' = eqF d d' := by
  cases d <;> simp only [flatD, Bool.false_eq_true] at h <;> cases d' <;> simp only [flatD, Bool.false_eq_true] at h' <;> simp only [rp_non, rp_bl, rp_int, rp_str] at r r' <;> subst r r' <;> rfl
theorem flats_ok : ∀ {ds : List D} {vs : List V}, RpL K mg F ds vs → ds.all flatD = true → vs.all flatV = true
  | [], vs, l, _ => by rw [rl_nil] at l; subst l; rfl
  | d :: ds, vs, l, h => by
    rw [rl_cons] at l
    obtain ⟨v, vs, rfl, r, l⟩ := l
    rw [List.all_cons, Bool.and_eq_true] at h
    rw [List.all_cons, flat_ok r h.1, flats_ok l h.2]; rfl
theorem inF_ok {d : D} {v : V} (r : Rp K mg F d v) (hf : flatD d = true) : ∀ {ds : List D} {vs : List V}, RpL K mg F ds vs → ds.all flatD = true → inV v vs = ds.any fun y => eqF y d
  | [], vs, l, _ => by rw [rl_nil] at l; subst l; rfl
  | y :: ds, vs, l, h => by
    rw [rl_cons] at l
    obtain ⟨w, vs, rfl, r', l⟩ := l
    rw [List.all_cons, Bool.and_eq_true] at h
    have ih := inF_ok r hf l h.2
    unfold inV at ih ⊢
    rw [List.any_cons, List.any_cons, eqF_ok r' r h.1 hf, ih]
theorem flat_rq {d : D} {v : V} (h : flatD d = true) (r : Rq K mg H F d v) : Rp K mg F d v := by
  cases d <;> first | exact r | (simp [flatD] at h)
end
def gInL (neg : Bool) (x : D) (ds : List D) : Option D := if (flatD x && ds.all flatD) = true then some (.bl (if neg then !(ds.any fun y => eqF y x) else ds.any fun y => eqF y x)) else none
def gInG (neg : Bool) : D → D → Option D
  | .str a, .str z => match a.cps.toList with
    | [c] => some (.bl (if neg then !decide (c ∈ z.cps.toList) else decide (c ∈ z.cps.toList)))
    | _ => none
  | x, .lst ds => gInL neg x ds
  | x, .tup ds => gInL neg x ds
  | x, .ct ds => gInL neg x ds
  | _, _ => none
def gIn : D → D → Option D := gInG false
section
variable {X : Cx}
theorem str_one {a : Str} {c : Nat} (h : a.cps.toList = [c]) : a = ⟨#[c]⟩ := by
  cases a with
  | mk cps =>
    cases cps with
    | mk l => simp at h; subst h; rfl
theorem inL_imp {neg : Bool} {H F : Hp} {x : D} {ds : List D} {d : D} {vx : V} {p : Addr} {xs : List V} (s : Same F H) (r1 : Rq X.K X.mg H F x vx) (hq : SqL X.K H p xs ∨ SqT X.K H p xs) (l : RpL X.K X.mg F ds xs) (e : gInL neg x ds = some d) {Q : VK} (q : ∀ H' F' z, Al H F H' F' → Rp X.K X.mg F' d z → Q z H') : rIn X.K neg vx (.ref p) H Q := by
  unfold gInL at e
  split at e
  · rename_i h
    rw [Bool.and_eq_true] at h
    cases e
    have r := flat_rq h.1 r1
    refine ⟨p, xs, rfl, hq, flat_ok r h.1, flats_ok l h.2, ?_⟩
    rw [inF_ok r h.1 l h.2]
    exact q H F _ Al.refl (by rw [rp_bl])
  · cases e
theorem o_inG (neg : Bool) (f : Value → Value → Sem Value) (h1 : OpR X f (rIn X.K neg)) (h2 : OpR X f (fun x y H Q => ∃ (c : Nat) (z : Str), x = .str ⟨#[c]⟩ ∧ y = .str z ∧ Q (.bl (if neg then !decide (c ∈ z.cps.toList) else decide (c ∈ z.cps.toList))) H)) : Op2 X f (gInG neg) := by
  intro H F x y d1 d2 d s r1 r2 e
  have seq : ∀ ds, (∃ p xs, y = .ref p ∧ (SqL X.K H p xs ∨ SqT X.K H p xs) ∧ RpL X.K X.mg F ds xs) → gInL neg d1 ds = some d → ∃ r : R2, OpR X f r ∧ ∀ Q : VK, (∀ H' F' z, Al H F H' F' → Rp X.K X.mg F' d z → Q z H') → r x y H Q := fun ds ⟨p, xs, ey, hq, l⟩ e => by
    subst ey
    exact ⟨_, h1, fun Q q => inL_imp s r1 hq l e q⟩
  cases d2 with
  | str z =>
    cases d1 <;> simp only [gInG, reduceCtorEq] at e
    split at e
    · rename_i c hc
      cases e
      rw [rq_str] at r1 r2
      subst r1 r2
      rw [str_one hc]
      exact ⟨_, h2, fun Q q => ⟨c, z, rfl, rfl, q H F _ Al.refl (by rw [rp_bl])⟩⟩
    · cases e
  | lst ds =>
    obtain ⟨a, xs, rfl, h, l⟩ := r2
    exact seq ds ⟨a, xs, rfl, .inl (SqL.of h), l⟩ (by cases d1 <;> exact e)
  | tup ds =>
    rw [rq_tup] at r2
    obtain ⟨a, xs, rfl, h, l⟩ := r2
    exact seq ds ⟨a, xs, rfl, .inr (seqT_mono s h), l⟩ (by cases d1 <;> exact e)
  | ct ds =>
    rw [rq_ct] at r2
    obtain ⟨a, xs, rfl, h, l⟩ := r2
    exact seq ds ⟨a, xs, rfl, .inr (seqC_mono s h), l⟩ (by cases d1 <;> exact e)
  | _ => cases d1 <;> cases e
theorem o_in {k : Nat} (hp : Pl X k) : Op2 X (compareOp .In) gIn := o_inG false _ op_in_seq (by simpa using op_in_sign (X := X))
end
def gMulS : D → D → Option D
  | .str x, .int n => if n ≤ 100000 ∧ -100000 ≤ n ∧ x.length ≤ 100 then some (.str (Txt.mul x n)) else none
  | _, _ => none
def gMulL : D → D → Option D
  | .lst ds, .int n => if n ≤ 100000 ∧ -100000 ≤ n ∧ ds.length ≤ 100 then some (.lst (List.replicate n.toNat ds).flatten) else none
  | _, _ => none
def gMulT : D → D → Option D
  | .tup ds, .int n => if 2 ≤ n ∧ n ≤ 1000 ∧ ds.length ≤ 1000 ∧ ds ≠ [] then some (.tup (List.replicate n.toNat ds).flatten) else none
  | _, _ => none
section
variable {X : Cx}
theorem op_mulS : OpR X (binaryOp .Mult) (fun x y H Q => ∃ a n, x = .str a ∧ y = .int n ∧ MulOk a n ∧ Q (.str (Txt.mul a n)) H) := by
  intro pins s σ H x y v u Q I rx ry h
  obtain ⟨a, n, rfl, rfl, ok, q⟩ := h
  obtain ⟨t, rfl⟩ := rx
  obtain ⟨t', rfl⟩ := ry
  refine SB.mul ok fun t k => ⟨.str _, H, I.tok _, ⟨_, rfl⟩, q⟩
theorem mulOk_of {a : Str} {n : Int} (h1 : n ≤ 100000) (h2 : -100000 ≤ n) (h3 : a.length ≤ 100) : MulOk a n := by
  refine ⟨?_, fun h _ => ?_, fun h _ => ?_⟩
  · simp; omega
  · have hn : 1 ≤ n := by omega
    have : (100 : Int) ≤ (2 ^ 63 - 1) / n := by
      rw [Int.le_ediv_iff_mul_le (by omega)]
      omega
    omega
  · unfold Builtin.Str.tooLong
    have : a.length * n.toNat ≤ 100 * 100000 := Nat.mul_le_mul h3 (by omega)
    simp
    have e : sizeLine = 16777216 := by decide
    omega
theorem o_mulS : Op2 X (binaryOp .Mult) gMulS := by
  intro H F x y d1 d2 d s r1 r2 e
  unfold gMulS at e
  split at e
  · split at e
    · rename_i h
      cases e
      rw [rq_str] at r1
      rw [rq_int] at r2
      exact ⟨_, op_mulS, fun Q q => ⟨_, _, r1, r2, mulOk_of h.1 h.2.1 h.2.2, q H F _ Al.refl (by rw [rp_str])⟩⟩
    · cases e
  · cases e
theorem o_mulL : Op2 X (binaryOp .Mult) gMulL := by
  intro H F x y d1 d2 d s r1 r2 e
  unfold gMulL at e
  split at e
  · rename_i ds n
    split at e
    · rename_i h
      cases e
      obtain ⟨a, xs, rfl, q1, l1⟩ := r1
      rw [rq_int] at r2
      refine ⟨_, op_rep, fun Q q => ⟨a, n, xs, rfl, r2, q1, by omega, by omega, ?_, fun p hp => q _ _ _ (Al.one hp) ?_⟩⟩
      · rw [← l1.len]
        have e : sizeLine = 16777216 := by decide
        have : ds.length * n.toNat ≤ 100 * 100000 := Nat.mul_le_mul h.2.2 (by omega)
        omega
      · rw [rp_lst]
        exact ⟨p, _, rfl, upd_same, RpL.mono (same_upd (s.free hp)) _ _ (l1.rep _)⟩
    · cases e
  · cases e
theorem o_mulT : Op2 X (binaryOp .Mult) gMulT := by
  intro H F x y d1 d2 d s r1 r2 e
  unfold gMulT at e
  split at e
  · rename_i ds n
    split at e
    · rename_i h
      cases e
      rw [rq_tup] at r1
      obtain ⟨a, xs, rfl, q1, l1⟩ := r1
      rw [rq_int] at r2
      refine ⟨_, op_repT, fun Q q => ⟨a, n, xs, rfl, r2, seqT_mono s q1, fun z => h.2.2.2 ?_, h.1, h.2.1, by rw [← l1.len]; exact h.2.2.1, fun p hp => q _ _ _ (Al.one hp) ?_⟩⟩
      · have := l1.len
        rw [z] at this
        exact List.eq_nil_of_length_eq_zero this
      · rw [rp_tup]
        exact ⟨p, _, rfl, upd_same, RpL.mono (same_upd (s.free hp)) _ _ (l1.rep _)⟩
    · cases e
  · cases e
def gMulA : D → D → Option D := fun a b => (gMulI a b).or ((gMulS a b).or ((gMulL a b).or (gMulT a b)))
theorem o_mulA : Op2 X (binaryOp .Mult) gMulA := o_mulI.or (o_mulS.or (o_mulL.or o_mulT))
end
section
variable {X : Cx}
def gTuple : D → Option D
  | .lst ds => some (.tup ds)
  | .tup ds => some (.tup ds)
  | _ => none
theorem c_tuple : Cal1 X (.type "tuple") gTuple := by
  intro H F x d d' s r e
  cases d <;> simp only [gTuple, reduceCtorEq, Option.some.injEq] at e <;> subst e
  · obtain ⟨a, xs, rfl, h, l⟩ := r
    refine ⟨_, call_tuple_of, fun Q q => ⟨a, xs, rfl, .inl ⟨SqL.of h, fun p hp => q _ _ _ (Al.one hp) ?_⟩⟩⟩
    rw [rp_tup]
    exact ⟨p, xs, rfl, upd_same, RpL.mono (same_upd (s.free hp)) _ _ l⟩
  · rw [rq_tup] at r
    obtain ⟨a, xs, rfl, h, l⟩ := r
    refine ⟨_, call_tuple_of, fun Q q => ⟨a, xs, rfl, .inr ⟨seqT_mono s h, q H F _ Al.refl ?_⟩⟩⟩
    rw [rp_tup]
    exact ⟨a, xs, rfl, h, l⟩
def dBools : List D → Option (List Bool)
  | [] => some []
  | .bl b :: ds => (dBools ds).map (b :: ·)
  | _ :: _ => none
theorem dBools_vals {K : PySem.W.Frag} {mg : Str → Option Value} {F : Hp} : ∀ {ds : List D} {bs : List Bool} {xs : List V}, dBools ds = some bs → RpL K mg F ds xs → xs = bs.map V.bl
  | [], ys, xs, h, l => by cases h; rw [rl_nil] at l; exact l
  | d :: ds, ys, xs, h, l => by
    cases d with
    | bl z =>
      simp only [dBools, Option.map_eq_some_iff] at h
      obtain ⟨ys', h1, rfl⟩ := h
      rw [rl_cons] at l
      obtain ⟨v, vs, rfl, l1, l2⟩ := l
      rw [rp_bl] at l1
      rw [l1, dBools_vals h1 l2]; rfl
    | _ => cases h
def gAll : D → Option D
  | .lst ds => (dBools ds).map fun bs => .bl (bs.all id)
  | _ => none
theorem c_all (hc : X.calm = true) : Cal1 X (.builtin "all") gAll := by
  intro H F x d d' s r e
  cases d <;> simp only [gAll, reduceCtorEq] at e
  rw [Option.map_eq_some_iff] at e
  obtain ⟨bs, hb, rfl⟩ := e
  obtain ⟨a, xs, rfl, h, l⟩ := r
  rw [dBools_vals hb l] at h
  exact ⟨_, cr_all hc, fun Q q => ⟨a, bs, rfl, SqL.of h, q H F _ Al.refl (by rw [rp_bl])⟩⟩
end
end Sr
namespace Sr
variable [TabL]
open PySem hiding start
open PySem.Spec L2
open PyProof.Rows hiding St
section
variable {κ : Type} [DecidableEq κ]
def putG (kvs : List (κ × D)) (k : κ) (v : D) : List (κ × D) :=
  if (kvs.any fun kv => decide (kv.1 = k)) = true then kvs.map (fun kv => if kv.1 = k then (kv.1, v) else kv) else kvs ++ [(k, v)]
end
def dKeyL : List D → Option (List Key)
  | [] => some []
  | d :: ds => match dKey d, dKeyL ds with
    | some k, some ks => some (k :: ks)
    | _, _ => none
section
variable {K : PySem.W.Frag} {mg : Str → Option Value} {F H : Hp}
theorem dKey_ok {d : D} {k : Key} {v : V} (h : dKey d = some k) (r : Rp K mg F d v) : v = kV k := by
  cases d with
  | int i => cases h; rw [rp_int] at r; exact r
  | str z => cases h; rw [rp_str] at r; exact r
  | _ => cases h
theorem dKeyL_ok : ∀ {ds : List D} {ks : List Key} {xs : List V}, dKeyL ds = some ks → RpL K mg F ds xs → xs = ks.map kV
  | [], ks, xs, h, l => by cases h; rw [rl_nil] at l; exact l
  | d :: ds, ks, xs, h, l => by
    rw [rl_cons] at l
    obtain ⟨v, vs, rfl, r, l⟩ := l
    unfold dKeyL at h
    cases q1 : dKey d with
    | none => simp only [q1] at h; cases h
    | some k =>
      cases q2 : dKeyL ds with
      | none => simp only [q1, q2] at h; cases h
      | some ks' =>
        simp only [q1, q2] at h
        cases h
        rw [dKey_ok q1 r, dKeyL_ok q2 l]; rfl
theorem RpT.any {k : List Key} : ∀ {ds : List (List Key × D)} {vs : List (List Key × V)}, RpT K mg F ds vs → (ds.any fun kv => decide (kv.1 = k)) = (vs.any fun kv => decide (kv.1 = k))
  | [], vs, h => by unfold RpT at h; subst h; rfl
  | (q, d) :: ds, vs, h => by
    unfold RpT at h
    obtain ⟨v, r, rfl, _, h⟩ := h
    rw [List.any_cons, List.any_cons, RpT.any h]
theorem RpT.snoc {k : List Key} {d : D} {v : V} (hv : Rp K mg F d v) : ∀ {ds : List (List Key × D)} {vs : List (List Key × V)}, RpT K mg F ds vs → RpT K mg F (ds ++ [(k, d)]) (vs ++ [(k, v)])
  | [], vs, h => by unfold RpT at h; subst h; unfold RpT; exact ⟨v, [], rfl, hv, by unfold RpT; rfl⟩
  | (q, x) :: ds, vs, h => by
    unfold RpT at h
    obtain ⟨w, r, rfl, hw, h⟩ := h
    rw [List.cons_append, List.cons_append]
    unfold RpT
    exact ⟨w, _, rfl, hw, RpT.snoc hv h⟩
theorem RpT.put {k : List Key} {d : D} {v : V} (hv : Rp K mg F d v) {ds : List (List Key × D)} {vs : List (List Key × V)} (h : RpT K mg F ds vs) : RpT K mg F (putG ds k d) (putK vs k v) := by
  unfold putG putK
  rw [RpT.any h]
  split
  · exact RpT.map hv h
  · exact RpT.snoc hv h
theorem RpK.putg {k : Key} {d : D} {v : V} (hv : Rp K mg F d v) {ds : List (Key × D)} {vs : List (Key × V)} (h : RpK K mg F ds vs) : RpK K mg F (putG ds k d) (putK vs k v) := RpK.put hv h
end
def gDat : D → D → Option (Option D)
  | .dk kvs, k => (dKey k).map (valD kvs)
  | .dt kvs, .tup ks => (dKeyL ks).map (valD kvs)
  | _, _ => none
theorem dget_ok {K : PySem.W.Frag} {mg : Str → Option Value} {F H : Hp} {d k : D} {x y : V} {o : Option D} (s : Same F H) (r : Rq K mg H F d x) (rk : Rp K mg F k y) (h : gDat d k = some o) : ∃ a ov, x = .ref a ∧ DGet H a y ov ∧ opR K mg F o ov := by
  cases d with
  | dk kvs =>
    have h : (dKey k).map (valD kvs) = some o := by cases k <;> exact h
    rw [Option.map_eq_some_iff] at h
    obtain ⟨ky, hk, rfl⟩ := h
    obtain ⟨a, xs, rfl, q, l⟩ := r
    rw [dKey_ok hk rk]
    exact ⟨a, _, rfl, .inl ⟨xs, ky, q, rfl, rfl⟩, l.val⟩
  | dt kvs =>
    cases k with
    | tup ks =>
      simp only [gDat] at h
      rw [Option.map_eq_some_iff] at h
      obtain ⟨ky, hk, rfl⟩ := h
      obtain ⟨a, xs, rfl, q, l⟩ := r
      rw [rp_tup] at rk
      obtain ⟨b, ys, rfl, hb, lk⟩ := rk
      rw [dKeyL_ok hk lk] at hb
      exact ⟨a, _, rfl, .inr ⟨xs, ky, b, .inl q, rfl, s _ _ hb, rfl⟩, l.val⟩
    | _ => cases h
  | _ => cases k <;> cases h
def gDg (d k : D) : Option D := (gDat d k).bind id
def gDnot (k d : D) : Option D := (gDat d k).map fun o => .bl (!o.isSome)
section
variable {X : Cx} {T : Pn} {W : WX} {pos : Pos} {a b : Expr} {ma mb : M D} {m1 : M Bv} {k : Nat}
theorem opR_some {K : PySem.W.Frag} {mg : Str → Option Value} {F : Hp} {o : Option D} {ov : Option V} (h : opR K mg F o ov) : o.isSome = ov.isSome := by
  cases o <;> cases ov <;> first | rfl | exact h.elim
theorem jv_dgetB (hp : Pl X k) (ha : JB X T W a m1) (hb : JV X T W b mb) (hs : NoSl b := by intro _ _; rfl) : JV X T W (.Subscript a b pos) (m2b gDg m1 mb) := by
  refine PEimp (pe_dget hp.u1 ha hb hs) fun σ H Q ⟨e, F, er, h⟩ => ⟨e, F, er, h.bind.mono fun b1 e1 H1 F1 er1 mv1 h1 v hv => ⟨e1, F1, er1, h1.bind.mono fun d2 e2 H2 F2 er2 mv2 h2 w hw => ?_⟩⟩
  obtain ⟨d1, r1, h3⟩ := der_fin h2.bind er2 (hv.mono mv2.sub)
  obtain ⟨z, hz, fin⟩ := h3.fin er2
  unfold gDg at hz
  rw [Option.bind_eq_some_iff] at hz
  obtain ⟨o, ho, rfl⟩ := hz
  obtain ⟨p, ov, rfl, g, ro⟩ := dget_ok er2.sub r1 hw ho
  cases ov with
  | none => exact ro.elim
  | some u => exact ⟨p, u, rfl, g, fin H2 F2 Al.refl u ro⟩
theorem jv_dget (hp : Pl X k) (ha : JV X T W a ma) (hb : JV X T W b mb) (hs : NoSl b := by intro _ _; rfl) : JV X T W (.Subscript a b pos) (m2 gDg ma mb) := by
  refine PEimp (pe_dget hp.u1 ha hb hs) fun σ H Q ⟨e, F, er, h⟩ => ⟨e, F, er, h.bind.mono fun d1 e1 H1 F1 er1 mv1 h1 v hv => ⟨e1, F1, er1, h1.bind.mono fun d2 e2 H2 F2 er2 mv2 h2 w hw => ?_⟩⟩
  obtain ⟨z, hz, fin⟩ := h2.fin er2
  unfold gDg at hz
  rw [Option.bind_eq_some_iff] at hz
  obtain ⟨o, ho, rfl⟩ := hz
  obtain ⟨p, ov, rfl, g, ro⟩ := dget_ok er2.sub (Rp.rq er2.sub (Rp.mono mv2.sub _ _ hv)) hw ho
  cases ov with
  | none => exact ro.elim
  | some u => exact ⟨p, u, rfl, g, fin H2 F2 Al.refl u ro⟩
theorem op_dNotIn (hu : X.A.units + 1 < cLine) : OpR X (compareOp .NotIn) (fun y x H Q => ∃ a o, x = .ref a ∧ DGet H a y o ∧ Q (.bl (!o.isSome)) H) := by
  intro pins s σ H y x iv u Q I ry rx h
  obtain ⟨a, o, rfl, g, q⟩ := h
  obtain rfl : u = Value.ref a := rx
  exact d_notIn hu I g ry fun s3 I3 => ⟨.bl (!o.isSome), H, I3, rfl, q⟩
theorem ky_rp {K : PySem.W.Frag} {mg : Str → Option Value} {F H : Hp} {k d : D} {y : V} {o : Option D} (h : gDat d k = some o) (r : Rq K mg H F k y) : Rp K mg F k y := by
  cases k with
  | int i => exact r
  | str i => exact r
  | tup i => exact r
  | _ => cases d <;> simp [gDat, dKey] at h
theorem o_dnot (hp : Pl X k) : Op2 X (compareOp .NotIn) gDnot := by
  intro H F x y d1 d2 d s r1 r2 e
  unfold gDnot at e
  rw [Option.map_eq_some_iff] at e
  obtain ⟨o, ho, rfl⟩ := e
  obtain ⟨p, ov, rfl, g, ro⟩ := dget_ok s r2 (ky_rp ho r1) ho
  exact ⟨_, op_dNotIn hp.u1, fun Q q => ⟨p, ov, rfl, g, q H F _ Al.refl (by rw [rp_bl, opR_some ro])⟩⟩
def isDct : D → Bool
  | .dk _ => true
  | .dt _ => true
  | _ => false
def chkD (i : Nat) : M Unit := fun e => match e[i]? with
  | some (.own d) => if isDct d = true then .ok () e else .bad
  | _ => .bad
def gPutD (d k v : D) : Option D := match d, k with
  | .dk kvs, k => if kvs.length < sizeLine then (dKey k).map fun q => .dk (putG kvs q v) else none
  | .dt kvs, .tup ks => if kvs.length < sizeLine then (dKeyL ks).map fun q => .dt (putG kvs q v) else none
  | _, _ => none
def putDD (i : Nat) (k v : D) : M Fl := fun e => match e[i]? with
  | some (.own d) => match gPutD d k v with
    | some d' => .ok .nx (e.set i (.own d'))
    | none => .bad
  | _ => .bad
def sPutD (i : Nat) (mi m : M D) : M Fl := bnd m fun d => bnd (chkD i) fun _ => bnd mi fun k => putDD i k d
theorem js_dput {i : Nat} {x : Str} {pn ps : Pos} {mi : M D} (hp : Pl X k) (hN : X.N[i]? = some x) (hv : Vis X.env.scope x) (ha : JV X T W a ma) (hi : JV X T W b mi)
    (hd : (x == ("__debug__" : Str)) = false := by decide) (hcd : (x == ("__classdict__" : Str)) = false := by decide)
    (hs : swapsWith a (some (.Subscript (.Name x pn) b ps)) pos.line X.env = pure false := by rfl) :
    JS X T W (.Assign [.Subscript (.Name x pn) b ps] a pos) (sPutD i mi ma) := by
  refine PSimp (ps_dput hp.u1 (pe_var hN hv hd hcd) hi ha hs) fun Dn σ H ⟨e, F, er, h⟩ => ⟨e, F, er, h.bind.mono fun d e1 H1 F1 er1 mv1 h3 v hv => ?_⟩
  cases q : e1[i]? with
  | none => unfold RunS bnd chkD at h3; rw [q] at h3; exact h3.elim
  | some sl =>
    cases sl with
    | no => unfold RunS bnd chkD at h3; rw [q] at h3; exact h3.elim
    | val d => unfold RunS bnd chkD at h3; rw [q] at h3; exact h3.elim
    | own dd =>
      by_cases hdc : isDct dd = true
      · have h4 : RunS X.K X.mg T W e1 F1 (bnd mi fun k => putDD i k d) σ H1 Dn := h3.after (by unfold bnd chkD; rw [q]; simp only [hdc, if_true]) Mv.refl
        obtain ⟨p, g1, _, _⟩ := er1.own i _ q
        refine ⟨_, g1, e1, F1, er1, h4.bind.mono fun ky e2 H2 F2 er2 mv2 h5 w hw => ?_⟩
        unfold RunS putDD at h5
        cases q2 : e2[i]? with
        | none => simp only [q2] at h5
        | some sl2 =>
          cases sl2 with
          | no => simp only [q2] at h5
          | val d => simp only [q2] at h5
          | own d2 =>
            simp only [q2] at h5
            cases q3 : gPutD d2 ky d with
            | none => simp only [q3] at h5
            | some d3 =>
              simp only [q3] at h5
              obtain ⟨p', g2, g3, g4⟩ := er2.own i _ q2
              rw [g1] at g2; cases g2
              have hvv := Rp.mono mv2.sub _ _ hv
              cases d2 with
              | dk kvs =>
                have q3' : (if kvs.length < sizeLine then (dKey ky).map fun q => D.dk (putG kvs q d) else none) = some d3 := by cases ky <;> exact q3
                split at q3'
                · rename_i hz
                  rw [Option.map_eq_some_iff] at q3'
                  obtain ⟨kk, hk, rfl⟩ := q3'
                  obtain ⟨xs, g5, g6⟩ := g4
                  rw [dKey_ok hk hw]
                  obtain ⟨er3, mv3⟩ := er2.put (o := .dK (putK xs kk v)) (d' := .dk (putG kvs kk d)) q2 g1 ⟨_, upd_same, RpK.putg hvv g6⟩
                  exact ⟨p, _, rfl, .inl ⟨xs, kk, g5, rfl, by rw [← RpK.len g6]; exact hz, rfl⟩, h5 σ _ F2 er3 mv3⟩
                · cases q3'
              | dt kvs =>
                cases ky with
                | tup ks =>
                  simp only [gPutD] at q3
                  split at q3
                  · rename_i hz
                    rw [Option.map_eq_some_iff] at q3
                    obtain ⟨kk, hk, rfl⟩ := q3
                    obtain ⟨xs, g5, g6⟩ := g4
                    rw [rp_tup] at hw
                    obtain ⟨c, ys, rfl, hc, lk⟩ := hw
                    rw [dKeyL_ok hk lk] at hc
                    obtain ⟨er3, mv3⟩ := er2.put (o := .dT (putK xs kk v)) (d' := .dt (putG kvs kk d)) q2 g1 ⟨_, upd_same, RpT.put hvv g6⟩
                    exact ⟨p, _, rfl, .inr ⟨xs, kk, c, g5, rfl, er2.sub _ _ hc, by rw [← RpT.len g6]; exact hz, rfl⟩, h5 σ _ F2 er3 mv3⟩
                  · cases q3
                | _ => cases q3
              | _ => cases ky <;> cases q3
      · unfold RunS bnd chkD at h3; rw [q] at h3; simp only [hdc] at h3; exact h3.elim
def gLenT : D → Option D
  | .dt ds => some (.int ds.length)
  | _ => none
theorem c_lenT : Cal1 X (.builtin "len") gLenT := by
  intro H F x d d' s r e
  cases d <;> simp only [gLenT, reduceCtorEq] at e
  cases e
  obtain ⟨a, xs, rfl, q, l⟩ := r
  exact ⟨_, call_len_dT, fun Q qq => ⟨a, xs, rfl, q, qq H F _ Al.refl (by rw [rp_int, l.len])⟩⟩
theorem Cal1.or {f : Value} {g g' : D → Option D} (h : Cal1 X f g) (h' : Cal1 X f g') : Cal1 X f (fun a => (g a).or (g' a)) := by
  intro H F x d z s r e
  cases q : g d with
  | some w => simp only [q, Option.some_or] at e; cases e; exact h H F x d _ s r q
  | none => simp only [q, Option.none_or] at e; exact h' H F x d z s r e
def gLenA : D → Option D := fun d => (gLen d).or (gLenT d)
theorem c_lenA : Cal1 X (.builtin "len") gLenA := c_len.or c_lenT
end
section
variable {X : Cx} {T : Pn} {W : WX} {pos tpos p : Pos} {a b : Expr} {elts : List Expr} {kk : Nat} {ms : M (List D)}
def enumL (ds : List D) : List D := ds.zipIdx.map fun q => .tup [.int (q.2 : Nat), q.1]
theorem walks_pair {K : PySem.W.Frag} {mg : Str → Option Value} {F : Hp} {J : It} {ds : List D} {G : Hp → Prop} {xs ys : Nat → Option V} {n : Nat} (w : Walk J n G (YPair xs ys)) (hn : ds.length = n) (hG : ∀ H, Same F H → G H)
    (hd : ∀ i x y, i < n → xs i = some x → ys i = some y → ∃ d1 d2, ds[i]? = some (.tup [d1, d2]) ∧ Rp K mg F d1 x ∧ Rp K mg F d2 y) : Walks K mg J ds F := by
  refine ⟨G, _, by rw [hn]; exact w, hG, fun i H1 F1 x H2 hi s1 s2 y => ?_⟩
  obtain ⟨Ta, u, v, rfl, hT, rfl, h1, h2⟩ := y
  obtain ⟨d1, d2, h3, h4, h5⟩ := hd i u v (by rw [← hn]; exact hi) h1 h2
  have s3 : Same F1 (upd F1 Ta (.tup [u, v])) := same_upd (s2.free hT)
  refine ⟨_, _, Al.one hT, h3, ?_⟩
  rw [rp_tup]
  refine ⟨Ta, _, rfl, upd_same, ?_⟩
  rw [rl_cons]
  refine ⟨u, [v], rfl, Rp.mono (s1.trans s3) _ _ h4, ?_⟩
  rw [rl_cons]
  exact ⟨v, [], rfl, Rp.mono (s1.trans s3) _ _ h5, by rw [rl_nil]⟩
theorem RpL.getV {K : PySem.W.Frag} {mg : Str → Option Value} {F : Hp} : ∀ {ds : List D} {xs : List V} {i : Nat} {v : V}, RpL K mg F ds xs → xs[i]? = some v → ∃ d, ds[i]? = some d ∧ Rp K mg F d v
  | [], xs, i, v, l, h => by rw [rl_nil] at l; subst l; simp at h
  | d :: ds, xs, i, v, l, h => by
    rw [rl_cons] at l
    obtain ⟨w, vs, rfl, r, l⟩ := l
    cases i with
    | zero => simp at h; subst h; exact ⟨d, rfl, r⟩
    | succ i => simp at h; obtain ⟨d', h1, h2⟩ := RpL.getV l h; exact ⟨d', by simpa using h1, h2⟩
end
def distinct (ns : List Int) : Nat := (PyProof.Rows.firstMet (fun i => ns.getD i 0) ns.length).length
section
variable {X : Cx} {T : Pn} {W : WX} {a : Expr} {p p2 q pos : Pos} {m1 : M Bv}
def tLenSet (K : PySem.W.Frag) (ta : TE) : TE := fun σ H Q => ta σ H fun x H1 => ∃ (l : Addr) (ns : List Int), x = .ref l ∧ SqL K H1 l (ns.map V.int) ∧ ns.length ≤ 4000 ∧ Q (.int (distinct ns : Nat)) H1
theorem firstMet_le (f : Nat → Int) : ∀ n, (PyProof.Rows.firstMet f n).length ≤ n
  | 0 => by simp [PyProof.Rows.firstMet]
  | n + 1 => by
    rw [PyProof.Rows.firstMet_succ]
    have := firstMet_le f n
    unfold PyProof.Rows.step_dedup
    split
    · omega
    · rw [List.length_append, List.length_singleton]; omega
theorem pe_lenSet {ta : TE} (hg : Gl X "len") (hm : X.mg "len" = none) (hg2 : Gl X "set") (hm2 : X.mg "set" = none) (ha : PE X a ta) (hc : X.calm = true := by rfl)
    (na : starEach [a] X.env = (false, eval a X.env) :: starEach [] X.env := by rfl) : PE X (.Call (.Name "len" p) [.Call (.Name "set" p2) [a] [] q] [] pos) (tLenSet X.K ta) := by
  refine ⟨fun pins s σ H Q I h => ?_⟩
  refine Call_ (ld_blt I hg hm boot_len ?_)
  refine PyProof.Rows.callWith_builtin1 (PyProof.Rows.args_cons ?_ rfl) rfl rfl
  refine Call_ (ld_blt I hg2 hm2 boot_set ?_)
  refine PyProof.Rows.callWith_type1 (PyProof.Rows.args_cons (thn (ha.run pins s σ H _ I h) fun v s1 ⟨x, H1, I1, r1, q1⟩ => PyProof.Rows.args_nil ?_) na) na rfl
  obtain ⟨l, ns, rfl, hq, hl, q1⟩ := q1
  cases r1
  obtain ⟨its, r, pl, hz⟩ := I1.list hq
  have hlen : its.toArray.size = ns.length := by rw [List.size_toArray, ← r.length, List.length_map]
  refine call_set_list (I1.ok.hd hc) pl.isList (by simpa using RZ.intsAre_vals r) (by rw [hlen]; unfold scanBound; omega) fun h' tk hS hk => ?_
  refine PyProof.Rows.args_nil ?_
  rw [hlen] at hS
  have hle := firstMet_le (fun i => ns.getD i 0) ns.length
  obtain ⟨o, es, ep, t, ho, hex, hd, _, _, _, hf, hn⟩ := hS
  have I2 : Inv X pins σ H1 { s1 with heap := h', toks := tk } := I1.kept fun b o e => hk b o (Heap.lt_size e) e
  exact call_len_set ho hex hd hf (by rw [hn] <;> omega) ⟨.int (distinct ns : Nat), H1, I2.tok _, ⟨_, by rw [hn]; rfl⟩, q1⟩
def gLenSet : D → Option D
  | .lst ds => match dInts ds with
    | some ns => if ns.length ≤ 4000 then some (.int (distinct ns : Nat)) else none
    | none => none
  | _ => none
theorem jv_lenSet (hg : Gl X "len") (hm : X.mg "len" = none) (hg2 : Gl X "set") (hm2 : X.mg "set" = none) (ha : JB X T W a m1) (hc : X.calm = true := by rfl)
    (na : starEach [a] X.env = (false, eval a X.env) :: starEach [] X.env := by rfl) : JV X T W (.Call (.Name "len" p) [.Call (.Name "set" p2) [a] [] q] [] pos) (mCal1 gLenSet m1) := by
  refine PEimp (pe_lenSet hg hm hg2 hm2 ha hc na) fun σ H Q ⟨e, F, er, h⟩ => ⟨e, F, er, h.bind.mono fun b e1 H1 F1 er1 mv1 h1 v hv => ?_⟩
  obtain ⟨d, r1, h3⟩ := der_fin h1.bind er1 hv
  obtain ⟨z, hz, fin⟩ := h3.fin er1
  cases d with
  | lst ds =>
    simp only [gLenSet] at hz
    split at hz
    · rename_i ns hns
      split at hz
      · rename_i hl
        cases hz
        obtain ⟨l, xs, rfl, hl', rl⟩ := r1
        rw [dInts_eq hns] at rl
        rw [rl.ints] at hl'
        exact ⟨l, ns, rfl, SqL.of hl', hl, fin H1 F1 Al.refl _ (by rw [rp_int])⟩
      · cases hz
    · cases hz
  | _ => cases hz
end
end Sr
namespace Sr
variable [TabL]
open PySem hiding start
open PySem.Spec L2
open PyProof.Rows hiding St
theorem meets_enum1 {v : Value} {o : Obj} {H : Heap → Prop} (B : Begins v o H) :
    Meets (Builtin.«enumerate.__new__» ⟨[.type "enumerate", v], []⟩) (fun _ R s => H s.heap ∧
      R (.ok (.ret (.ref (s.heap.push o).objs.size))) { s with heap := (s.heap.push o).push { cls := .type "enumerate", data := .fields #[.none, .bool false, .ref s.heap.objs.size, rawInt 0, .none, .none] } }) :=
  .of_wp fun prog w A R s h => by
    obtain ⟨hp, g, d, tk, os⟩ := s; obtain ⟨h1, h⟩ := h
    have hsub := sub_enumerate
    have q1 : ∀ {A' : Around} {E : Value → Shared → Prop} {Q : Value → Shared → Prop}, Q (.ref hp.objs.size) ⟨hp.push o, g, d, tk, os⟩ → wpAny (model prog w) A' (pyIter v) Q E ⟨hp, g, d, tk, os⟩ :=
      fun q => B.iter prog w _ _ ⟨hp, g, d, tk, os⟩ _ h1 q
    wp_walk using q1
    refine wpAny_stack_any fun st => wpAny_pure ?_
    split
    · rename_i c _ _ _ _ _
      cases (c == Value.type "enumerate")
      · wp_walk using q1
        exact ⟨_, rfl, h⟩
      · wp_walk using q1
        exact ⟨_, rfl, h⟩
    · wp_walk using q1
      exact ⟨_, rfl, h⟩
theorem call_enum1 {prog : Program} {w : World} {A : Around} {E : Value → Shared → Prop} {s : Shared} {v : Value} {o : Obj} {H : Heap → Prop} {Q : Value → Shared → Prop} (B : Begins v o H) (h1 : H s.heap)
    (h : ∀ h', IsEnum h' (s.heap.objs.size + 1) s.heap.objs.size 0 .none → h'.get? s.heap.objs.size = some o → h'.objs.size = s.heap.objs.size + 2 →
      (∀ b o, s.heap.get? b = some o → h'.get? b = some o) → Q (.ref (s.heap.objs.size + 1)) { s with heap := h' }) :
    wpAny (model prog w) A (call (.type "enumerate") [v]) Q E s := by
  refine callType_new F.called_enumerate (by decide) (F.typeCall_enumerate_1 _) (F.newCall_enumerate_1 _) (fun obj => F.args_object_init_2 obj _) F.entry_enumerate_new (meets_enum1 B) ⟨h1, ?_⟩
  have hz : (s.heap.push o).objs.size = s.heap.objs.size + 1 := Heap.size_push ..
  show _ ∧ _
  rw [hz]
  have he : IsEnum ((s.heap.push o).push { cls := .type "enumerate", data := .fields #[.none, .bool false, .ref s.heap.objs.size, rawInt 0, .none, .none] }) (s.heap.objs.size + 1) s.heap.objs.size 0 .none := by
    have := Heap.get?_push_size (s.heap.push o) (o := { cls := .type "enumerate", data := .fields #[.none, .bool false, .ref s.heap.objs.size, rawInt 0, .none, .none] }) rfl
    rw [hz] at this; exact this
  refine ⟨⟨_, he, rfl⟩, h _ he (Heap.get?_push_of_some _ (Heap.get?_push_size _ B.free)) (by rw [Heap.size_push, hz]) fun b o x => Heap.get?_push_of_some _ (Heap.get?_push_of_some _ x)⟩
def IteT (K : PySem.W.Frag) (a : Addr) : It :=
  ⟨fun i H => ∃ (xs : List V) (x : V), SqT K H a xs ∧ xs[i]? = some x, fun i H v H' => ∃ T x, v = .ref T ∧ H T = none ∧ H' = upd H T (.tup [.int (i : Nat), x]) ∧ ∀ xs, SqT K H a xs → xs[i]? = some x, fun i H => ∃ xs : List V, SqT K H a xs ∧ xs.length = i⟩
theorem turn_enumT {P : Program} {w : World} {K : PySem.W.Frag} {elts : List Expr} {kk : Nat} {tpos : Pos} (a e it : Addr) :
    Turn P w K (.Tuple elts kk tpos) (IteT K a) [e, it] e (fun i h => (∃ old, IsEnum h e it ((i : Nat) : Int) old) ∧ h.IsTupleIter it a i ∧ e ≠ it ∧ a ≠ it ∧ a ≠ e) where
  mem := by simp
  obj := fun i h st b hb => by
    obtain ⟨⟨old, he⟩, ⟨o, ho, hc, hd⟩, _⟩ := st
    have e' : b = e ∨ b = it := by simpa using hb
    rcases e' with z | z
    · rw [z]; exact ⟨_, he, fun v q => nomatch q⟩
    · rw [z]; exact ⟨o, ho, fun v q => by rw [hd] at q; cases q⟩
  keep := fun i h h' st k => let ⟨⟨old, he⟩, hi, hne⟩ := st; ⟨⟨old, k e (by simp) _ he⟩, hi.at fun o q => k it (by simp) o q, hne⟩
  item := by
    intro X hP hw hK hc i pins s σ H E I hf st hg
    subst hP hw hK
    obtain ⟨⟨old, he⟩, hit, hne, hai, hae⟩ := st
    obtain ⟨xs, x, hq, hx⟩ := hg
    obtain ⟨its, rv, p, hz⟩ := I.tuple hq
    obtain ⟨u, hu, ru⟩ := rv.get hx
    have hel : e < s.heap.objs.size := Heap.lt_size he
    have hil : it < s.heap.objs.size := by obtain ⟨_, q, _⟩ := hit; exact Heap.lt_size q
    have hlt : i < its.toArray.size := by
      have := (List.getElem?_eq_some_iff.mp hu).1
      simpa using this
    refine wpAny_pyNext_enum_itemC (Draws.tuple (A := X.A.in1) (I.ok.hd hc) it a hai its.toArray) he ⟨hit, p⟩ hlt hne (by simp [hne]; exact fun z => hae z.symm) fun u' h' tk hPx ho hit' hT hsz hk => ?_
    have hu' : u' = u := by
      have : its[i]? = some u' := by simpa using hPx
      rw [hu] at this; exact (Option.some.inj this).symm
    subst hu'
    refine ⟨_, rfl, wpAny_letOwnedTupleGo_enum (s := { s with heap := h', toks := tk + 1 }) ho fun h'' he' sb => ?_⟩
    have hT2 : h''.get? s.heap.objs.size = some { cls := .type "tuple", data := .seq #[.int i tk, u'] } := (sb.2 _ (Nat.ne_of_gt hel)).trans hT
    have new : ObjOk X.prog X.w (upd H s.heap.objs.size (.tup [.int (i : Nat), x])) h'' s.heap.objs.size (.tup [.int (i : Nat), x]) :=
      ⟨by show 2 ≤ sizeLine; decide, [.int i tk, u'], .cons ⟨_, rfl⟩ (.cons ru .nil), ⟨_, hT2, rfl, _, rfl⟩⟩
    have I1 : Inv X pins σ (upd H s.heap.objs.size (.tup [.int (i : Nat), x])) { s with heap := h'', toks := tk + 1 } :=
      I.turnedNew (ch := [e, it]) (fun b ob hb q => (sb.2 b (fun z => hb (by simp [z]))).trans (hk b ob (fun z => hb (by simp [z])) (fun z => hb (by simp [z])) q)) hf (Nat.le_refl _) new
    refine ⟨.ref s.heap.objs.size, _, I1, rfl, ⟨_, x, rfl, I.hok.fresh (Nat.le_refl _), rfl, fun ys hy => by rw [I.tuple_inj hy hq]; exact hx⟩, ⟨⟨u', ?_⟩, hit'.1.at fun o q => (sb.2 it (Ne.symm hne)).trans q, hne, hai, hae⟩, fun b hb => ?_⟩
    · have e1 : ((i + 1 : Nat) : Int) = (i : Int) + 1 := by omega
      rw [e1]; exact he'
    · have hb' : b < s.heap.objs.size := by
        have e' : b = e ∨ b = it := by simpa using hb
        rcases e' with z | z
        · rw [z]; exact hel
        · rw [z]; exact hil
      rw [upd_ne (Nat.ne_of_lt hb')]
      exact (hf b hb).1
  done := by
    intro X hP hw hK hc i pins s σ H E I hf st hg
    subst hP hw hK
    obtain ⟨⟨old, he⟩, hit, hne, hai, hae⟩ := st
    obtain ⟨xs, hq, hx⟩ := hg
    obtain ⟨its, rv, p, hz⟩ := I.tuple hq
    obtain ⟨f0, f1, f2, f3, f4, f5⟩ := hf it (by simp)
    have hl := rv.length
    have hsz : its.toArray.size = i := by rw [List.size_toArray, ← hl, hx]
    exact wpAny_pyNext_enum_endD (Draws.tuple (A := X.A.in1) (I.ok.hd hc) it a hai its.toArray) he ⟨by rw [hsz]; exact hit, p⟩ fun h' eb => ⟨rfl, I.turned (t' := s.toks) (fun b o hb q => eb b o hb q) f0 f1 f3 f4 f5⟩
  self := fun A i s Q E st h => let ⟨⟨_, he⟩, _⟩ := st; wpAny_pyIter_enum he h
theorem pi_enumT {X : Cx} {e : Expr} {ta : TA} {p pos tpos : Pos} {elts : List Expr} {kk : Nat} (hg : Gl X "enumerate") (hm : X.mg "enumerate" = none) (ha : PA X [e] ta) (hs : starEach [e] X.env = [(false, eval e X.env)] := by rfl) :
    PI X (.Tuple elts kk tpos) (.Call (.Name "enumerate" p) [e] [] pos) (fun σ H R => ta σ H fun vs H1 => ∃ a xs, vs = [.ref a] ∧ SqT X.K H1 a xs ∧ R (IteT X.K a) H1) := by
  refine ⟨fun pins s σ H R I h => ?_⟩
  refine Call_ (ld_blt I hg hm boot_enumerate (PyProof.Rows.callWith_type1 (thn (ha.run pos pins s σ H _ I h) fun us s1 ⟨vs, H1, I1, r1, q1⟩ => ?_) hs rfl))
  obtain ⟨a, xs, ex, hq, q⟩ := q1
  subst ex
  cases r1 with
  | cons r rr =>
    cases rr
    cases r
    obtain ⟨its, rv, p', hz⟩ := I1.tuple hq
    have hal : a < s1.heap.objs.size := by obtain ⟨o, ho, _⟩ := p'; exact Heap.lt_size ho
    refine call_enum1 (begins_tuple a its.toArray) p' fun h' he hit hsz hk => wpAny_pyIter_enum he ?_
    have I2 : Inv X pins σ H1 { s1 with heap := h' } := I1.kept (t' := s1.toks) hk
    refine ⟨s1.heap.objs.size + 1, [s1.heap.objs.size + 1, s1.heap.objs.size], _, _, H1, rfl, I2, turn_enumT a (s1.heap.objs.size + 1) s1.heap.objs.size, ⟨⟨.none, he⟩, ⟨_, hit, rfl, rfl⟩, Nat.succ_ne_self _, Nat.ne_of_lt hal, Nat.ne_of_lt (Nat.lt_succ_of_lt hal)⟩, fun b hb => ?_, q⟩
    have e' : b = s1.heap.objs.size + 1 ∨ b = s1.heap.objs.size := by simpa using hb
    have hle : s1.heap.objs.size ≤ b := by
      rcases e' with z | z
      · rw [z]; exact Nat.le_add_right _ _
      · rw [z]; exact Nat.le_refl _
    exact I1.fpOk hle (I1.hok.fresh hle)
section
variable {K : PySem.W.Frag} {a : Addr} {xs : List V}
theorem walk_enumT : Walk (IteT K a) xs.length (fun H => SqT K H a xs) (YPair (fun i => some (.int (i : Nat))) (fun i => xs[i]?)) := by
  refine ⟨fun i _ hi q => ⟨xs, xs[i], q, by simp [hi]⟩, fun _ q => ⟨xs, q, rfl⟩, fun i H v H' _ q y => ?_⟩
  obtain ⟨T, x, h1, h2, h3, h4⟩ := y
  exact ⟨T, .int (i : Nat), x, h1, h2, h3, rfl, h4 xs q⟩
end
section
variable {X : Cx} {T : Pn} {W : WX} {pos tpos p : Pos} {a b : Expr} {elts : List Expr} {kk : Nat} {ms : M (List D)}
def gEnumT : List D → Option (List D)
  | [.tup ds] => some (enumL ds)
  | _ => none
def mEnumT (ms : M (List D)) : M (List D) := bnd ms fun ds => opt (gEnumT ds)
theorem ji_enumT (hg : Gl X "enumerate") (hm : X.mg "enumerate" = none) (ha : JA X T W [a] ms) (hs : starEach [a] X.env = [(false, eval a X.env)] := by rfl) : JI X T W (.Tuple elts kk tpos) (.Call (.Name "enumerate" p) [a] [] pos) (mEnumT ms) := by
  refine PIimp (pi_enumT hg hm ha hs) fun σ H R ⟨e, F, er, h⟩ => ⟨e, F, er, h.bind.mono fun ds e1 H1 F1 er1 mv1 h1 vs hvs => ?_⟩
  obtain ⟨z, hz, fin⟩ := h1.fin er1
  unfold gEnumT at hz
  split at hz
  · rename_i ds'
    cases hz
    obtain ⟨v, rfl, r⟩ := rl_one hvs
    rw [rp_tup] at r
    obtain ⟨l, xs, rfl, hl, rl⟩ := r
    refine ⟨l, xs, rfl, seqT_mono er1.sub hl, fin H1 F1 Al.refl _ ?_⟩
    refine walks_pair (walk_enumT (K := X.K) (a := l) (xs := xs)) (by unfold enumL; rw [List.length_map, List.length_zipIdx]; exact rl.len) (fun H s => seqT_mono s hl) fun i x y hi h1 h2 => ?_
    cases h1
    obtain ⟨d, h3, h4⟩ := rl.getV h2
    refine ⟨.int (i : Nat), d, ?_, by rw [rp_int], h4⟩
    unfold enumL
    rw [List.getElem?_map, List.getElem?_zipIdx, h3]; simp
  · cases hz
end
def TAm (K : PySem.W.Frag) (mg : Str → Option Value) (T : Pn) (W : WX) (m : M (List (Bool × D))) : TA := fun σ H Q => ∃ e F, ER K mg T e σ H F ∧ RunAt K mg T W e F m σ H fun l e' H' F' => ∀ vs, RpM K mg H e' σ H' F' l vs → Q vs H'
abbrev JM (X : Cx) (T : Pn) (W : WX) (es : List Expr) (m : M (List (Bool × D))) : Prop := PA X es (TAm X.K X.mg T W m)
def xNil : M (List (Bool × D)) := ret []
def xCons (m : M D) (ms : M (List (Bool × D))) : M (List (Bool × D)) := bnd m fun d => bnd ms fun l => ret ((false, d) :: l)
def xConsO (m : M D) (ms : M (List (Bool × D))) : M (List (Bool × D)) := bnd m fun d => bnd ms fun l => ret ((true, d) :: l)
section
variable {K : PySem.W.Frag} {mg : Str → Option Value} {H0 H0' : Hp} {e : En} {σ : St} {H F : Hp} {p : Addr}
theorem RpM.low (h : ∀ p, H0 p = none → H0' p = none) : ∀ {l : List (Bool × D)} {vs : List V}, RpM K mg H0 e σ H F l vs → RpM K mg H0' e σ H F l vs
  | [], vs, r => r
  | (false, d) :: l, vs, ⟨v, r, e1, h1, h2⟩ => ⟨v, r, e1, h1, RpM.low h h2⟩
  | (true, d) :: l, vs, ⟨p, r, e1, h1, h2, h3, h4, h5, h6⟩ => ⟨p, r, e1, h _ h1, h2, h3, h4, h5, RpM.low h h6⟩
theorem RpM.noOwn {o : HO} (h : H0 p = some o) : ∀ {l : List (Bool × D)} {vs : List V}, RpM K mg H0 e σ H F l vs → NoOwn p l vs
  | [], vs, r => trivial
  | (false, d) :: l, vs, ⟨v, r, e1, h1, h2⟩ => by subst e1; show NoOwn p l r; exact RpM.noOwn h h2
  | (true, d) :: l, vs, ⟨q, r, e1, h1, h2, h3, h4, h5, h6⟩ => by
    subst e1
    refine ⟨fun z => ?_, RpM.noOwn h h6⟩
    cases z
    rw [h1] at h; cases h
end
section
variable {X : Cx} {T : Pn} {W : WX} {pos : Pos} {a b c : Expr} {es : List Expr} {ma : M D} {ms : M (List (Bool × D))}
theorem jm_nil : JM X T W [] xNil := PAimp pa_nil fun σ H Q ⟨e, F, er, h⟩ => h H F er Mv.refl _ rfl
theorem jm_cons (ha : JV X T W a ma) (hr : JM X T W es ms) (hs : starEach (a :: es) X.env = (false, eval a X.env) :: starEach es X.env := by rfl) : JM X T W (a :: es) (xCons ma ms) := by
  refine PAimp (pa_cons ha hr hs) fun σ H Q ⟨e, F, er, h⟩ => ⟨e, F, er, h.bind.mono fun d e1 H1 F1 er1 mv1 h1 v hv => ⟨e1, F1, er1, h1.bind.mono fun l e2 H2 F2 er2 mv2 h2 vs hvs => ?_⟩⟩
  exact h2 H2 F2 er2 Mv.refl _ ⟨v, vs, rfl, Rp.mono mv2.sub _ _ hv, hvs.low mv1.there⟩
theorem jm_consO (ha : JO X T W a ma) (hr : JM X T W es ms) (hs : starEach (a :: es) X.env = (false, eval a X.env) :: starEach es X.env := by rfl) : JM X T W (a :: es) (xConsO ma ms) := by
  refine PAimp (pa_cons ha hr hs) fun σ H Q ⟨e, F, er, h⟩ => ⟨e, F, er, ?_⟩
  have hb := h.bind
  unfold RunAt at hb ⊢
  cases q : ma e with
  | ok d e1 =>
    rw [q] at hb
    intro H1 F1 er1 mv1 p hp fp np ow
    have h1 : RunAt X.K X.mg T W e1 F1 (bnd ms fun l => ret ((true, d) :: l)) σ H1 fun l e' H' F' => ∀ vs, RpM X.K X.mg H e' σ H' F' l vs → Q vs H' := hb H1 F1 er1 mv1
    obtain ⟨o, ho⟩ := ow.there
    refine ⟨e1, F1, er1, h1.bind.mono fun l e2 H2 F2 er2 mv2 h2 vs hvs => ?_⟩
    obtain ⟨k1, k2⟩ := mv2.keep p o ho np
    have k1 := k1 (ow.nt ho)
    have f2 : F2 p = none := by
      cases z : F2 p with
      | none => rfl
      | some u =>
        rcases mv2.new p u z with z | z | z
        · rw [fp] at z; cases z
        · rw [ho] at z; cases z
        · exact (np z).elim
    exact h2 H2 F2 er2 Mv.refl _ ⟨p, vs, rfl, hp, f2, k2, ow.keep mv2.sub fun u hu => (mv2.keep p u hu np).1 (ow.nt hu), hvs.noOwn ho, hvs.low mv1.there⟩
  | exc x e1 => rw [q] at hb; exact hb
  | bad => rw [q] at hb; exact hb
def putM : List (Nat × Bool × D) → En → En
  | [], e => e
  | (i, false, d) :: l, e => putM l (e.set i (.val d))
  | (i, true, d) :: l, e => putM l (e.set i (.own d))
theorem setM {K : PySem.W.Frag} {mg : Str → Option Value} {H0 F0 : Hp} {e0 : En} {σ0 : St} : ∀ (is : List Nat) (l : List (Bool × D)) (vs : List V) (e : En) (σ : St) (H F : Hp), (∀ i ∈ is, NoP T i) → is.length = l.length → ER K mg T e σ H F → Mv e0 σ0 H0 F0 e σ H F → RpM K mg H0 e σ H F l vs →
    ER K mg T (putM (is.zip l) e) ((is.zip vs).foldl (fun σ q => σ.set q.1 (some q.2)) σ) H F ∧ Mv e0 σ0 H0 F0 (putM (is.zip l) e) ((is.zip vs).foldl (fun σ q => σ.set q.1 (some q.2)) σ) H F
  | [], [], vs, e, σ, H, F, _, _, er, mv, r => by rw [show vs = [] from r]; exact ⟨er, mv⟩
  | i :: is, (false, d) :: l, vs, e, σ, H, F, hT, hl, er, mv, ⟨v, r, e1, h1, h2⟩ => by
    subst e1
    obtain ⟨er2, mv2⟩ := er.setV (hT i (by simp)) h1
    refine setM is l r (e.set i (.val d)) (σ.set i (some v)) H F (fun j hj => hT j (by simp [hj])) (by simpa using hl) er2 (mv.trans mv2) ?_
    have tr : ∀ {l : List (Bool × D)} {vs : List V}, RpM K mg H0 e σ H F l vs → RpM K mg H0 (e.set i (.val d)) (σ.set i (some v)) H F l vs := by
      intro l
      induction l with
      | nil => intro vs h; exact h
      | cons x l ih =>
        intro vs h
        obtain ⟨bb, dd⟩ := x
        cases bb with
        | false => obtain ⟨w, r, e1, h1, h2⟩ := h; exact ⟨w, r, e1, h1, ih h2⟩
        | true =>
          obtain ⟨q, r, e1, h1, h2, h3, h4, h5, h6⟩ := h
          obtain ⟨o, ho⟩ := h4.there
          exact ⟨q, r, e1, h1, h2, (mv2.keep q o ho h3).2, h4, h5, ih h6⟩
    exact tr h2
  | i :: is, (true, d) :: l, vs, e, σ, H, F, hT, hl, er, mv, ⟨p, r, e1, h1, h2, h3, h4, h5, h6⟩ => by
    subst e1
    obtain ⟨er2, mv2⟩ := er.setO (H0 := H0) (hT i (by simp)) h2 h3 h4
    have mv3 := mv2 h1 mv
    refine setM is l r (e.set i (.own d)) (σ.set i (some (.ref p))) H F (fun j hj => hT j (by simp [hj])) (by simpa using hl) er2 mv3 ?_
    have tr : ∀ {l : List (Bool × D)} {vs : List V}, NoOwn p l vs → RpM K mg H0 e σ H F l vs → RpM K mg H0 (e.set i (.own d)) (σ.set i (some (.ref p))) H F l vs := by
      intro l
      induction l with
      | nil => intro vs _ h; exact h
      | cons x l ih =>
        intro vs no h
        obtain ⟨bb, dd⟩ := x
        cases bb with
        | false => obtain ⟨w, r, e1, h1, h2⟩ := h; subst e1; exact ⟨w, r, rfl, h1, ih no h2⟩
        | true =>
          obtain ⟨q, r, e1, h1, h2, h3, h4, h5, h6⟩ := h
          subst e1
          obtain ⟨no1, no2⟩ := no
          refine ⟨q, r, rfl, h1, h2, ?_, h4, h5, ih no2 h6⟩
          rintro ⟨j, x, q1, q2⟩
          by_cases hj : j = i
          · subst hj
            by_cases hlt : j < σ.length
            · rw [List.getElem?_set_self hlt] at q2; cases q2; exact no1 rfl
            · rw [List.getElem?_eq_none (by rw [List.length_set]; omega)] at q2; cases q2
          · rw [List.getElem?_set_ne (Ne.symm hj)] at q1 q2
            exact h3 ⟨j, x, q1, q2⟩
    exact tr h5 h6
def sParM (is : List Nat) (ms : M (List (Bool × D))) : M Fl := bnd ms fun l e => if l.length = is.length then .ok .nx (putM (is.zip l) e) else .bad
theorem js_parM2 {i j : Nat} {x y : Str} {px py pt : Pos} {kt k2 pt2} (hT : NoP T i) (hT' : NoP T j) (hc : X.calm = true) (hN : X.N.Nodup) (hi : X.N[i]? = some x) (hj : X.N[j]? = some y) (hij : i ≠ j)
    (hx : X.env.scope.names.lookup x = some .local) (hy : X.env.scope.names.lookup y = some .local) (ha : JM X T W [a, b] ms)
    (hw : swappedStores [.Tuple [.Name x px, .Name y py] kt pt] (.Tuple [a, b] k2 pt2) X.env = pure (some [x, y]) := by rfl)
    (hs : swapsWithSole [.Tuple [.Name x px, .Name y py] kt pt] (.Tuple [a, b] k2 pt2) pos.line X.env = pure false := by rfl) :
    JS X T W (.Assign [.Tuple [.Name x px, .Name y py] kt pt] (.Tuple [a, b] k2 pt2) pos) (sParM [i, j] ms) := by
  refine PSimp (ps_par hc hN hi hj hij hx hy ha hw hs) fun D σ H ⟨e, F, er, h⟩ => ⟨e, F, er, ?_⟩
  have hb := h.bind
  unfold RunAt at hb ⊢
  cases q : ms e with
  | ok l e1 =>
    rw [q] at hb
    intro H1 F1 er1 mv1 vs hvs
    unfold sParM at h
    unfold RunS bnd at h
    rw [q] at h
    dsimp only at h
    by_cases hl : l.length = [i, j].length
    · rw [if_pos hl] at h
      obtain ⟨er2, mv2⟩ := setM (T := T) [i, j] l vs e1 σ H1 F1 (fun z hz => by simp at hz; rcases hz with rfl | rfl; exact hT; exact hT') hl.symm er1 mv1 hvs
      have hv : ∃ v w, vs = [v, w] := by
        match l, hl, hvs with
        | [(b1, d1), (b2, d2)], _, hvs =>
          cases b1 <;> cases b2 <;> first
            | (obtain ⟨v, r, rfl, _, w, r2, rfl, _, h0⟩ := hvs; exact ⟨v, w, by rw [show r2 = [] from h0]⟩)
            | (obtain ⟨v, r, rfl, _, w, r2, rfl, _, _, _, _, _, h0⟩ := hvs; exact ⟨_, _, by rw [show r2 = [] from h0]⟩)
            | (obtain ⟨v, r, rfl, _, _, _, _, _, w, r2, rfl, _, h0⟩ := hvs; exact ⟨_, _, by rw [show r2 = [] from h0]⟩)
            | (obtain ⟨v, r, rfl, _, _, _, _, _, w, r2, rfl, _, _, _, _, _, h0⟩ := hvs; exact ⟨_, _, by rw [show r2 = [] from h0]⟩)
      obtain ⟨v, w, rfl⟩ := hv
      exact ⟨v, w, rfl, h _ H1 F1 er2 mv2⟩
    · rw [if_neg hl] at h; exact h.elim
  | exc x e1 => rw [q] at hb; exact hb
  | bad => rw [q] at hb; exact hb
theorem js_parM3 {i j k : Nat} {x y z : Str} {px py pz pt : Pos} {kt k2 pt2} (hT : NoP T i) (hT' : NoP T j) (hT2 : NoP T k) (hc : X.calm = true) (hN : X.N.Nodup) (hi : X.N[i]? = some x) (hj : X.N[j]? = some y) (hk : X.N[k]? = some z) (hij : i ≠ j) (hik : i ≠ k) (hjk : j ≠ k)
    (hx : X.env.scope.names.lookup x = some .local) (hy : X.env.scope.names.lookup y = some .local) (hz : X.env.scope.names.lookup z = some .local) (ha : JM X T W [a, b, c] ms)
    (hw : swappedStores [.Tuple [.Name x px, .Name y py, .Name z pz] kt pt] (.Tuple [a, b, c] k2 pt2) X.env = pure (some [x, y, z]) := by rfl)
    (hs : swapsWithSole [.Tuple [.Name x px, .Name y py, .Name z pz] kt pt] (.Tuple [a, b, c] k2 pt2) pos.line X.env = pure false := by rfl) :
    JS X T W (.Assign [.Tuple [.Name x px, .Name y py, .Name z pz] kt pt] (.Tuple [a, b, c] k2 pt2) pos) (sParM [i, j, k] ms) := by
  refine PSimp (ps_par3 hc hN hi hj hk hij hik hjk hx hy hz ha hw hs) fun Dn σ H ⟨e, F, er, h⟩ => ⟨e, F, er, ?_⟩
  have hb := h.bind
  unfold RunAt at hb ⊢
  cases q : ms e with
  | ok l e1 =>
    rw [q] at hb
    intro H1 F1 er1 mv1 vs hvs
    unfold sParM at h
    unfold RunS bnd at h
    rw [q] at h
    dsimp only at h
    by_cases hl : l.length = [i, j, k].length
    · rw [if_pos hl] at h
      obtain ⟨er2, mv2⟩ := setM (T := T) [i, j, k] l vs e1 σ H1 F1 (fun z hz => by simp at hz; rcases hz with rfl | rfl | rfl; exact hT; exact hT'; exact hT2) hl.symm er1 mv1 hvs
      have hone : ∀ {b : Bool} {d : Sr.D} {l : List (Bool × Sr.D)} {vs : List V} {e : En} {H F H0 : Hp}, RpM X.K X.mg H0 e σ H F ((b, d) :: l) vs → ∃ v r, vs = v :: r ∧ RpM X.K X.mg H0 e σ H F l r := by
        intro b d l vs e H F H0 h
        cases b with
        | false => obtain ⟨v, r, e1, _, h2⟩ := h; exact ⟨v, r, e1, h2⟩
        | true => obtain ⟨p, r, e1, _, _, _, _, _, h2⟩ := h; exact ⟨_, r, e1, h2⟩
      match l, hl, hvs, h, er2, mv2 with
      | [(b1, d1), (b2, d2), (b3, d3)], _, hvs, h, er2, mv2 =>
        obtain ⟨v1, r1, rfl, g1⟩ := hone hvs
        obtain ⟨v2, r2, rfl, g2⟩ := hone g1
        obtain ⟨v3, r3, rfl, g3⟩ := hone g2
        rw [show r3 = [] from g3] at *
        exact ⟨v1, v2, v3, rfl, h _ H1 F1 er2 mv2⟩
    · rw [if_neg hl] at h; exact h.elim
  | exc x e1 => rw [q] at hb; exact hb
  | bad => rw [q] at hb; exact hb
end
end Sr
namespace Sr
variable [TabL]
open PySem hiding start
open PySem.Spec L2
open PyProof.Rows hiding St
section
variable {K : PySem.W.Frag} {mg : Str → Option Value} {H0 : Hp} {e : En} {σ : St} {H F : Hp} {p : Addr} {o : HO}
theorem RpM.one {b : Bool} {d : Sr.D} {l : List (Bool × Sr.D)} {vs : List V} (h : RpM K mg H0 e σ H F ((b, d) :: l) vs) : ∃ v r, vs = v :: r ∧ RpM K mg H0 e σ H F l r := by
  cases b with
  | false => obtain ⟨v, r, e1, _, h2⟩ := h; exact ⟨v, r, e1, h2⟩
  | true => obtain ⟨p, r, e1, _, _, _, _, _, h2⟩ := h; exact ⟨_, r, e1, h2⟩
end
section
variable {X : Cx}
def gReprP : D → Option D
  | .str z => if (reprText z).length ≤ sizeLine then some (.str (reprText z)) else none
  | .bl b => some (.str (if b then "True" else "False"))
  | .non => some (.str "None")
  | _ => none
theorem call_reprP : CallR X (.builtin "repr") (fun xs H Q => (∃ z, xs = [.str z] ∧ (reprText z).length ≤ sizeLine ∧ Q (.str (reprText z)) H) ∨ (∃ b, xs = [.bl b] ∧ Q (.str (if b then "True" else "False")) H) ∨ (xs = [.non] ∧ Q (.str "None") H)) := by
  intro pins s σ H xs us Q I r h
  rcases h with ⟨z, rfl, hz, q⟩ | ⟨b, rfl, q⟩ | ⟨rfl, q⟩
  · obtain ⟨u, rfl, rx⟩ := vals1 r
    obtain ⟨t, rfl⟩ := rx
    exact PySem.P.repr_of_str (hsz := hz) ⟨.str _, H, I.kept (t' := s.toks + 1) fun b o e => e, ⟨_, rfl⟩, q⟩
  · obtain ⟨u, rfl, rx⟩ := vals1 r
    cases rx
    exact PySem.P.repr_of_bool ⟨.str _, H, I.kept (t' := s.toks + 1) fun b o e => e, ⟨_, rfl⟩, q⟩
  · obtain ⟨u, rfl, rx⟩ := vals1 r
    cases rx
    exact PySem.P.repr_of_none ⟨.str _, H, I.kept (t' := s.toks + 1) fun b o e => e, ⟨_, rfl⟩, q⟩
theorem c_reprP : Cal1 X (.builtin "repr") gReprP := by
  intro H F x d d' s r e
  cases d <;> simp only [gReprP, reduceCtorEq] at e
  · cases e
    exact ⟨_, call_reprP, fun Q q => .inr (.inr ⟨by rw [show x = .non from r], q H F _ Al.refl (by rw [rp_str])⟩)⟩
  · cases e
    exact ⟨_, call_reprP, fun Q q => .inr (.inl ⟨_, by rw [show x = .bl _ from r], q H F _ Al.refl (by rw [rp_str])⟩)⟩
  · split at e
    · rename_i hz
      cases e
      rw [rq_str] at r
      subst r
      exact ⟨_, call_reprP, fun Q q => .inl ⟨_, rfl, hz, q H F _ Al.refl (by rw [rp_str])⟩⟩
    · cases e
def gReprA : D → Option D := fun d => (gRepr d).or (gReprP d)
theorem c_reprA (hgu : X.A.guards = some []) (hu : X.A.units + 100 < cLine) : Cal1 X (.builtin "repr") gReprA := (c_repr hgu hu).or c_reprP
end
end Sr
namespace Sr
variable [TabL]
open PySem hiding start
open PySem.Spec L2
open PyProof.Rows hiding St
section
variable {K : PySem.W.Frag} {mg : Str → Option Value}
mutual
theorem ckV_ok : ∀ (d : D) (u : Value), ckV K d u = true → ∃ v, RelV v u ∧ ∀ F, Rp K mg F d v
  | .int i, u, h => by
    unfold ckV at h
    split at h
    · rw [decide_eq_true_eq] at h
      subst h
      exact ⟨.int i, ⟨_, rfl⟩, fun F => by rw [rp_int]⟩
    · cases h
  | .str z, u, h => by
    unfold ckV at h
    split at h
    · rw [decide_eq_true_eq] at h
      subst h
      exact ⟨.str z, ⟨_, rfl⟩, fun F => by rw [rp_str]⟩
    · cases h
  | .ct ds, u, h => by
    unfold ckV at h
    split at h
    · rename_i a
      split at h
      · rename_i o ho
        rw [Bool.and_eq_true, decide_eq_true_eq] at h
        obtain ⟨h1, h2⟩ := h
        split at h2
        · rename_i its n hd
          rw [Bool.and_eq_true, decide_eq_true_eq] at h2
          obtain ⟨vs, r, q⟩ := ckL_ok ds its.toList h2.2
          refine ⟨.ref a, rfl, fun F => ?_⟩
          unfold Rp
          exact ⟨a, vs, rfl, .inr ⟨o, its, n, ho, h1, hd, h2.1, r⟩, q F⟩
        · cases h2
      · cases h
    · cases h
  | .non, u, h => by unfold ckV at h; cases h
  | .bl _, u, h => by unfold ckV at h; cases h
  | .byt _, u, h => by unfold ckV at h; cases h
  | .lst _, u, h => by unfold ckV at h; cases h
  | .tup _, u, h => by unfold ckV at h; cases h
  | .dk _, u, h => by unfold ckV at h; cases h
  | .dt _, u, h => by unfold ckV at h; cases h
  | .obj _ _, u, h => by unfold ckV at h; cases h
  | .scr _, u, h => by unfold ckV at h; cases h
theorem ckL_ok : ∀ (ds : List D) (us : List Value), ckL K ds us = true → ∃ vs, Vals vs us ∧ ∀ F, RpL K mg F ds vs
  | [], us, h => by
    unfold ckL at h
    cases us with
    | nil => exact ⟨[], .nil, fun F => by unfold RpL; rfl⟩
    | cons u us => cases h
  | d :: ds, us, h => by
    unfold ckL at h
    cases us with
    | nil => cases h
    | cons u us =>
      rw [Bool.and_eq_true] at h
      obtain ⟨v, r, q⟩ := ckV_ok d u h.1
      obtain ⟨vs, r2, q2⟩ := ckL_ok ds us h.2
      exact ⟨v :: vs, .cons r r2, fun F => by unfold RpL; exact ⟨v, vs, rfl, q F, q2 F⟩⟩
end
end
theorem jv_gT {X : Cx} {T : Pn} {W : WX} {pos : Pos} {x : Str} {u : Value} {d : D} (hg : Gl X x) (hm : X.mg x = some u) (h : ckV X.K d u = true) (hx : (x == ("__debug__" : Str)) = false := by decide) : JV X T W (.Name x pos) (ret d) := by
  obtain ⟨v, r, q⟩ := ckV_ok (mg := X.mg) d u h
  exact jv_glob hg hm r q hx
end Sr
namespace Sr
variable [TabL]
open PySem hiding start
open PySem.Spec L2
open PyProof.Rows hiding St
section
variable {X : Cx} {T : Pn} {W : WX} {pos p2 p3 : Pos} {a b : Expr} {ma mb : M D}
def gIntS : List D → Option D
  | [.str z] => if z.length ≤ 640 then (PySem.intText? z).map D.int else none
  | _ => none
theorem c_intS : Cal X (.type "int") gIntS := by
  intro H F xs ds d s r e
  unfold gIntS at e
  split at e
  · split at e
    · rename_i hz
      rw [Option.map_eq_some_iff] at e
      obtain ⟨n, e, rfl⟩ := e
      obtain ⟨v, rfl, r0⟩ := rl_one r
      rw [rp_str] at r0; subst r0
      exact ⟨_, call_int_str, fun Q q => ⟨_, n, rfl, e, hz, q H F _ Al.refl (by rw [rp_int])⟩⟩
    · cases e
  · cases e
def fm2 (i : Int) : Str := if decide (i < 10) = true then (⟨#[48]⟩ : Str) ++ Str.ofString (toString i) else Str.ofString (toString i)
def gFmt2 : D → Option D
  | .int i => if 0 ≤ i ∧ i < 100 then some (.str (fm2 i)) else none
  | _ => none
theorem noDg_ok {pins : List (Addr × Obj)} {σ : L2.St} {H : Hp} {s : Shared} (I : Inv X pins σ H s) (h : noDg X.K = true) : s.heap.NoDigits := by
  obtain ⟨mc, G, _⟩ := I.nolimit
  exact ⟨mc, G, PySem.W.ns_none_of I.kIn G (of_decide_eq_true h)⟩
theorem spec_ok : intSpecOk "02d" = true := by decide +kernel
theorem spec_w : intSpecWidthOf "02d" = 2 := by decide +kernel
theorem spec_z : intSpecZeroOf "02d" = true := by decide +kernel
theorem pe_fmt2 {e sp : Expr} {te ts : TE} (hn : noDg X.K = true) (he : PE X e te) (hs : PE X sp ts) : PE X (.FormattedValue e (-1) (some sp) pos) (fun σ H Q => te σ H fun x H1 => ts σ H1 fun y H2 => ∃ i : Int, x = .int i ∧ y = .str "02d" ∧ 0 ≤ i ∧ i < 100 ∧ Q (.str (fm2 i)) H2) := by
  refine ⟨fun pins s σ H Q I h => ?_⟩
  refine wpAny_FormattedValue_spec (thn (he.run pins s σ H _ I h) fun v s1 ⟨x, H1, I1, r1, q1⟩ => thn (hs.run pins s1 σ H1 _ I1 q1) fun r s2 ⟨y, H2, I2, r2, i, ex, ey, h0, h1, q2⟩ => ?_)
  subst ex ey
  obtain ⟨t, rfl⟩ := r1
  obtain ⟨u, rfl⟩ := r2
  refine ⟨_, u, rfl, ?_⟩
  have hb : i.natAbs < 10 ^ 4300 := Nat.lt_of_lt_of_le (show i.natAbs < 10 ^ 2 by omega) (Nat.pow_le_pow_right (by omega) (by omega))
  refine formatField_int_specOf (noDg_ok I2 hn) hb spec_ok (fun W hW f => ?_) (by decide)
  rw [spec_w] at hW
  have hp := f.pad2 spec_z hW h0 h1
  rw [hp]
  exact ⟨.str (fm2 i), H2, I2.tok _, ⟨_, rfl⟩, q2⟩
theorem jv_fmt2 {j : Nat} (hn : noDg X.K = true) (ha : JV X T W a ma) : JV X T W (.FormattedValue a (-1) (some (.JoinedStr [.Constant (.str "02d") j p3] p2)) pos) (m1 gFmt2 ma) := by
  have hsp : JV X T W (.JoinedStr [.Constant (.str "02d") j p3] p2) (ret (.str "02d")) := pe_joined1 jv_str
  refine PEimp (pe_fmt2 hn ha hsp) fun σ H Q ⟨e, F, er, h⟩ => ⟨e, F, er, h.bind.mono fun d e1 H1 F1 er1 mv1 h1 v hv => ?_⟩
  obtain ⟨z, hz, fin⟩ := h1.fin er1
  cases d with
  | int i =>
    simp only [gFmt2] at hz
    split at hz
    · rename_i hc
      cases hz
      rw [rp_int] at hv
      subst hv
      have eo : opt (gFmt2 (.int i)) e1 = .ok (.str (fm2 i)) e1 := by
        simp only [opt, gFmt2]
        rw [if_pos hc]
      unfold RunAt at h1
      rw [eo] at h1
      refine ⟨e1, F1, er1, ?_⟩
      intro H2 F2 er2 mv2 w hw
      rw [rp_str] at hw
      exact ⟨i, rfl, hw, hc.1, hc.2, h1 H2 F2 er2 mv2 _ (by rw [rp_str])⟩
    · cases hz
  | _ => cases hz
end
end Sr
namespace Sr
variable [TabL]
open PySem hiding start
open PySem.Spec L2
open PyProof.Rows hiding St
def BackR (X : Cx) (r : V → Hp → VK → Prop) : Prop :=
  ∀ (pins : List (Addr × Obj)) (s : Shared) (σ : St) (H : Hp) (x : V) (v : Value) (n : Tok) (sl : Addr) (Q : VK), Inv X pins σ H s → RelV x v → s.heap.get? sl = some { cls := .type "slice", data := .fields #[.none, .none, .int (-1) n] } → r x H Q →
    ∃ T id, typeLookup (.type T) "__getitem__" = pure (some (.builtin id)) ∧ s.TypeIs v T ∧ wpAny (model X.prog X.w) X.A (getItem v (.ref sl)) (EP X pins σ Q) X.xe s
theorem BackR.or {X : Cx} {r r' : V → Hp → VK → Prop} (h : BackR X r) (h' : BackR X r') : BackR X fun x H Q => r x H Q ∨ r' x H Q := by
  intro pins s σ H x v n sl Q I rx hs q
  rcases q with q | q
  · exact h pins s σ H x v n sl Q I rx hs q
  · exact h' pins s σ H x v n sl Q I rx hs q
end Sr
namespace Sr
variable [TabL]
open PySem hiding start
open PySem.Spec L2
open PyProof.Rows hiding St
def charsD (z : Str) : List D := z.cps.toList.map fun c => .str ⟨#[c]⟩
theorem chars_get {z : Str} {i : Nat} {v : V} (h : ((z.cps[i]?).map fun c => V.str ⟨#[c]⟩) = some v) : ∃ d, (charsD z)[i]? = some d ∧ ∀ K mg F, Rp K mg F d v := by
  rw [Option.map_eq_some_iff] at h
  obtain ⟨c, h, rfl⟩ := h
  refine ⟨.str ⟨#[c]⟩, ?_, fun K mg F => by rw [rp_str]⟩
  unfold charsD
  rw [List.getElem?_map, Array.getElem?_toList, h]
  rfl
end Sr
namespace Sr
variable [TabL]
open PySem hiding start
open PySem.Spec L2
open PyProof.Rows hiding St
def vP : V → Option PyData
  | .non => some .none
  | .bl b => some (.bool b)
  | .int i => some (.int i)
  | .str x => some (.str x)
  | _ => none
def kP : Key → PyData
  | .inl i => .int i
  | .inr x => .str x
def vPs : List (Key × V) → Option (List (PyData × PyData))
  | [] => some []
  | (k, v) :: r => (vP v).bind fun p => (vPs r).map fun ps => (kP k, p) :: ps
def dP : D → Option PyData
  | .non => some .none
  | .bl b => some (.bool b)
  | .int i => some (.int i)
  | .str x => some (.str x)
  | _ => none
def dPs : List (Key × D) → Option (List (PyData × PyData))
  | [] => some []
  | (k, v) :: r => (dP v).bind fun p => (dPs r).map fun ps => (kP k, p) :: ps
theorem vP_reads {h : Heap} {v : V} {u : Value} {p : PyData} (e : vP v = some p) (r : RelV v u) : Reads h u p [] := by
  cases v <;> simp only [vP, Option.some.injEq, reduceCtorEq] at e <;> subst e
  · cases r; exact .none
  · cases r; exact .bool _
  · obtain ⟨t, rfl⟩ := r; exact .int _ t
  · obtain ⟨t, rfl⟩ := r; exact .str _ t
theorem kP_reads {h : Heap} {k : Key} {u : Value} (e : keyIs k u = true) : Reads h u (kP k) [] := by
  rcases keyIs_shape e with ⟨i, t, rfl, rfl⟩ | ⟨x, t, rfl, rfl⟩
  · exact .int _ t
  · exact .str _ t
theorem vPs_reads {P : Program} {w : World} {h : Heap} : ∀ {ys : List (Key × V)} {vs : List (Key × Value)} {es : List DictEntry} {ps : List (PyData × PyData)}, vPs ys = some ps → KV ys vs → Pairs (mixKind P w) es vs → ReadsAll h (es.map (·.key)) (ps.map (·.1)) [] ∧ ReadsAll h (es.map (·.val)) (ps.map (·.2)) []
  | [], vs, es, ps, e, r, q => by
    cases e
    cases r
    cases q
    exact ⟨.nil, .nil⟩
  | (k, v) :: ys, vs, es, ps, e, r, q => by
    simp only [vPs, Option.bind_eq_some_iff, Option.map_eq_some_iff] at e
    obtain ⟨p, e1, ps', e2, rfl⟩ := e
    cases r with
    | cons r1 r2 =>
      cases q with
      | cons q1 q2 q3 =>
        rename_i kv _ en _
        obtain ⟨h1, h2⟩ := vPs_reads (h := h) e2 r2 q3
        obtain ⟨a, b⟩ := r1
        have a : k = kv.1 := a
        have b : RelV v kv.2 := b
        have k1 : Reads h en.key (kP k) [] := kP_reads (by rw [a]; exact q1)
        have k2 : Reads h en.val p [] := vP_reads e1 (by rw [q2]; exact b)
        exact ⟨.cons (as := []) (bs := []) k1 h1, .cons (as := []) (bs := []) k2 h2⟩
section
variable {X : Cx}
theorem call_reprK (hgu : X.A.guards = some []) (hu : X.A.units + 100 < cLine) : CallR X (.builtin "repr") (fun xs H Q => ∃ (a : Addr) (ys : List (Key × V)) (ps : List (PyData × PyData)), xs = [.ref a] ∧ Rd H a (.dK ys) ∧ vPs ys = some ps ∧ (PyData.dict ps).showable = true ∧ (PyData.dict ps).depth ≤ 64 ∧ (PyData.dict ps).shown.length ≤ sizeLine ∧ Q (.str (PyData.dict ps).shown) H) := by
  intro pins s σ H xs us Q I r h
  obtain ⟨a, ys, ps, rfl, hH, hp, h1, h2, h3, hq⟩ := h
  obtain ⟨u, rfl, ru⟩ := vals1 r
  obtain rfl : u = Value.ref a := ru
  obtain ⟨_, hs, vs, kv, o, es, ep, g1, g2, g3, _, g4, _⟩ := dk_rd I.hok hH
  obtain ⟨r1, r2⟩ := vPs_reads (h := s.heap) hp kv g4
  have rd : Reads s.heap (.ref a) (.dict ps) (a :: [] ++ []) := .dict g1 g2.1 g3 r1 r2
  exact repr_of_reads' rd h1 (fun _ q => by
    have : sysModules = a := by simpa using q
    rw [this] at hs
    simp at hs) hgu (by omega) (fun _ _ e => e) (fun h' u tk hk => ⟨.str _, H, I.kept hk, ⟨_, rfl⟩, hq⟩) h3
theorem dPs_vPs {K : PySem.W.Frag} {mg : Str → Option Value} {F : Hp} : ∀ {kvs : List (Key × D)} {ys : List (Key × V)} {ps : List (PyData × PyData)}, dPs kvs = some ps → RpK K mg F kvs ys → vPs ys = some ps
  | [], ys, ps, e, r => by unfold RpK at r; subst r; exact e
  | (k, d) :: kvs, ys, ps, e, r => by
    unfold RpK at r
    obtain ⟨v, vs, rfl, r1, r2⟩ := r
    simp only [dPs, Option.bind_eq_some_iff, Option.map_eq_some_iff] at e
    obtain ⟨p, e1, ps', e2, rfl⟩ := e
    have := dPs_vPs e2 r2
    have hv : vP v = some p := by
      cases d <;> simp only [dP, Option.some.injEq, reduceCtorEq] at e1 <;> subst e1
      · rw [rp_non] at r1; subst r1; rfl
      · rw [rp_bl] at r1; subst r1; rfl
      · rw [rp_int] at r1; subst r1; rfl
      · rw [rp_str] at r1; subst r1; rfl
    simp only [vPs, hv, this, Option.bind_some, Option.map_some]
def gReprK : D → Option D
  | .dk kvs => match dPs kvs with
    | some ps => if ((PyData.dict ps).showable && decide ((PyData.dict ps).depth ≤ 64) && decide ((PyData.dict ps).shown.length ≤ sizeLine)) = true then some (.str (PyData.dict ps).shown) else none
    | none => none
  | _ => none
theorem c_reprK (hgu : X.A.guards = some []) (hu : X.A.units + 100 < cLine) : Cal1 X (.builtin "repr") gReprK := by
  intro H F x d d' s r e
  unfold gReprK at e
  split at e
  · split at e
    · rename_i ps hp
      split at e
      · rename_i hh
        cases e
        simp only [Bool.and_eq_true, decide_eq_true_eq] at hh
        obtain ⟨a, ys, rfl, hH, rk⟩ := r
        exact ⟨_, call_reprK hgu hu, fun Q q => ⟨a, ys, ps, rfl, hH, dPs_vPs hp rk, hh.1.1, hh.1.2, hh.2, q H F _ Al.refl (by rw [rp_str])⟩⟩
      · cases e
    · cases e
  · cases e
def gReprI : D → Option D
  | .int i => if i.natAbs.log2 < 1920 then some (.str (toString i)) else none
  | _ => none
theorem call_reprI : CallR X (.builtin "repr") (fun xs H Q => ∃ i : Int, xs = [.int i] ∧ i.natAbs.log2 < 1920 ∧ Q (.str (toString i)) H) := by
  intro pins s σ H xs us Q I r h
  obtain ⟨i, rfl, hz, q⟩ := h
  obtain ⟨u, rfl, rx⟩ := vals1 r
  obtain ⟨t, rfl⟩ := rx
  exact PySem.P.repr_of_int hz ⟨.str _, H, I.kept (t' := s.toks + 1) fun b o e => e, ⟨_, rfl⟩, q⟩
theorem c_reprI : Cal1 X (.builtin "repr") gReprI := by
  intro H F x d d' s r e
  unfold gReprI at e
  split at e
  · split at e
    · rename_i hz
      cases e
      exact ⟨_, call_reprI, fun Q q => ⟨_, by rw [show x = .int _ from r], hz, q H F _ Al.refl (by rw [rp_str])⟩⟩
    · cases e
  · cases e
def gReprB : D → Option D := fun d => (gReprA d).or ((gReprK d).or (gReprI d))
theorem c_reprB (hgu : X.A.guards = some []) (hu : X.A.units + 100 < cLine) : Cal1 X (.builtin "repr") gReprB := (c_reprA hgu hu).or ((c_reprK hgu hu).or c_reprI)
end
end Sr
namespace Sr
open PySem hiding start
open PySem.Spec L2
open PyProof.Rows hiding St
theorem obsL_eq {as : List Addr} {fa : List He.Fa} {fn : List DefZ} {ex : PySem.W.Frag → Bool} {g : Addr → Option Obj} {s : Shared} (h : ∀ a, g a = s.heap.get? a) : obsL as fa fn ex g = (hookL as fa fn ex).obs s := by
  have e : g = s.heap.get? := funext h
  rw [e] <;> rfl
end Sr
namespace Sr
variable [TabL]
open PySem hiding start
open PySem.Spec L2
open PyProof.Rows hiding St
def IteS (x : Str) : It :=
  ⟨fun i _ => i < x.cps.size, fun i H v H' => ∃ T c, v = .ref T ∧ H T = none ∧ H' = upd H T (.tup [.int (i : Nat), .str ⟨#[c]⟩]) ∧ x.cps[i]? = some c, fun i _ => i = x.cps.size⟩
theorem turn_enumS {P : Program} {w : World} {K : PySem.W.Frag} {elts : List Expr} {kk : Nat} {tpos : Pos} {x : Str} {t : Tok} (e it : Addr) :
    Turn P w K (.Tuple elts kk tpos) (IteS x) [e, it] e (fun i h => (∃ old, IsEnum h e it ((i : Nat) : Int) old) ∧ h.IsStrIter it (strIterType x) x t i ∧ e ≠ it) where
  mem := by simp
  obj := fun i h st b hb => by
    obtain ⟨⟨old, he⟩, ⟨o, ho, hc, hd⟩, _⟩ := st
    have e' : b = e ∨ b = it := by simpa using hb
    rcases e' with z | z
    · rw [z]; exact ⟨_, he, fun v q => nomatch q⟩
    · rw [z]; exact ⟨o, ho, fun v q => by rw [hd] at q; cases q⟩
  keep := fun i h h' st k => let ⟨⟨old, he⟩, ⟨o, ho, r⟩, hne⟩ := st; ⟨⟨old, k e (by simp) _ he⟩, ⟨o, k it (by simp) _ ho, r⟩, hne⟩
  item := by
    intro X hP hw hK hc i pins s σ H E I hf st hg
    subst hP hw hK
    obtain ⟨⟨old, he⟩, hit, hne⟩ := st
    have hg : i < x.cps.size := hg
    have hel : e < s.heap.objs.size := Heap.lt_size he
    have hil : it < s.heap.objs.size := by obtain ⟨_, q, _⟩ := hit; exact Heap.lt_size q
    refine wpAny_pyNext_enum_itemC (Draws.text (prog := X.prog) (w := X.w) (A := X.A.in1) (I.ok.hd hc) it x t) he hit hg hne (by simp [hne]) fun u' h' tk hPx ho hit' hT hsz hk => ?_
    obtain ⟨c, tu, hc', rfl⟩ := hPx
    refine ⟨_, rfl, wpAny_letOwnedTupleGo_enum (s := { s with heap := h', toks := tk + 1 }) ho fun h'' he' sb => ?_⟩
    have hT2 : h''.get? s.heap.objs.size = some { cls := .type "tuple", data := .seq #[.int i tk, .str ⟨#[c]⟩ tu] } := (sb.2 _ (Nat.ne_of_gt hel)).trans hT
    have new : ObjOk X.prog X.w (upd H s.heap.objs.size (.tup [.int (i : Nat), .str ⟨#[c]⟩])) h'' s.heap.objs.size (.tup [.int (i : Nat), .str ⟨#[c]⟩]) :=
      ⟨by show 2 ≤ sizeLine; decide, [.int i tk, .str ⟨#[c]⟩ tu], .cons ⟨_, rfl⟩ (.cons ⟨_, rfl⟩ .nil), ⟨_, hT2, rfl, _, rfl⟩⟩
    have I1 : Inv X pins σ (upd H s.heap.objs.size (.tup [.int (i : Nat), .str ⟨#[c]⟩])) { s with heap := h'', toks := tk + 1 } :=
      I.turnedNew (ch := [e, it]) (fun b ob hb q => (sb.2 b (fun z => hb (by simp [z]))).trans (hk b ob (fun z => hb (by simp [z])) (fun z => hb (by simp [z])) q)) hf (Nat.le_refl _) new
    refine ⟨.ref s.heap.objs.size, _, I1, rfl, ⟨_, c, rfl, I.hok.fresh (Nat.le_refl _), rfl, hc'⟩, ⟨⟨.str ⟨#[c]⟩ tu, ?_⟩, ?_, hne⟩, fun b hb => ?_⟩
    · have e1 : ((i + 1 : Nat) : Int) = (i : Int) + 1 := by omega
      rw [e1]; exact he'
    · obtain ⟨o, q, r⟩ := hit'
      exact ⟨o, (sb.2 it (Ne.symm hne)).trans q, r⟩
    · have hb' : b < s.heap.objs.size := by
        have e' : b = e ∨ b = it := by simpa using hb
        rcases e' with z | z
        · rw [z]; exact hel
        · rw [z]; exact hil
      rw [upd_ne (Nat.ne_of_lt hb')]
      exact (hf b hb).1
  done := by
    intro X hP hw hK hc i pins s σ H E I hf st hg
    subst hP hw hK
    obtain ⟨⟨old, he⟩, hit, hne⟩ := st
    have hg : i = x.cps.size := hg
    subst hg
    obtain ⟨f0, f1, f2, f3, f4, f5⟩ := hf it (by simp)
    exact wpAny_pyNext_enum_endD (Draws.text (prog := X.prog) (w := X.w) (A := X.A.in1) (I.ok.hd hc) it x t) he hit fun h' eb => ⟨rfl, I.turned (t' := s.toks) (fun b o hb q => eb b o hb q) f0 f1 f3 f4 f5⟩
  self := fun A i s Q E st h => let ⟨⟨_, he⟩, _⟩ := st; wpAny_pyIter_enum he h
def iEnA (K : PySem.W.Frag) (ta : TA) : TI := fun σ H R => ta σ H fun vs H1 => (∃ x, vs = [.str x] ∧ R (IteS x) H1) ∨ (∃ a xs, vs = [.ref a] ∧ SqT K H1 a xs ∧ R (IteT K a) H1)
theorem pi_enumA {X : Cx} {e : Expr} {ta : TA} {p pos tpos : Pos} {elts : List Expr} {kk : Nat} (hg : Gl X "enumerate") (hm : X.mg "enumerate" = none) (ha : PA X [e] ta) (hs : starEach [e] X.env = [(false, eval e X.env)] := by rfl) :
    PI X (.Tuple elts kk tpos) (.Call (.Name "enumerate" p) [e] [] pos) (iEnA X.K ta) := by
  refine ⟨fun pins s σ H R I h => ?_⟩
  refine Call_ (ld_blt I hg hm boot_enumerate (PyProof.Rows.callWith_type1 (thn (ha.run pos pins s σ H _ I h) fun us s1 ⟨vs, H1, I1, r1, q1⟩ => ?_) hs rfl))
  rcases q1 with ⟨x, rfl, q⟩ | ⟨a, xs, rfl, hq, q⟩
  · cases r1 with
    | cons r rr =>
      cases rr
      obtain ⟨t, rfl⟩ := r
      refine call_enum1 (begins_text x t) True.intro fun h' he hit hsz hk => wpAny_pyIter_enum he ?_
      have I2 : Inv X pins σ H1 { s1 with heap := h' } := I1.kept (t' := s1.toks) hk
      refine ⟨s1.heap.objs.size + 1, [s1.heap.objs.size + 1, s1.heap.objs.size], _, _, H1, rfl, I2, turn_enumS (x := x) (t := t) (s1.heap.objs.size + 1) s1.heap.objs.size, ⟨⟨.none, he⟩, ⟨_, hit, rfl, rfl⟩, Nat.succ_ne_self _⟩, fun b hb => ?_, q⟩
      have e' : b = s1.heap.objs.size + 1 ∨ b = s1.heap.objs.size := by simpa using hb
      have hle : s1.heap.objs.size ≤ b := by
        rcases e' with z | z
        · rw [z]; exact Nat.le_add_right _ _
        · rw [z]; exact Nat.le_refl _
      exact I1.fpOk hle (I1.hok.fresh hle)
  · cases r1 with
    | cons r rr =>
      cases rr
      cases r
      obtain ⟨its, rv, p', hz⟩ := I1.tuple hq
      have hal : a < s1.heap.objs.size := by obtain ⟨o, ho, _⟩ := p'; exact Heap.lt_size ho
      refine call_enum1 (begins_tuple a its.toArray) p' fun h' he hit hsz hk => wpAny_pyIter_enum he ?_
      have I2 : Inv X pins σ H1 { s1 with heap := h' } := I1.kept (t' := s1.toks) hk
      refine ⟨s1.heap.objs.size + 1, [s1.heap.objs.size + 1, s1.heap.objs.size], _, _, H1, rfl, I2, turn_enumT a (s1.heap.objs.size + 1) s1.heap.objs.size, ⟨⟨.none, he⟩, ⟨_, hit, rfl, rfl⟩, Nat.succ_ne_self _, Nat.ne_of_lt hal, Nat.ne_of_lt (Nat.lt_succ_of_lt hal)⟩, fun b hb => ?_, q⟩
      have e' : b = s1.heap.objs.size + 1 ∨ b = s1.heap.objs.size := by simpa using hb
      have hle : s1.heap.objs.size ≤ b := by
        rcases e' with z | z
        · rw [z]; exact Nat.le_add_right _ _
        · rw [z]; exact Nat.le_refl _
      exact I1.fpOk hle (I1.hok.fresh hle)
theorem walk_enumS {x : Str} : Walk (IteS x) x.cps.size (fun _ => True) (YPair (fun i => some (.int (i : Nat))) (fun i => (x.cps[i]?).map fun c => .str ⟨#[c]⟩)) := by
  refine ⟨fun i _ hi _ => hi, fun _ _ => rfl, fun i H v H' _ _ q => ?_⟩
  obtain ⟨T, c, h1, h2, h3, h4⟩ := q
  exact ⟨T, _, _, h1, h2, h3, rfl, by simp [h4]⟩
section
variable {X : Cx} {T : Pn} {W : WX} {pos tpos p : Pos} {a b : Expr} {elts : List Expr} {kk : Nat} {ms : M (List D)}
def gEnumA : List D → Option (List D)
  | [.tup ds] => some (enumL ds)
  | [.str z] => some (enumL (charsD z))
  | _ => none
def mEnumA (ms : M (List D)) : M (List D) := bnd ms fun ds => opt (gEnumA ds)
theorem ji_enumA (hg : Gl X "enumerate") (hm : X.mg "enumerate" = none) (ha : JA X T W [a] ms) (hs : starEach [a] X.env = [(false, eval a X.env)] := by rfl) : JI X T W (.Tuple elts kk tpos) (.Call (.Name "enumerate" p) [a] [] pos) (mEnumA ms) := by
  refine PIimp (pi_enumA hg hm ha hs) fun σ H R ⟨e, F, er, h⟩ => ⟨e, F, er, h.bind.mono fun ds e1 H1 F1 er1 mv1 h1 vs hvs => ?_⟩
  obtain ⟨z, hz, fin⟩ := h1.fin er1
  unfold gEnumA at hz
  split at hz
  · rename_i ds'
    cases hz
    obtain ⟨v, rfl, r⟩ := rl_one hvs
    rw [rp_tup] at r
    obtain ⟨l, xs, rfl, hl, rl⟩ := r
    refine .inr ⟨l, xs, rfl, seqT_mono er1.sub hl, fin H1 F1 Al.refl _ ?_⟩
    refine walks_pair (walk_enumT (K := X.K) (a := l) (xs := xs)) (by unfold enumL; rw [List.length_map, List.length_zipIdx]; exact rl.len) (fun H s => seqT_mono s hl) fun i x y hi h1 h2 => ?_
    cases h1
    obtain ⟨d, h3, h4⟩ := rl.getV h2
    refine ⟨.int (i : Nat), d, ?_, by rw [rp_int], h4⟩
    unfold enumL
    rw [List.getElem?_map, List.getElem?_zipIdx, h3]; simp
  · rename_i x
    cases hz
    obtain ⟨v, rfl, r⟩ := rl_one hvs
    rw [rp_str] at r
    subst r
    refine .inl ⟨x, rfl, fin H1 F1 Al.refl _ ?_⟩
    refine walks_pair (walk_enumS (x := x)) (by unfold enumL charsD; simp) (fun H s => True.intro) fun i u y hi h1 h2 => ?_
    cases h1
    obtain ⟨d, h3, h4⟩ := chars_get h2
    refine ⟨.int (i : Nat), d, ?_, by rw [rp_int], h4 _ _ _⟩
    unfold enumL
    rw [List.getElem?_map, List.getElem?_zipIdx, h3]; simp
  · cases hz
end
end Sr
namespace Sr
variable [TabL]
open PySem hiding start
open PySem.Spec L2
open PyProof.Rows hiding St
def kD : Key → D
  | .inl i => .int i
  | .inr x => .str x
theorem rp_kD (K : PySem.W.Frag) (mg : Str → Option Value) (F : Hp) (k : Key) : Rp K mg F (kD k) (kV k) := by
  cases k
  · show Rp K mg F (.int _) _
    rw [rp_int]; rfl
  · show Rp K mg F (.str _) _
    rw [rp_str]; rfl
section
variable {X : Cx} {T : Pn} {W : WX} {pos p : Pos} {f : Fnc} {k j n : Nat} {x : Str} {ps : List Str} {dvs : List V} {dds : List D}
theorem pe_callG0 {sp : Sp} {fa : Addr} {fd : FuncData} {ds : List Value} (F : FnG X.prog X.w X.K X.mg X.base k fa fd ps sp) (hr : Room k X.A) (hgu : X.A.guards = some []) (hg : Gl X x) (hm : X.mg x = some (.ref fa)) (hk : PySem.W.keepIn X.K (.ref fa) = true) (hb : Binds X.K fd ps ds) (hd : Vals dvs ds) (tk : L2N.Takes X W)
    (hdb : (x == ("__debug__" : Str)) = false := by decide) : PE X (.Call (.Name x p) [] [] pos) (tCallSD sp dvs (fun σ => WE W σ) tNil) := by
  refine ⟨fun pins s σ H Q I h => wpAny_Call_Name_kw (ld_glob I hg hm ?_ hdb)⟩
  exact PySem.W.callWith_K0 I.kIn hk (run_g (us := []) F hr hgu hb hd tk I .nil h)
theorem jv_c00 (G : Fn X k x (spF0 X.K X.mg false n f) ps dvs) (hp : Pl X j) (tk : L2N.Takes X W) (hdd : ∀ F, RpL X.K X.mg F dds dvs) (hg : Gl X x) (hk : k ≤ j := by decide) (hn : dds.length = n := by rfl)
    (hdb : (x == ("__debug__" : Str)) = false := by decide) : JV X T W (.Call (.Name x p) [] [] pos) (mC0 f dds mNil) := by
  obtain ⟨fa, fd, ds0, FO, hm, hk, hb, hd⟩ := G.ex
  refine PEimp (pe_callG0 FO (hp.room.mono (by assumption)) hp.gu hg hm hk hb hd tk hdb) fun σ H Q ⟨e, F, er, h⟩ => ?_
  have hb2 := h.bind
  unfold RunAt mNil Sr.ret at hb2
  dsimp only at hb2
  exact ap0_v (hb2 H F er Mv.refl) er (RpL.append (by rw [rl_nil]) (hdd F)) (by rw [List.length_append]; simpa using hn)
end
end Sr
namespace Sr
variable [TabL]
open PySem hiding start
open PySem.Spec L2
open PyProof.Rows hiding St
section
variable {K : PySem.W.Frag} {mg : Str → Option Value} {T : Pn} {e : En} {σ : St} {H F : Hp} {j : Nat} {p : Addr} {d : D}
theorem set_no_get {i : Nat} {x : Sl} (h : (e.set j .no)[i]? = some x) (n : x ≠ .no) : i ≠ j ∧ e[i]? = some x := by
  by_cases hj : i = j
  · subst hj
    rw [List.getElem?_set] at h
    split at h
    · split at h
      · cases h; exact (n rfl).elim
      · cases h
    · rename_i z; exact (z rfl).elim
  · rw [List.getElem?_set_ne (Ne.symm hj)] at h
    exact ⟨hj, h⟩
theorem Ow.dropO {a : Addr} (h : Ow (e.set j .no) σ a) : Ow e σ a := by
  obtain ⟨i, x, h1, h2⟩ := h
  exact ⟨i, x, (set_no_get h1 (fun z => nomatch z)).2, h2⟩
theorem ER.dropO (er : ER K mg T e σ H F) : ER K mg T (e.set j .no) σ H F :=
  ⟨er.sub, fun i d h => er.val i d (set_no_get h (fun z => nomatch z)).2, fun i d h => er.own i d (set_no_get h (fun z => nomatch z)).2, fun i k q d d' h1 h2 h3 h4 => er.inj i k q d d' (set_no_get h1 (fun z => nomatch z)).2 (set_no_get h2 (fun z => nomatch z)).2 h3 h4, by rw [List.length_set]; exact er.len, er.pin, er.tb⟩
theorem ER.dropN (er : ER K mg T e σ H F) (h : e[j]? = some (.own d)) (hp : σ[j]? = some (some (.ref p))) : ¬ Ow (e.set j .no) σ p := by
  rintro ⟨i, x, h1, h2⟩
  obtain ⟨h3, h4⟩ := set_no_get h1 (fun z => nomatch z)
  exact h3 (er.inj i j p x d h4 h h2 hp)
theorem ER.backO (er : ER K mg T e σ H F) (hp : σ[j]? = some (some (.ref p))) (fp : F p = none) (np : ¬ Ow e σ p) (ow : OwnAt K mg H F p d) : ER K mg T (e.set j (.own d)) σ H F := by
  have get : ∀ (i : Nat) (x : Sl), (e.set j (.own d))[i]? = some x → (i ≠ j ∧ e[i]? = some x) ∨ (i = j ∧ x = .own d) := fun i x h => by
    by_cases hj : i = j
    · subst hj
      rw [List.getElem?_set] at h
      split at h
      · split at h
        · cases h; exact .inr ⟨rfl, rfl⟩
        · cases h
      · rename_i z; exact (z rfl).elim
    · rw [List.getElem?_set_ne (Ne.symm hj)] at h
      exact .inl ⟨hj, h⟩
  refine ⟨er.sub, fun i x h => ?_, fun i x h => ?_, fun i k q x y h1 h2 h3 h4 => ?_, by rw [List.length_set]; exact er.len, er.pin, er.tb⟩
  · rcases get i _ h with ⟨_, h⟩ | ⟨_, h⟩
    · exact er.val i x h
    · cases h
  · rcases get i _ h with ⟨_, h'⟩ | ⟨gi, h'⟩
    · exact er.own i x h'
    · cases h'; rw [gi]; exact ⟨p, hp, fp, ow⟩
  · rcases get i _ h1 with ⟨g1, q1⟩ | ⟨gi, q1⟩
    · rcases get k _ h2 with ⟨g2, q2⟩ | ⟨gk, q2⟩
      · exact er.inj i k q x y q1 q2 h3 h4
      · rw [gk, hp] at h4; cases h4
        exact (np ⟨i, x, q1, h3⟩).elim
    · rcases get k _ h2 with ⟨g2, q2⟩ | ⟨gk, q2⟩
      · rw [gi, hp] at h3; cases h3
        exact (np ⟨k, y, q2, h4⟩).elim
      · rw [gi, gk]
end
end Sr
namespace Sr
variable [TabL]
open PySem hiding start
open PySem.Spec L2
open PyProof.Rows hiding St
omit [TabL] in
theorem walk_gW {l : PySem.W.OpenLaw} {n k : Nat} {q : Program} {loose : List Str} {XP : (Str → Option Value) → Heap → Prop} {YP : World → Heap → Prop} {d : DefRec} {x : Str}
    (hn : l.most = some n) (hn2 : n ≤ sizeLine) (hdf : d.params.defaults = []) (hr : Room k callerA)
    (F : ∀ (w : World) (mg : Str → Option Value) (fa : Addr) (h : Heap), YP w h → h.Ns mainGlobals mg → mg d.name = some (.ref fa) →
      ∃ (K : PySem.W.Frag) (fd : FuncData) (sp : Sp), K.In h ∧ (∀ (s : Shared) (u : Value), BindsTo s fd ⟨[u], []⟩ [(x, u)]) ∧
        (∀ (H : Hp) (a : Addr) (ns : List Int), ns.length ≤ n → Only H → SqL K H a (ns.map V.int) → sp [.ref a] H (fun v _ => v = .bl true) fun _ _ _ => False) ∧
        ∀ base : Heap, K.In base → base.Ns mainGlobals mg → FnG l.prog w K mg base k fa fd [x] sp) :
    PySem.W.WalkO q loose XP YP l.row.toRowW d [] (fun f vs => PySem.call f vs) := by
  refine Att.attach_call hn hdf fun w s₀ s₁ mg mb fa o pm cd doc a vs ns G Y ho hd hcd hmg hobj hints hlen hg => ?_
  obtain ⟨K, fd, sp, KX, hb, hsp, hF⟩ := F w mg fa _ Y G.T.g hmg
  letI : TabL := ⟨[], l.prog, w⟩
  exact law_g KX G.T.g G.T.b G.T.builtins G.T.nolimit hg hobj hints (Nat.le_trans hlen hn2) hr hF hb (fun H hO hS => hsp H a ns hlen hO hS)
end Sr
namespace Sr
variable [TabL]
open PySem hiding start
open PySem.Spec L2
open PyProof.Rows hiding St
section
variable {J : It} {n : Nat} {G : Hp → Prop} {Y : Nat → Hp → V → Hp → Prop}
omit [TabL] in
theorem dc_it (w : Walk J n G Y) {g : TG} {tt : L2.TT} {tk tv : TE} {vs : List Nat} {σ : St} {H1 : Hp} {D : Addr} {Qd : Hp → Prop} (Pv : Nat → Hp → Prop) (h0 : Pv 0 (upd H1 D (.dK []))) (hG : ∀ i H, i ≤ n → Pv i H → G H)
    (hs : ∀ i x H H', i < n → Pv i H → Y i H x H' → g x (wipe σ vs) H' fun σ2 H2 => wipe σ2 vs = wipe σ vs ∧ tt σ2 H2 fun b H3 =>
      if b = true then tk σ2 H3 fun y H4 => tv σ2 H4 fun z H5 => ∃ kvs k, y = kV k ∧ H5 D = some (.dK kvs) ∧ kvs.length < sizeLine ∧ Pv (i + 1) (upd H5 D (.dK (putK kvs k z))) else Pv (i + 1) H3) (hd : ∀ H, Pv n H → Qd H) :
    ∃ W : Nat → Nat → Hp → Prop, (∃ m, W 0 m (upd H1 D (.dK []))) ∧ ∀ i m H, W i m H →
      (J.stop i H ∧ Qd H) ∨ (J.go i H ∧ ∃ Nx : Hp → Prop, (∀ H', Nx H' → ∃ m', m' < m ∧ W (i + 1) m' H') ∧ ∀ x H', J.yld i H x H' → g x (wipe σ vs) H' fun σ2 H2 => wipe σ2 vs = wipe σ vs ∧ tt σ2 H2 fun b H3 =>
        if b = true then tk σ2 H3 fun y H4 => tv σ2 H4 fun z H5 => ∃ kvs k, y = kV k ∧ H5 D = some (.dK kvs) ∧ kvs.length < sizeLine ∧ Nx (upd H5 D (.dK (putK kvs k z))) else Nx H3) := by
  refine ⟨fun i m H => m = n - i ∧ i ≤ n ∧ Pv i H, ⟨n, by simp, Nat.zero_le _, h0⟩, ?_⟩
  rintro i m H ⟨rfl, hi, p⟩
  have q := hG i H hi p
  by_cases hlt : i < n
  · refine .inr ⟨w.goes i H hlt q, Pv (i + 1), fun H' p' => ⟨n - (i + 1), by omega, rfl, hlt, p'⟩, fun x H' y => hs i x H H' hlt p (w.yields i H x H' hlt q y)⟩
  · have e : i = n := by omega
    subst e
    exact .inl ⟨w.stops H q, hd H p⟩
end
def dcL (w : D → M Unit) (t : M Bool) (tk tv : M D) (vs : List Nat) : List D → List (Key × D) → M (List (Key × D))
  | [], acc => ret acc
  | d :: ds, acc => bnd (w d) fun _ => bnd t fun b => if b = true then bnd tk fun y => bnd tv fun z => (match dKey y with
      | some q => if acc.length < sizeLine then fun e => dcL w t tk tv vs ds (putG acc q z) (wipE vs e) else fun _ => .bad
      | none => fun _ => .bad) else fun e => dcL w t tk tv vs ds acc (wipE vs e)
def mDc (vs : List Nat) (m : M (List D)) (w : D → M Unit) (t : M Bool) (tk tv : M D) : M D := bnd m fun ds e1 => match dcL w t tk tv vs ds [] (wipE vs e1) with
  | .ok acc e2 => .ok (.dk acc) (rst vs e1 e2)
  | _ => .bad
section
variable {X : Cx} {T : Pn} {W : WX} {pos : Pos}
theorem wipe_wipe {σ : St} {vs : List Nat} : wipe (wipe σ vs) vs = wipe σ vs := by
  refine List.ext_getElem? fun j => ?_
  rw [wipe_get, wipe_get, wipe_length]
  by_cases hj : j ∈ vs ∧ j < σ.length <;> simp only [hj, if_true, if_false, and_self]
theorem dc_imp {vs : List Nat} {m : M (List D)} {w : D → M Unit} {t : M Bool} {tk tv : M D} {σ : St} {H : Hp} {Q : VK} (hT : ∀ v ∈ vs, NoP T v) (h : TO X.K X.mg T W (mDc vs m w t tk tv) σ H Q) : tDc (TIt X.K X.mg T W m) (TH X.K X.mg T vs w) (TT' X.K X.mg T W0 t) (TV X.K X.mg T W0 tk) (TV X.K X.mg T W0 tv) vs σ H Q := by
  obtain ⟨e, F, er, h⟩ := h
  refine ⟨e, F, er, h.bind.mono fun ds e1 H1 F1 er1 mv1 h1 J wk D hD => ?_⟩
  obtain ⟨G, Y, wlk, hG, hY⟩ := wk
  unfold RunAt at h1
  cases q : dcL w t tk tv vs ds [] (wipE vs e1) with
  | exc x e2 => simp only [q] at h1
  | bad => simp only [q] at h1
  | ok acc eF =>
    simp only [q] at h1
    obtain ⟨erw, mvw⟩ := er1.wip (vs := vs) hT
    have fD : F1 D = none := er1.sub.free hD
    have nD : ¬ Ow (wipE vs e1) (wipe σ vs) D := Ow.ne_of_free erw hD
    refine dc_it wlk (fun i H' => ∃ e2 F2 ac xs, ER X.K X.mg T e2 (wipe σ vs) H' F2 ∧ Mv e1 σ H1 F1 e2 (wipe σ vs) H' F2 ∧ F2 D = none ∧ ¬ Ow e2 (wipe σ vs) D ∧ H' D = some (.dK xs) ∧ RpK X.K X.mg F2 ac xs ∧ dcL w t tk tv vs (ds.drop i) ac e2 = .ok acc eF)
      ⟨wipE vs e1, F1, [], [], erw.updFree fD nD, mvw.updNew hD, fD, nD, upd_same, by unfold RpK; rfl, q⟩ (fun i H' _ ⟨e2, F2, ac, xs, er2, mv2, _⟩ => hG H' (mv2.sub.trans er2.sub)) ?_ ?_
    · rintro i x H2 H3 hi ⟨e2, F2, ac, xs, er2, mv2, fD2, nD2, hD2, rl2, q2⟩ y
      obtain ⟨F3, d, al, hd, rd⟩ := hY i H2 F2 x H3 hi mv2.sub er2.sub y
      have er3 := er2.al al
      have mv3 := mv2.trans (Mv.al er2 al)
      have keepD : ∀ {e4 : En} {σ4 : St} {H4 F4 : Hp}, Mv e2 (wipe σ vs) H2 F2 e4 σ4 H4 F4 → H4 D = some (.dK xs) ∧ ¬ Ow e4 σ4 D ∧ F4 D = none := fun {e4 σ4 H4 F4} mv => by
        obtain ⟨k1, k2⟩ := mv.keep D _ hD2 nD2
        refine ⟨k1 (by first | assumption | (intro _ z; exact nomatch z) | (intro _ z; cases z)), k2, ?_⟩
        cases z : F4 D with
        | none => rfl
        | some u =>
          rcases mv.new D u z with z | z | z
          · rw [fD2] at z; cases z
          · rw [hD2] at z; cases z
          · exact (nD2 z).elim
      have hdr : ds.drop i = d :: ds.drop (i + 1) := by
        rw [List.drop_eq_getElem_cons hi]
        have : ds[i] = d := by rw [List.getElem?_eq_getElem hi] at hd; exact Option.some.inj hd
        rw [this]
      rw [hdr] at q2
      unfold dcL at q2
      obtain ⟨_, e4, w4, q2⟩ := bnd_inv q2
      obtain ⟨b, e5, t5, q2⟩ := bnd_inv q2
      refine ⟨e2, F3, d, er3, rd, ?_⟩
      rw [w4]
      intro σ4 H4 F4 er4 mv4 ws
      refine ⟨ws.trans wipe_wipe, e4, F4, er4, RunAt.of t5 fun H5 F5 er5 mv5 => ?_⟩
      have wz : wipe σ4 vs = wipe σ vs := ws.trans wipe_wipe
      try dsimp only
      cases b with
      | false =>
        rw [if_neg (by decide)] at q2 ⊢
        have mm := ((Mv.al er2 al).trans mv4).trans mv5
        obtain ⟨k1, k2, k3⟩ := keepD mm
        obtain ⟨er6, mv6⟩ := er5.wip (vs := vs) hT
        rw [wz] at er6 mv6
        have mm2 := mm.trans mv6
        obtain ⟨_, k2', _⟩ := keepD mm2
        exact ⟨_, F5, ac, xs, er6, mv2.trans mm2, k3, k2', k1, RpK.mono mm.sub _ _ rl2, q2⟩
      | true =>
        rw [if_pos rfl] at q2 ⊢
        obtain ⟨yk, e6, k6, q2⟩ := bnd_inv q2
        obtain ⟨yv, e7, v7, q2⟩ := bnd_inv q2
        refine ⟨e5, F5, er5, RunAt.of k6 fun H6 F6 er6 mv6 vk hvk => ⟨e6, F6, er6, RunAt.of v7 fun H7 F7 er7 mv7 vv hvv => ?_⟩⟩
        have mm := ((((Mv.al er2 al).trans mv4).trans mv5).trans mv6).trans mv7
        obtain ⟨k1, k2, k3⟩ := keepD mm
        cases hkk : dKey yk with
        | some kk =>
          simp only [hkk] at q2
          split at q2
          · rename_i hz
            obtain ⟨er8, mv8⟩ := er7.wip (vs := vs) hT
            rw [wz] at er8 mv8
            have mm2 := mm.trans mv8
            obtain ⟨_, k2', _⟩ := keepD mm2
            have rl6 := RpK.mono mm.sub _ _ rl2
            refine ⟨xs, kk, dKey_ok hkk hvk, k1, by rw [← rl2.len]; exact hz, _, F7, putG ac kk yv, putK xs kk vv, er8.updFree k3 k2', (mv2.trans mm2).updNew hD, k3, k2', upd_same, RpK.putg hvv rl6, q2⟩
          · cases q2
        | none => simp only [hkk] at q2; cases q2
    · rintro H2 ⟨e2, F2, ac, xs, er2, mv2, fD2, nD2, hD2, rl2, q2⟩
      rw [List.drop_length] at q2
      have hl : e2.length = e1.length := by rw [er2.len, wipe_length, er1.len]
      cases q2
      obtain ⟨er3, mv3⟩ := er2.rst er1 mv2 hl
      refine h1 H2 F2 er3 mv3 D (mv1.there D hD) fD2 (fun z => nD2 (by
        obtain ⟨j, d, q1, q2⟩ := z
        rcases rst_get q1 (fun z => nomatch z) with ⟨g1, g2⟩ | ⟨⟨d', g1⟩, _⟩
        · exact ⟨j, d, g2, by rw [wipe_out g1]; exact q2⟩
        · cases g1)) ⟨xs, hD2, rl2⟩
end
def gLtS : D → D → Option D
  | .str a, .str b => some (.bl (decide (a.cps.toList < b.cps.toList)))
  | _, _ => none
section
variable {X : Cx}
theorem o_ltS : Op2 X (compareOp .Lt) gLtS := by
  intro H F x y d1 d2 d s r1 r2 e
  unfold gLtS at e
  split at e
  · cases e
    rw [rq_str] at r1 r2
    subst r1 r2
    exact ⟨_, op_lt_str, fun Q q => ⟨_, _, rfl, rfl, q H F _ Al.refl (by rw [rp_bl])⟩⟩
  · cases e
end
end Sr
namespace Sr
variable [TabL]
open PySem hiding start
open PySem.Spec L2
open PyProof.Rows hiding St
def isDk : D → Option Unit
  | .dk _ => some ()
  | .dt _ => some ()
  | _ => none
def gDget (d k z : D) : Option D := (gDat d k).map fun o => o.getD z
def m3g (m1 : M Bv) (mb mc : M D) : M D := bnd m1 fun b => bnd (der b) fun d => bnd (opt (isDk d)) fun _ => bnd mb fun k => bnd mc fun z => bnd (der b) fun d' => opt (gDget d' k z)
theorem isD_of {K : PySem.W.Frag} {mg : Str → Option Value} {F H : Hp} {d : D} {x : V} {u : Unit} (r : Rq K mg H F d x) (h : isDk d = some u) : ∃ a, x = .ref a ∧ IsD H a := by
  cases d with
  | dk kvs =>
    obtain ⟨a, xs, rfl, q, l⟩ := r
    exact ⟨a, rfl, .inl ⟨xs, q⟩⟩
  | dt kvs =>
    obtain ⟨a, xs, rfl, q, l⟩ := r
    exact ⟨a, rfl, .inr ⟨xs, .inl q⟩⟩
  | _ => cases h
section
variable {X : Cx} {T : Pn} {W : WX} {apos cpos : Pos} {a b c : Expr} {mb mc : M D} {m1 : M Bv} {k : Nat}
theorem jv_dget2B (hp : Pl X k) (ha : JB X T W a m1) (hb : JV X T W b mb) (hc : JV X T W c mc) (m : M2 X a "get" apos b c cpos) : JV X T W (.Call (.Attribute a "get" apos) [b, c] [] cpos) (m3g m1 mb mc) := by
  refine PEimp (pe_dget2 hp.u1 ha hb hc m) fun σ H Q ⟨e, F, er, h⟩ => ⟨e, F, er, h.bind.mono fun b1 e1 H1 F1 er1 mv1 h1 v hv => ?_⟩
  obtain ⟨d1, r1, h3⟩ := der_fin h1.bind er1 hv
  obtain ⟨u, hu, fin⟩ := h3.bind.fin er1
  have h4 := fin H1 F1 Al.refl
  obtain ⟨p, rfl, hd⟩ := isD_of r1 hu
  refine ⟨p, rfl, hd, e1, F1, er1, h4.bind.mono fun d2 e2 H2 F2 er2 mv2 h5 w hw => ⟨e2, F2, er2, h5.bind.mono fun d3 e3 H3 F3 er3 mv3 h6 x hx => ?_⟩⟩
  obtain ⟨d4, r4, h7⟩ := der_fin h6.bind er3 ((hv.mono mv2.sub).mono mv3.sub)
  obtain ⟨z, hz, fin⟩ := h7.fin er3
  unfold gDget at hz
  rw [Option.map_eq_some_iff] at hz
  obtain ⟨o, ho, rfl⟩ := hz
  obtain ⟨p', ov, e', g, ro⟩ := dget_ok er3.sub r4 (Rp.mono mv3.sub _ _ hw) ho
  cases e'
  refine ⟨ov, g, fin H3 F3 Al.refl _ ?_⟩
  cases o with
  | none =>
    cases ov with
    | none => exact hx
    | some _ => exact ro.elim
  | some d =>
    cases ov with
    | none => exact ro.elim
    | some y => exact ro
end
section
theorem ps_setDc {X : Cx} {i : Nat} {y : Str} {py : Pos} {kx vx tg iter : Expr} {ifs : List Expr} {scope : Scope} {own : List (Str × Nat)} {pos spos : Pos} {wi : TI} {g : TG} {tt : L2.TT} {tk tv : TE} (hc : X.calm = true) (hN : X.N.Nodup) (hy : X.N[i]? = some y) (hyl : X.env.scope.names.lookup y = some .local)
    (hsw : swapsWith (.DictComp kx vx [⟨tg, iter, ifs, 0⟩] scope pos) (some (.Name y py)) spos.line X.env = pure true) (hi : PI X tg iter wi) (ok : BlkOk X.N X.env.scope scope own)
    (hg : ∀ (s : Shared) (H : Hp) (C : Addr) (cl : List (Str × Addr)) (fp : List Addr), PG (X.blk s H scope (compEnvC scope cl C X.env) fp) tg g) (ht : ∀ (s : Shared) (H : Hp) (C : Addr) (cl : List (Str × Addr)) (fp : List Addr), PTs (X.blk s H scope (compEnvC scope cl C X.env) fp) ifs tt)
    (hk : ∀ (s : Shared) (H : Hp) (C : Addr) (cl : List (Str × Addr)) (fp : List Addr), PE (X.blk s H scope (compEnvC scope cl C X.env) fp) kx tk)
    (he : ∀ (s : Shared) (H : Hp) (C : Addr) (cl : List (Str × Addr)) (fp : List Addr), PE (X.blk s H scope (compEnvC scope cl C X.env) fp) vx tv) (hs : ∀ x, foldedSetIterable iter X.env x = pure x := by intro _; rfl) :
    PS X (.Assign [.Name y py] (.DictComp kx vx [⟨tg, iter, ifs, 0⟩] scope pos) spos) (tAsg (tDc wi g tt tk tv (own.map (·.2))) (gName i)) := by
  refine ⟨fun pins s σ H D I h => ?_⟩
  rw [exec_Assign_Name_used _ _ _ _ hsw]
  refine wpAny_bind (wpAny_standAt (wpAny_bind ?_))
  show wpAny _ X.A (do let _ ← comprehension (.DictComp kx vx [⟨tg, iter, ifs, 0⟩] scope pos) scope X.env (firstIterPos [⟨tg, iter, ifs, 0⟩] pos) newDict false (eval iter X.env) (some (assign (.Name y py) X.env))) _ _ s
  have h : tDc wi g tt tk tv (own.map (·.2)) σ H (fun x H1 => gName i x σ H1 D.nx) := h
  refine wpAny_bind (thn (dc_core (Qf := fun _ s' => SP X pins D .next s') hc hN I hi ok hg ht hk he hs h fun L C s' m H' I' q hn f => ?_) fun _ s' hq => wpAny_pure (wpAny_pure hq))
  show wpAny _ _ (assign (.Name y py) X.env (.ref L)) _ _ _
  refine wpAny_assign_Name (store_ok2 (v := V.ref L) I' hN hy (.inl hyl) rfl (fun s2 I2 ⟨a, sb, ha⟩ => ?_) (.inr hyl))
  obtain ⟨f0, f1, f2, f3, f4, f5⟩ := f
  have haC : C ≠ a := by
    rcases ha with z | z
    · rw [z]; exact f1
    · exact fun e => f4 y a z e.symm
  refine ⟨m, hn.sameBut sb haC, fun h3 sb3 => ?_⟩
  exact ⟨_, H', I2.turned (t' := s2.toks) (fun b o hb e => (sb3.2 b hb).trans e) f0 f1 f3 f4 f5, q⟩
theorem sw_trueD {kx vx : Expr} {gs : List Comprehension} {scope : Scope} {pos py : Pos} {y : Str} {l : Nat} {env : Env} (hk : env.scope.kind = .function) (hy : env.scope.names.lookup y = some .local) (hl : (py.line == pos.line) = true)
    (ha : (scope.names.any fun (n, k) => n == y && (k == .local || k == .cell)) = false) : swapsWith (.DictComp kx vx gs scope pos) (some (.Name y py)) l env = pure true := by
  have ky : env.kindOf y = some .local := hy
  have hb : env.blockKind = .function := by unfold Env.blockKind; rw [hk]; rfl
  unfold swapsWith
  simp only [hb, ky, ha, Expr.pos, hl]
  rfl
end
section
variable {X : Cx} {T : Pn} {W : WX} {pos spos py : Pos} {i k : Nat} {y : Str} {kx vx tg iter : Expr} {ifs : List Expr} {scope : Scope} {m : M (List D)} {w : D → M Unit} {t : M Bool} {tk tv : M D}
theorem js_setDcO (own : List (Str × Nat)) (hp : Pl X k) (hc : X.calm = true) (hN : X.N.Nodup) (hT : ∀ v ∈ own.map (·.2), NoP T v) (ok : BlkOk X.N X.env.scope scope own) (hTi : NoP T i) (hy : X.N[i]? = some y) (hyl : X.env.scope.names.lookup y = some .local)
    (hsw : swapsWith (.DictComp kx vx [⟨tg, iter, ifs, 0⟩] scope pos) (some (.Name y py)) spos.line X.env = pure true) (hi : JI X T W tg iter m)
    (hg : ∀ (s : Shared) (H : Hp) (C : Addr) (cl : List (Str × Addr)) (fp : List Addr), Pl (X.blk s H scope (compEnvC scope cl C X.env) fp) k → JH (X.blk s H scope (compEnvC scope cl C X.env) fp) T (own.map (·.2)) tg w)
    (ht : ∀ (s : Shared) (H : Hp) (C : Addr) (cl : List (Str × Addr)) (fp : List Addr), Pl (X.blk s H scope (compEnvC scope cl C X.env) fp) k → JTs (X.blk s H scope (compEnvC scope cl C X.env) fp) T W0 ifs t)
    (hk : ∀ (s : Shared) (H : Hp) (C : Addr) (cl : List (Str × Addr)) (fp : List Addr), Pl (X.blk s H scope (compEnvC scope cl C X.env) fp) k → JV (X.blk s H scope (compEnvC scope cl C X.env) fp) T W0 kx tk)
    (he : ∀ (s : Shared) (H : Hp) (C : Addr) (cl : List (Str × Addr)) (fp : List Addr), Pl (X.blk s H scope (compEnvC scope cl C X.env) fp) k → JV (X.blk s H scope (compEnvC scope cl C X.env) fp) T W0 vx tv) (hs : ∀ x, foldedSetIterable iter X.env x = pure x := by intro _; rfl) :
    JS X T W (.Assign [.Name y py] (.DictComp kx vx [⟨tg, iter, ifs, 0⟩] scope pos) spos) (sSetO i (mDc (own.map (·.2)) m w t tk tv)) :=
  PSimp (ps_setDc (g := TH X.K X.mg T (List.map (fun q : Str × Nat => q.2) own) w) (tt := TT' X.K X.mg T W0 t) (tk := TV X.K X.mg T W0 tk) (tv := TV X.K X.mg T W0 tv) hc hN hy hyl hsw hi ok (fun s H C cl fp => hg s H C cl fp hp.blk) (fun s H C cl fp => ht s H C cl fp hp.blk) (fun s H C cl fp => hk s H C cl fp hp.blk) (fun s H C cl fp => he s H C cl fp hp.blk) hs) fun Dn σ H h => dc_imp hT (run_setO hTi h)
end
end Sr
namespace Sr
variable [TabL]
open PySem hiding start
open PySem.Spec L2
open PyProof.Rows hiding St
def itemsD (ds : List (Key × D)) : List D := ds.map fun q => .tup [kD q.1, q.2]
def sForI (j : Nat) (w : D → M Unit) (s : M Fl) : M Fl := fun e => match e[j]? with
  | some (.own (.dk ds)) => (match forL w s (itemsD ds) (e.set j .no) with
    | .ok .nx e2 => .ok .nx (e2.set j (.own (.dk ds)))
    | .ok (.rt d) e2 => .ok (.rt d) (e2.set j (.own (.dk ds)))
    | _ => .bad)
  | _ => .bad
theorem RpK.get {K : PySem.W.Frag} {mg : Str → Option Value} {F : Hp} : ∀ {ds : List (Key × D)} {xs : List (Key × V)} {i : Nat} {k : Key} {v : V}, RpK K mg F ds xs → xs[i]? = some (k, v) → ∃ d, ds[i]? = some (k, d) ∧ Rp K mg F d v
  | [], xs, i, k, v, h, hx => by unfold RpK at h; subst h; simp at hx
  | (q, d) :: ds, xs, i, k, v, h, hx => by
    unfold RpK at h
    obtain ⟨v', r, rfl, hv, h⟩ := h
    cases i with
    | zero =>
      rw [List.getElem?_cons_zero] at hx
      cases hx
      exact ⟨d, rfl, hv⟩
    | succ i =>
      rw [List.getElem?_cons_succ] at hx
      exact RpK.get (ds := ds) (xs := r) (i := i) h hx
theorem walkI {p : Addr} {o : Obj} {xs : List (Key × V)} : Walk (Iti p o xs) xs.length (fun H => H p = some (.frz o (.dK xs))) (fun i H x H' => ∃ T k v, xs[i]? = some (k, v) ∧ x = .ref T ∧ H T = none ∧ H' = upd H T (.tup [kV k, v])) where
  goes := fun i H hi h => ⟨h, hi⟩
  stops := fun H h => ⟨h, Nat.le_refl _⟩
  yields := fun i H x H' _ _ y => y
section
variable {X : Cx} {T : Pn} {W : WX} {pos tpos pv apos cpos : Pos} {body : List Stmt} {s : M Fl} {elts : List Expr} {kk : Nat} {x : Str} {w : D → M Unit}
theorem js_forI (j : Nat) (hp : PassesOwn (model X.prog X.w) X.A X.env X.xe) (hc : X.calm = true) (hNj : X.N[j]? = some x) (hv : Vis X.env.scope x) (hg : ∀ p, JG X ((j, p) :: T) W (.Tuple elts kk tpos) w) (hne : NoExc w) (hb : ∀ p, JSs X ((j, p) :: T) W body s)
    (hbase : attributeBase (.Name x pv) "items" X.env (eval (.Name x pv) X.env) = eval (.Name x pv) X.env := by rfl) (hline : (apos.endLine == cpos.line) = true := by rfl)
    (hs : ∀ y, foldedSetIterable (.Call (.Attribute (.Name x pv) "items" apos) [] [] cpos) X.env y = pure y := by intro _; rfl) (hd : (x == ("__debug__" : Str)) = false := by decide) (hcd : (x == ("__classdict__" : Str)) = false := by decide) :
    JS X T W (.For (.Tuple elts kk tpos) (.Call (.Attribute (.Name x pv) "items" apos) [] [] cpos) body [] pos) (sForI j w s) := by
  have hg' : PG X (.Tuple elts kk tpos) (fun v σ H Q => ∃ p, TG' X.K X.mg ((j, p) :: T) W w v σ H Q) := ⟨fun pins s σ H v u Q I r ⟨p, h⟩ => (hg p).run pins s σ H v u Q I r h⟩
  have hb' : PSs X body (fun Dn σ H => ∃ p, TSt X.K X.mg ((j, p) :: T) W s Dn σ H) := ⟨fun pins s σ H D I ⟨p, h⟩ => (hb p).run pins s σ H D I h⟩
  refine PSimp (ps_lock (ps_for hp hc (pi_items (pe_var hNj hv hd hcd) hbase hline) hg' hb' hs)) fun Dn σ H ⟨e, F, er, h⟩ => ?_
  cases q0 : e[j]? with
  | none => unfold RunS sForI at h; simp only [q0] at h
  | some sl =>
  cases sl with
  | no => unfold RunS sForI at h; simp only [q0] at h
  | val d => unfold RunS sForI at h; simp only [q0] at h
  | own d =>
  cases d with
  | dk ds =>
    obtain ⟨p, s1, s2, xs0, s3, s4⟩ := er.own j _ q0
    refine ⟨p, .dK xs0, s3, True.intro, fun od => ⟨.ref p, s1, p, od, xs0, rfl, upd_same, ?_⟩⟩
    have np := er.dropN q0 s1
    have er1 : ER X.K X.mg T (e.set j .no) σ (upd H p (.frz od (.dK xs0))) F := (er.dropO (j := j)).updFree s2 np
    have erp := er1.pinned s1
    have hp1 : upd H p (.frz od (.dK xs0)) p = some (.frz od (.dK xs0)) := upd_same
    have owp : Ow e σ p := ⟨j, _, q0, s1⟩
    have keepP : ∀ {e4 : En} {σ4 : St} {H4 F4 : Hp}, Mv (e.set j .no) σ (upd H p (.frz od (.dK xs0))) F e4 σ4 H4 F4 → H4 p = some (.frz od (.dK xs0)) ∧ ¬ Ow e4 σ4 p ∧ F4 p = none := fun {e4 σ4 H4 F4} mv => by
      obtain ⟨k1, k2⟩ := mv.keep p _ hp1 np
      have k1 := k1 (by first | assumption | (intro _ z; exact nomatch z) | (intro _ z; cases z))
      refine ⟨k1, k2, ?_⟩
      cases z : F4 p with
      | none => rfl
      | some u =>
        rcases mv.new p u z with z | z | z
        · rw [s2] at z; cases z
        · rw [hp1] at z; cases z
        · exact (np z).elim
    have back : ∀ {e4 : En} {σ4 : St} {H4 F4 : Hp}, ER X.K X.mg ((j, p) :: T) e4 σ4 H4 F4 → Mv (e.set j .no) σ (upd H p (.frz od (.dK xs0))) F e4 σ4 H4 F4 → ER X.K X.mg T (e4.set j (.own (.dk ds))) σ4 (upd H4 p (.dK xs0)) F4 ∧ Mv e σ H F (e4.set j (.own (.dk ds))) σ4 (upd H4 p (.dK xs0)) F4 := fun {e4 σ4 H4 F4} er4 mv4 => by
      obtain ⟨hp2, np2, fp2⟩ := keepP mv4
      have hpp : σ4[j]? = some (some (.ref p)) := er4.pin (j, p) List.mem_cons_self
      have er5 : ER X.K X.mg T e4 σ4 (upd H4 p (.dK xs0)) F4 := er4.unpin.updFree fp2 np2
      have erB := er5.backO (j := j) (d := .dk ds) hpp fp2 np2 ⟨xs0, upd_same, RpK.mono mv4.sub _ _ s4⟩
      have own2 : ∀ a, Ow (e4.set j (.own (.dk ds))) σ4 a → a = p ∨ Ow e4 σ4 a := fun a ⟨i, x, h1, h2⟩ => by
        by_cases hj : i = j
        · subst hj
          rw [hpp] at h2; cases h2
          exact .inl rfl
        · rw [List.getElem?_set_ne (Ne.symm hj)] at h1
          exact .inr ⟨i, x, h1, h2⟩
      refine ⟨erB, mv4.sub, fun a o ha na => ?_, fun a o ha => ?_, fun a ha => ?_⟩
      · have hap : a ≠ p := fun z => by rw [z] at na; exact na owp
        obtain ⟨k1, k2⟩ := mv4.keep a o (by rw [upd_ne hap]; exact ha) (fun z => na z.dropO)
        exact ⟨fun zz => by rw [upd_ne hap]; exact k1 zz, fun z => by
          rcases own2 a z with z | z
          · exact hap z
          · exact k2 z⟩
      · rcases mv4.new a o ha with z | z | z
        · exact .inl z
        · by_cases hap : a = p
          · rw [hap] at z; rw [hp1] at z; cases z
          · rw [upd_ne hap] at z; exact .inr (.inl z)
        · exact .inr (.inr z.dropO)
      · by_cases hap : a = p
        · rw [hap, upd_same] at ha; cases ha
        · rw [upd_ne hap] at ha
          have := mv4.there a ha
          rw [upd_ne hap] at this
          exact this
    have hL : RunS X.K X.mg ((j, p) :: T) W (e.set j .no) F (forL w s (itemsD ds)) σ (upd H p (.frz od (.dK xs0))) ⟨fun σ' H' => H' p = some (.frz od (.dK xs0)) ∧ Dn.nx σ' (upd H' p (.dK xs0)), fun v H' => H' p = some (.frz od (.dK xs0)) ∧ Dn.rt v (upd H' p (.dK xs0)), fun σ' H' => H' p = some (.frz od (.dK xs0)) ∧ Dn.bk σ' (upd H' p (.dK xs0)), fun σ' H' => H' p = some (.frz od (.dK xs0)) ∧ Dn.ct σ' (upd H' p (.dK xs0))⟩ := by
      unfold RunS at h ⊢
      unfold sForI at h
      simp only [q0] at h
      cases q : forL w s (itemsD ds) (e.set j .no) with
      | exc x e2 => simp only [q] at h
      | bad => simp only [q] at h
      | ok fl e2 =>
        cases fl with
        | nx =>
          simp only [q] at h
          exact fun σ' H' F' er' mv' => ⟨(keepP mv').1, h σ' _ F' (back er' mv').1 (back er' mv').2⟩
        | rt d =>
          simp only [q] at h
          exact fun σ' H' F' v er' mv' r => ⟨(keepP mv').1, h σ' _ F' v (back er' mv').1 (back er' mv').2 r⟩
        | ro d => simp only [q] at h
        | bk => simp only [q] at h
        | ct => simp only [q] at h
    generalize hDn : (⟨fun σ' H' => H' p = some (.frz od (.dK xs0)) ∧ Dn.nx σ' (upd H' p (.dK xs0)), fun v H' => H' p = some (.frz od (.dK xs0)) ∧ Dn.rt v (upd H' p (.dK xs0)), fun σ' H' => H' p = some (.frz od (.dK xs0)) ∧ Dn.bk σ' (upd H' p (.dK xs0)), fun σ' H' => H' p = some (.frz od (.dK xs0)) ∧ Dn.ct σ' (upd H' p (.dK xs0))⟩ : Ends) = Dm at hL ⊢
    have hlen : (itemsD ds).length = xs0.length := by unfold itemsD; rw [List.length_map]; exact s4.len
    refine for_it (g := fun v σ H Q => ∃ p, TG' X.K X.mg ((j, p) :: T) W w v σ H Q) (tb := fun Dn σ H => ∃ p, TSt X.K X.mg ((j, p) :: T) W s Dn σ H) (D := Dm) (walkI (p := p) (o := od) (xs := xs0)) (fun i σ2 H2 => ∃ e2 F2, ER X.K X.mg ((j, p) :: T) e2 σ2 H2 F2 ∧ Mv (e.set j .no) σ (upd H p (.frz od (.dK xs0))) F e2 σ2 H2 F2 ∧ RunS X.K X.mg ((j, p) :: T) W e2 F2 (forL w s ((itemsD ds).drop i)) σ2 H2 Dm) ⟨_, F, erp, Mv.refl, hL⟩ (fun i σ2 H2 _ ⟨e2, F2, er2, mv2, h2⟩ => (keepP mv2).1) ?_ ?_
    · rintro i x σ2 H2 H3 hi ⟨e2, F2, er2, mv2, h2⟩ ⟨Ta, k0, v0, hk, rfl, hT, rfl⟩
      have al : Al H2 F2 (upd H2 Ta (.tup [kV k0, v0])) (upd F2 Ta (.tup [kV k0, v0])) := Al.one hT
      have er3 := er2.al al
      have mv3 := mv2.trans (Mv.al er2 al)
      obtain ⟨d0, hd0, rv0⟩ := RpK.get s4 hk
      have hdr : (itemsD ds).drop i = .tup [kD k0, d0] :: (itemsD ds).drop (i + 1) := by
        have hi2 : i < (itemsD ds).length := by rw [hlen]; exact hi
        rw [List.drop_eq_getElem_cons hi2]
        have : (itemsD ds)[i] = .tup [kD k0, d0] := by
          have e1 : (itemsD ds)[i]? = some (.tup [kD k0, d0]) := by unfold itemsD; rw [List.getElem?_map, hd0]; rfl
          rw [List.getElem?_eq_getElem hi2] at e1
          exact Option.some.inj e1
        rw [this]
      rw [hdr] at h2
      have h3 := h2.after (s' := forL w s (.tup [kD k0, d0] :: (itemsD ds).drop (i + 1))) rfl (Mv.al er2 al)
      have rd : Rp X.K X.mg (upd F2 Ta (.tup [kV k0, v0])) (.tup [kD k0, d0]) (.ref Ta) := by
        rw [rp_tup]
        refine ⟨Ta, _, rfl, upd_same, ?_⟩
        rw [rl_cons]
        refine ⟨kV k0, [v0], rfl, rp_kD _ _ _ _, ?_⟩
        rw [rl_cons]
        exact ⟨v0, [], rfl, Rp.mono mv3.sub _ _ rv0, by rw [rl_nil]⟩
      refine ⟨p, e2, _, .tup [kD k0, d0], er3, rd, ?_⟩
      cases q : w (.tup [kD k0, d0]) e2 with
      | ok u e3 =>
        intro σ4 H4 F4 er4 mv4
        have h4 := h3.after (s' := Sr.lp s (forL w s ((itemsD ds).drop (i + 1)))) (by show bnd (w (.tup [kD k0, d0])) _ e2 = _; unfold bnd; rw [q]) mv4
        have mv5 := mv3.trans mv4
        have hh := h4.lp (fun σ' H' => ∃ e5 F5, ER X.K X.mg ((j, p) :: T) e5 σ' H' F5 ∧ RunS X.K X.mg ((j, p) :: T) W e5 F5 (forL w s ((itemsD ds).drop (i + 1))) σ' H' Dm) fun σ' H' e' F' er' r' => ⟨e', F', er', r'⟩
        refine ⟨p, e3, F4, er4, ?_⟩
        unfold RunS at hh ⊢
        cases q2 : s e3 with
        | ok fl e5 =>
          rw [q2] at hh
          cases fl with
          | nx => exact fun σ' H' F' er' mv' => ⟨e5, F', er', mv5.trans mv', h4.after (by unfold Sr.lp; rw [q2]) mv'⟩
          | ct => exact fun σ' H' F' er' mv' => ⟨e5, F', er', mv5.trans mv', h4.after (by unfold Sr.lp; rw [q2]) mv'⟩
          | bk => exact hh
          | rt d => exact hh
          | ro d => exact hh
        | exc x e5 => rw [q2] at hh; exact hh
        | bad => rw [q2] at hh; exact hh
      | exc x e3 => exact (hne _ e2 x e3 q).elim
      | bad =>
        have h4 : RunS X.K X.mg ((j, p) :: T) W e2 _ (bnd (w (.tup [kD k0, d0])) fun _ => Sr.lp s (forL w s ((itemsD ds).drop (i + 1)))) σ2 _ Dm := h3
        unfold RunS bnd at h4; rw [q] at h4; exact h4
    · rintro σ2 H2 ⟨e2, F2, er2, mv2, h2⟩
      rw [← hlen, List.drop_length] at h2
      exact h2 σ2 H2 F2 er2 Mv.refl
  | _ => unfold RunS sForI at h; simp only [q0] at h
end
def sMove (i j : Nat) : M Fl := fun e => match e[j]? with
  | some (.own d) => .ok .nx ((e.set j .no).set i (.own d))
  | _ => .bad
section
variable {X : Cx} {T : Pn} {W : WX} {pos px py : Pos} {x y : Str}
theorem js_move (i j : Nat) (hT : NoP T i) (hN : X.N.Nodup) (hi : X.N[i]? = some y) (hy : Loc X.env.scope y) (hNj : X.N[j]? = some x) (hv : Vis X.env.scope x) (hs : swapsWith (.Name x px) (some (.Name y py)) pos.line X.env = pure false := by rfl) (hf : X.fn y = true ∨ X.env.scope.names.lookup y = some .local := by first | exact .inl rfl | exact .inr rfl | assumption)
    (hd : (x == ("__debug__" : Str)) = false := by decide) (hcd : (x == ("__classdict__" : Str)) = false := by decide) :
    JS X T W (.Assign [.Name y py] (.Name x px) pos) (sMove i j) := by
  refine PSimp (ps_set hN hi hy (pe_var hNj hv hd hcd) hs hf) fun Dn σ H ⟨e, F, er, h⟩ => ?_
  cases q0 : e[j]? with
  | none => unfold RunS sMove at h; simp only [q0] at h
  | some sl =>
  cases sl with
  | no => unfold RunS sMove at h; simp only [q0] at h
  | val d => unfold RunS sMove at h; simp only [q0] at h
  | own d =>
    obtain ⟨p, s1, s2, ow⟩ := er.own j _ q0
    have np := er.dropN q0 s1
    have owp : Ow e σ p := ⟨j, _, q0, s1⟩
    obtain ⟨er2, _⟩ := (er.dropO (j := j)).setO (H0 := H) hT s2 np ow
    have mv : Mv e σ H F ((e.set j .no).set i (.own d)) (σ.set i (some (.ref p))) H F := by
      refine ⟨Same.refl _, fun a o ha na => ⟨fun _ => ha, fun z => ?_⟩, fun a o ha => .inl ha, fun a ha => ha⟩
      obtain ⟨k, w, h1, h2⟩ := z
      by_cases hk : k = i
      · subst hk
        rw [List.getElem?_set] at h2
        split at h2
        · split at h2
          · cases h2; exact na owp
          · cases h2
        · rename_i zz; exact (zz rfl).elim
      · rw [List.getElem?_set_ne (Ne.symm hk)] at h1 h2
        exact na (Ow.dropO ⟨k, w, h1, h2⟩)
    unfold RunS sMove at h
    simp only [q0] at h
    exact ⟨.ref p, s1, h _ H F er2 mv⟩
end
end Sr
namespace Sr
open PySem hiding start
open PySem.Spec L2
open PyProof.Rows hiding St
def tListVals (td : TE) : TE := fun σ H Q => td σ H fun x H1 => ∃ a kvs, x = V.ref a ∧ H1 a = some (.dK kvs) ∧ ∀ q, H1 q = none → Q (.ref q) (upd H1 q (.lst (kvs.map (·.2))))
section
variable {X : Cx} {o : Expr} {p pos apos mpos : Pos} {td : TE}
theorem pe_listVals (hc : X.calm = true) (hg : Gl X "list") (hm : X.mg "list" = none) (hd : PE X o td) (hbase : attributeBase o "values" X.env (eval o X.env) = eval o X.env := by rfl) (hline : (apos.endLine == mpos.line) = true := by rfl)
    (na : starEach [Expr.Call (.Attribute o "values" apos) [] [] mpos] X.env = (false, eval (Expr.Call (.Attribute o "values" apos) [] [] mpos) X.env) :: starEach [] X.env := by rfl) :
    PE X (.Call (.Name "list" p) [.Call (.Attribute o "values" apos) [] [] mpos] [] pos) (tListVals td) := by
  refine ⟨fun pins s σ H Q I h => ?_⟩
  refine Call_ (ld_blt I hg hm boot_list (PyProof.Rows.callWith_type1 (args_cons (wpAny_Call_method0_late hbase hline (thn (hd.run pins s σ H _ I h) fun v s1 ⟨x, H1, I1, r1, a, kvs, ex, ha, q⟩ => ?_)) na) na))
  subst ex
  obtain rfl : v = Value.ref a := r1
  obtain ⟨z, hsys, vs, rel, dof⟩ := (show ObjOk X.prog X.w H1 s1.heap a (.dK kvs) from I1.hok a _ ha)
  obtain ⟨ep, dat⟩ := dof.dictAt
  have dat' := dat
  obtain ⟨ob, es, ho, ex, hdat, hko, hpr, hnd⟩ := dat'
  refine ⟨"dict", "dict.values", F.plainAttrs_dict, F.slot_dict_values, F.type_dict_values, ⟨ob, ho, ex.1⟩, fun b e => ?_, Calls.callWith_builtin rfl (PySem.evalArgs_none ?_)⟩
  · cases e
    exact ⟨ob, ho, ex.2.1⟩
  refine call_meetsIn F.slot_dict_values ⟨ob, ho, ex.1⟩ F.entry_dict_values (F.args_dict_values_1 _) (meets_dict_values (mixKind X.prog X.w) a hsys) ⟨⟨vs, dof⟩, ?_⟩
  have k1 : ∀ b u, s1.heap.get? b = some u → (s1.heap.push { cls := .type "dict_values", data := .fields #[.ref a] }).get? b = some u := fun b u e => Heap.get?_push_of_some _ e
  have dat1 : (s1.heap.push { cls := .type "dict_values", data := .fields #[.ref a] }).DictAt (mixKind X.prog X.w) a vs ep := dat.keep k1
  have I2 : Inv X pins σ H1 { s1 with heap := s1.heap.push { cls := .type "dict_values", data := .fields #[.ref a] } } := I1.kept (t' := s1.toks) k1
  have hl : kvs.length = vs.length := Paired.length rel
  refine args_nil ?_
  refine PySem.W.kdl_call (PySem.W.kdl_values (knd := mixKind X.prog X.w) (d := a) (kvs := vs) (ep := ep)) (I2.ok.hd hc) ⟨⟨_, Heap.get?_push_size _ rfl, rfl, rfl⟩, dat1⟩ (by rw [← hl]; exact z) fun h' tk acc' c' hkeep hS hacc => ?_
  refine ⟨.ref (s1.heap.push { cls := .type "dict_values", data := .fields #[.ref a] }).objs.size, upd H1 (s1.heap.push { cls := .type "dict_values", data := .fields #[.ref a] }).objs.size (.lst (kvs.map (·.2))), I2.laid hkeep (Nat.le_refl _) (show ObjOk X.prog X.w _ _ _ (.lst (kvs.map (·.2))) from ⟨?_, acc'.toList, c', ?_, ?_⟩), rfl, q _ (I2.hok.fresh (Nat.le_refl _))⟩
  · rw [List.length_map]; exact z
  · have el : acc'.toList.length = acc'.size := by simp
    refine vals_of_at (by rw [List.length_map, el, hacc.1, hl]) fun j x w h1 h2 => ?_
    obtain ⟨k, hky⟩ := hacc.2 j w (by rw [← Array.getElem?_toList]; exact h2)
    obtain ⟨y, h3, h4⟩ := KV.at' rel hky
    rw [List.getElem?_map, h3] at h1
    cases h1
    exact h4
  · rw [Array.toArray_toList]; exact hS
end
def mVals (j : Nat) : M D := fun e => match e[j]? with
  | some (.own (.dk ds)) => .ok (.lst (ds.map (·.2))) e
  | _ => .bad
theorem rpk_vals [TabL] {K : PySem.W.Frag} {mg : Str → Option Value} {F : Hp} : ∀ {ds : List (Key × D)} {xs : List (Key × V)}, RpK K mg F ds xs → RpL K mg F (ds.map (·.2)) (xs.map (·.2))
  | [], xs, h => by unfold RpK at h; subst h; rw [List.map_nil, List.map_nil, rl_nil]
  | (k, d) :: ds, xs, h => by
    unfold RpK at h
    obtain ⟨v, r, rfl, hv, h⟩ := h
    rw [List.map_cons, List.map_cons, rl_cons]
    exact ⟨v, _, rfl, hv, rpk_vals h⟩
section
variable [TabL] {X : Cx} {T : Pn} {W : WX} {p pos pv apos mpos : Pos} {x : Str}
theorem jo_vals (j : Nat) (hc : X.calm = true) (hg : Gl X "list") (hm : X.mg "list" = none) (hNj : X.N[j]? = some x) (hv : Vis X.env.scope x) (hbase : attributeBase (.Name x pv) "values" X.env (eval (.Name x pv) X.env) = eval (.Name x pv) X.env := by rfl) (hline : (apos.endLine == mpos.line) = true := by rfl)
    (na : starEach [Expr.Call (.Attribute (.Name x pv) "values" apos) [] [] mpos] X.env = (false, eval (Expr.Call (.Attribute (.Name x pv) "values" apos) [] [] mpos) X.env) :: starEach [] X.env := by rfl) (hd : (x == ("__debug__" : Str)) = false := by decide) (hcd : (x == ("__classdict__" : Str)) = false := by decide) :
    JO X T W (.Call (.Name "list" p) [.Call (.Attribute (.Name x pv) "values" apos) [] [] mpos] [] pos) (mVals j) := by
  refine PEimp (pe_listVals hc hg hm (pe_var hNj hv hd hcd) hbase hline na) fun σ H Q ⟨e, F, er, h⟩ => ?_
  unfold RunAt mVals at h
  cases q0 : e[j]? with
  | none => simp only [q0] at h
  | some sl =>
  cases sl with
  | no => simp only [q0] at h
  | val d => simp only [q0] at h
  | own d =>
  cases d with
  | dk ds =>
    simp only [q0] at h
    obtain ⟨a, s1, s2, xs0, s3, s4⟩ := er.own j _ q0
    refine ⟨.ref a, s1, a, xs0, rfl, s3, fun q hq => ?_⟩
    have fq : F q = none := er.sub.free hq
    have nq : ¬ Ow e σ q := Ow.ne_of_free er hq
    exact h _ F (er.updFree fq nq) (Mv.refl.updNew hq) q hq fq nq ⟨_, upd_same, rpk_vals s4⟩
  | _ => simp only [q0] at h
end
end Sr
namespace Sr
open PySem hiding start
open PySem.Spec L2
open PyProof.Rows hiding St
def ltIS (i j : Int) (x y : Str) : Bool := if i = j then decide (x.cps.toList < y.cps.toList) else decide (i < j)
theorem lex2 (i j : Int) (x y : Str) : Ob.lexAt (fun n => if n = 0 then (i == j) else (x == y)) (fun n => if n = 0 then decide (i < j) else decide (x.cps.toList < y.cps.toList)) (decide ((2 : Nat) < 2)) 0 2 = ltIS i j x y := by
  rw [Ob.lexAt_succ, Ob.lexAt_succ, Ob.lexAt_zero]
  unfold ltIS
  by_cases h : i = j
  · subst h
    by_cases q : x = y
    · subst q
      have : ¬ (x.cps.toList < x.cps.toList) := List.lt_irrefl _
      simp [this]
    · simp [q]
  · simp [h]
theorem op_ltIS {X : Cx} (hu : X.A.units < cLine) : OpR X (compareOp .Lt) (fun u v H Q => ∃ a b i j x y, u = .ref a ∧ v = .ref b ∧ SqT X.K H a [.int i, .str x] ∧ SqT X.K H b [.int j, .str y] ∧ Q (.bl (ltIS i j x y)) H) := by
  intro pins s σ H u0 v0 v u Q I rx ry h
  obtain ⟨a, b, i, j, x, y, rfl, rfl, ha, hb, q⟩ := h
  cases rx
  cases ry
  obtain ⟨its, r1, p1, _⟩ := I.tuple ha
  obtain ⟨its2, r2, p2, _⟩ := I.tuple hb
  obtain ⟨u1, w1, rfl, ⟨t1, rfl⟩, ⟨t2, rfl⟩⟩ := vals2 r1
  obtain ⟨u2, w2, rfl, ⟨t3, rfl⟩, ⟨t4, rfl⟩⟩ := vals2 r2
  have R := Ob.RcOp.tuples_lt (A := X.A) (s := s) (e := fun n => if n = 0 then (i == j) else (x == y)) (r := fun n => if n = 0 then decide (i < j) else decide (x.cps.toList < y.cps.toList)) p1 p2 hu (fun n h1 h2 => by
    have hn : n = 0 ∨ n = 1 := by
      have : n < 2 := h1
      omega
    rcases hn with rfl | rfl
    · exact SeqAt.EqAt.int_int _ _ _ _
    · exact SeqAt.EqAt.str_str _ _ _ _) (fun n h1 h2 _ => by
    have hn : n = 0 ∨ n = 1 := by
      have : n < 2 := h1
      omega
    rcases hn with rfl | rfl
    · exact Ob.RcOp.lt_int _ _ _ _
    · exact fun prog w E Q h => lt_str h)
  have R' : Ob.RcOp .Lt X.A s (.ref a) (.ref b) (ltIS i j x y) := by
    rw [← lex2 i j x y]
    exact R
  exact R' X.prog X.w X.xe (EP X pins σ Q) ⟨.bl _, H, I, rfl, q⟩
section
variable [TabL] {X : Cx}
def gLtIS : D → D → Option D
  | .tup [.int i, .str x], .tup [.int j, .str y] => some (.bl (ltIS i j x y))
  | _, _ => none
theorem o_ltIS (hu : X.A.units < cLine) : Op2 X (compareOp .Lt) gLtIS := by
  intro H F u v d1 d2 d s r1 r2 e
  unfold gLtIS at e
  split at e
  · rename_i i x j y
    cases e
    rw [rq_tup] at r1 r2
    obtain ⟨a, xs, rfl, q1, l1⟩ := r1
    obtain ⟨b, ys, rfl, q2, l2⟩ := r2
    obtain ⟨v1, v2, rfl, h1, h2⟩ := rl_two l1
    obtain ⟨v3, v4, rfl, h3, h4⟩ := rl_two l2
    rw [rp_int] at h1 h3
    rw [rp_str] at h2 h4
    subst h1 h2 h3 h4
    exact ⟨_, op_ltIS hu, fun Q q => ⟨a, b, i, j, x, y, rfl, rfl, seqT_mono s q1, seqT_mono s q2, q H F _ Al.refl (by rw [rp_bl])⟩⟩
  · cases e
end
end Sr
namespace Sr
variable [TabL]
open PySem hiding start
open PySem.Spec L2
open PyProof.Rows hiding St
theorem pi_ghost {X : Cx} {tg iter : Expr} {t : TI} (h : PI X tg iter t) : PI X tg iter (fun σ H R => ∃ d u, H d = some u ∧ Mut (some u) ∧ ∀ od, t σ (upd H d (.frz od u)) R) := by
  refine ⟨fun pins s σ H R I ⟨d, u, hd, mu, hw⟩ => ?_⟩
  obtain ⟨od, I1⟩ := I.lock hd mu
  exact h.run pins s σ _ R I1 (hw od)
section
variable {K : PySem.W.Frag} {mg : Str → Option Value} {T : Pn} {e : En} {σ : St} {H F : Hp} {j : Nat} {d : D} {v : V}
theorem ER.backV (er : ER K mg T e σ H F) (hp : σ[j]? = some (some v)) (r : Rp K mg F d v) : ER K mg T (e.set j (.val d)) σ H F := by
  have get : ∀ (i : Nat) (x : Sl), (e.set j (.val d))[i]? = some x → (i ≠ j ∧ e[i]? = some x) ∨ (i = j ∧ x = .val d) := fun i x h => by
    by_cases hj : i = j
    · subst hj
      rw [List.getElem?_set] at h
      split at h
      · split at h
        · cases h; exact .inr ⟨rfl, rfl⟩
        · cases h
      · rename_i z; exact (z rfl).elim
    · rw [List.getElem?_set_ne (Ne.symm hj)] at h
      exact .inl ⟨hj, h⟩
  refine ⟨er.sub, fun i x h => ?_, fun i x h => ?_, fun i k q x y h1 h2 h3 h4 => ?_, by rw [List.length_set]; exact er.len, er.pin, er.tb⟩
  · rcases get i _ h with ⟨_, h'⟩ | ⟨gi, h'⟩
    · exact er.val i x h'
    · cases h'; rw [gi]; exact ⟨v, hp, r⟩
  · rcases get i _ h with ⟨_, h'⟩ | ⟨_, h'⟩
    · exact er.own i x h'
    · cases h'
  · rcases get i _ h1 with ⟨_, q1⟩ | ⟨_, q1⟩
    · rcases get k _ h2 with ⟨_, q2⟩ | ⟨_, q2⟩
      · exact er.inj i k q x y q1 q2 h3 h4
      · cases q2
    · cases q1
end
def mKeys (j : Nat) : M (List D) := fun e => match e[j]? with
  | some (.own (.dk ds)) => .ok (ds.map fun q => kD q.1) (e.set j (.val (.dk ds)))
  | _ => .bad
theorem walks_keys {K : PySem.W.Frag} {mg : Str → Option Value} {F : Hp} {p : Addr} {o : Obj} {xs : List (Key × V)} {ds : List (Key × D)} (h : F p = some (.frz o (.dK xs))) (l : RpK K mg F ds xs) : Walks K mg (Itk p o xs) (ds.map fun q => kD q.1) F := by
  refine ⟨_, _, by rw [List.length_map, l.len]; exact walk_keys (d := p) (o := o) (kvs := xs), fun H s => s _ _ h, fun i H1 F1 x H2 hi s1 s2 y => ?_⟩
  obtain ⟨rfl, k, v, hk, rfl⟩ := y
  obtain ⟨d0, hd0, _⟩ := RpK.get l hk
  exact ⟨F1, kD k, Al.refl, by rw [List.getElem?_map, hd0]; rfl, rp_kD K mg F1 k⟩
section
variable {X : Cx} {T : Pn} {W : WX} {pv : Pos} {x : Str} {tg : Expr}
theorem ji_keys (j : Nat) (hNj : X.N[j]? = some x) (hv : Vis X.env.scope x) (hd : (x == ("__debug__" : Str)) = false := by decide) (hcd : (x == ("__classdict__" : Str)) = false := by decide) : JI X T W tg (.Name x pv) (mKeys j) := by
  refine PIimp (pi_ghost (pi_keys (pe_var hNj hv hd hcd))) fun σ H R ⟨e, F, er, h⟩ => ?_
  unfold RunAt mKeys at h
  cases q0 : e[j]? with
  | none => simp only [q0] at h
  | some sl =>
  cases sl with
  | no => simp only [q0] at h
  | val d => simp only [q0] at h
  | own d =>
  cases d with
  | dk ds =>
    simp only [q0] at h
    obtain ⟨p, s1, s2, xs0, s3, s4⟩ := er.own j _ q0
    refine ⟨p, .dK xs0, s3, True.intro, fun od => ⟨.ref p, s1, p, od, rfl, .inl ⟨xs0, upd_same, ?_⟩⟩⟩
    have np := er.dropN q0 s1
    have er1 : ER X.K X.mg T (e.set j .no) σ (upd H p (.frz od (.dK xs0))) F := (er.dropO (j := j)).updFree s2 np
    have er2 := er1.freeze s2 np (o := .frz od (.dK xs0)) upd_same
    have sF : Same F (upd F p (.frz od (.dK xs0))) := same_upd s2
    have rp : Rp X.K X.mg (upd F p (.frz od (.dK xs0))) (.dk ds) (.ref p) := by
      rw [rp_dk]
      exact ⟨p, xs0, rfl, .inr ⟨od, upd_same⟩, RpK.mono sF _ _ s4⟩
    have er3 := er2.backV (j := j) s1 rp
    have e3 : (e.set j .no).set j (.val (.dk ds)) = e.set j (.val (.dk ds)) := List.set_set ..
    rw [e3] at er3
    have owp : Ow e σ p := ⟨j, _, q0, s1⟩
    have ow : ∀ a, Ow (e.set j (.val (.dk ds))) σ a → Ow e σ a := fun a ⟨i, y, h1, h2⟩ => by
      by_cases hj : i = j
      · subst hj
        rw [List.getElem?_set] at h1
        split at h1
        · split at h1 <;> cases h1
        · rename_i z; exact (z rfl).elim
      · rw [List.getElem?_set_ne (Ne.symm hj)] at h1
        exact ⟨i, y, h1, h2⟩
    refine h _ _ er3 ⟨sF, fun a o ha na => ?_, fun a o ha => ?_, fun a ha => ?_⟩ _ (walks_keys upd_same (RpK.mono sF _ _ s4))
    · have hap : a ≠ p := fun z => na (by rw [z]; exact owp)
      exact ⟨fun _ => by rw [upd_ne hap]; exact ha, fun z => na (ow a z)⟩
    · by_cases hap : a = p
      · exact .inr (.inr (by rw [hap]; exact owp))
      · rw [upd_ne hap] at ha; exact .inl ha
    · by_cases hap : a = p
      · rw [hap, upd_same] at ha; cases ha
      · rw [upd_ne hap] at ha; exact ha
  | _ => simp only [q0] at h
end
end Sr
namespace Tb
section
variable {t : Tab} {i s : Nat}
theorem nx_lt (ok : Ok t) (h : i < t.length) (b : Bool) : nx t i b < t.length := by
  have := ok _ (row_mem h)
  unfold nx
  cases b
  · exact this.2
  · exact this.1
end
section
variable {A : Type} [DecidableEq A]
theorem mem_ded {ks : List A} {y : A} : y ∈ ded ks ↔ y ∈ ks := by unfold ded; rw [mem_fold]; simp
end
section
variable {A : Type} [BEq A] [LawfulBEq A]
theorem idxOf_pre {l r : List A} {x : A} (h : x ∈ l) : (l ++ r).idxOf x = l.idxOf x := by
  rw [List.idxOf_append, if_pos h]
theorem idxOf_inj {l : List A} {x y : A} (hx : x ∈ l) (h : l.idxOf x = l.idxOf y) : x = y := by
  have h1 : l.idxOf x < l.length := List.idxOf_lt_length_of_mem hx
  have h2 : l[l.idxOf x]'h1 = x := List.getElem_idxOf h1
  have h3 : l[l.idxOf y]'(h ▸ h1) = y := List.getElem_idxOf (h ▸ h1)
  rw [← h2, ← h3]
  simp only [h]
end
theorem pigeon : ∀ (n : Nat) (l : List Nat), l.Nodup → (∀ x ∈ l, x < n) → l.length ≤ n
  | 0, l, _, h => by
    cases l with
    | nil => simp
    | cons x l => have := h x (by simp); omega
  | n + 1, l, hd, h => by
    by_cases hn : n ∈ l
    · have h1 : (l.erase n).length = l.length - 1 := List.length_erase_of_mem hn
      have h2 : (l.erase n).length ≤ n := pigeon n _ (hd.erase n) fun x hx => by
        have h3 := (List.Nodup.mem_erase_iff hd).mp hx
        have := h x h3.2
        have := h3.1
        omega
      omega
    · have := pigeon n l hd fun x hx => by
        have := h x hx
        have : x ≠ n := fun e => hn (e ▸ hx)
        omega
      omega
abbrev RS := List Nat × Nat
def rStep (t : Tab) : RS → Option RS := fun q => if q.2 < q.1.length then some (addN (addN q.1 (row t (q.1.getD q.2 0)).2.1) (row t (q.1.getD q.2 0)).2.2, q.2 + 1) else none
def reach (t : Tab) (s : Nat) : List Nat := (iter (rStep t) t.length ([s], 0)).1
structure RI (t : Tab) (s : Nat) (q : RS) : Prop where
  nd : q.1.Nodup
  lt : ∀ x ∈ q.1, x < t.length
  le : q.2 ≤ q.1.length
  hd : q.1[0]? = some s
  cl : ∀ i, i < q.2 → ∀ b, nx t (q.1.getD i 0) b ∈ q.1
theorem getD_mem {l : List Nat} {i : Nat} (h : i < l.length) : l.getD i 0 ∈ l := by
  simp [List.getD_eq_getElem?_getD, h]
theorem ri_step {t : Tab} {s : Nat} (ok : Ok t) {q q' : RS} (I : RI t s q) (h : rStep t q = some q') : RI t s q' ∧ t.length - q'.2 < t.length - q.2 := by
  obtain ⟨l, a⟩ := q
  unfold rStep at h
  dsimp only at h
  split at h
  · rename_i ha
    cases h
    have hm := getD_mem ha
    have hx := I.lt _ hm
    have hlen := pigeon t.length l I.nd I.lt
    obtain ⟨r1, e1⟩ := addN_pre (l := l) (x := (row t (l.getD a 0)).2.1)
    obtain ⟨r2, e2⟩ := addN_pre (l := addN l (row t (l.getD a 0)).2.1) (x := (row t (l.getD a 0)).2.2)
    have e3 : addN (addN l (row t (l.getD a 0)).2.1) (row t (l.getD a 0)).2.2 = l ++ (r1 ++ r2) := by rw [e2, e1, List.append_assoc]
    have get : ∀ i, i < l.length → (l ++ (r1 ++ r2)).getD i 0 = l.getD i 0 := fun i hi => by
      simp [List.getD_eq_getElem?_getD, List.getElem?_append_left hi]
    have hr := ok _ (row_mem hx)
    refine ⟨⟨nodup_addN (nodup_addN I.nd), fun x hxx => ?_, ?_, ?_, fun i hi b => ?_⟩, by dsimp only at *; omega⟩
    · rw [mem_addN, mem_addN] at hxx
      rcases hxx with (hxx | rfl) | rfl
      · exact I.lt x hxx
      · exact hr.1
      · exact hr.2
    · dsimp only; rw [e3, List.length_append]; omega
    · dsimp only
      have h0 := I.hd
      dsimp only at h0
      rw [e3, List.getElem?_append_left (by omega)]; exact h0
    · dsimp only at hi ⊢
      rw [e3, get i (by omega), ← e3]
      by_cases hia : i < a
      · rw [mem_addN, mem_addN]; exact .inl (.inl (I.cl i hia b))
      · have : i = a := by omega
        subst this
        unfold nx
        rw [mem_addN, mem_addN]
        cases b
        · exact .inr rfl
        · exact .inl (.inr rfl)
  · cases h
theorem ri_start {t : Tab} {s : Nat} (hs : s < t.length) : RI t s ([s], 0) := ⟨by simp, by simp; exact hs, by simp, rfl, fun i h => by dsimp only at h; omega⟩
structure RSpec (t : Tab) (s : Nat) (l : List Nat) : Prop where
  nd : l.Nodup
  lt : ∀ x ∈ l, x < t.length
  hd : l[0]? = some s
  cl : ∀ x ∈ l, ∀ b, nx t x b ∈ l
theorem reach_done {t : Tab} {s : Nat} (ok : Ok t) (hs : s < t.length) : rStep t (iter (rStep t) t.length ([s], 0)) = none :=
  iter_done (RI t s) (fun q => t.length - q.2) (fun a b I h => ri_step ok I h) t.length (ri_start hs) (by dsimp only; omega)
theorem reach_ri {t : Tab} {s : Nat} (ok : Ok t) (hs : s < t.length) : RI t s (iter (rStep t) t.length ([s], 0)) :=
  iter_inv (RI t s) (fun a b I h => (ri_step ok I h).1) _ (ri_start hs)
theorem reach_spec {t : Tab} {s : Nat} (ok : Ok t) (hs : s < t.length) : RSpec t s (reach t s) := by
  have I := reach_ri ok hs
  have D := reach_done ok hs
  unfold reach
  generalize iter (rStep t) t.length ([s], 0) = q at *
  obtain ⟨l, a⟩ := q
  have hle : l.length ≤ a := by
    unfold rStep at D
    dsimp only at D
    split at D
    · cases D
    · omega
  refine ⟨I.nd, I.lt, I.hd, fun x hx b => ?_⟩
  obtain ⟨i, hi, rfl⟩ := List.mem_iff_getElem.mp hx
  have hi' : i < l.length := hi
  have := I.cl i (by dsimp only; omega) b
  dsimp only at this
  have e : l.getD i 0 = l[i] := by simp [List.getD_eq_getElem?_getD, hi]
  rw [e] at this
  exact this
theorem dist_le (f : List Nat) : dist f ≤ f.length := by
  unfold dist ded
  have H : ∀ (ks : List Nat) (l : List Nat), (ks.foldl addN l).length ≤ l.length + ks.length := by
    intro ks
    induction ks with
    | nil => intro l; simp
    | cons k ks ih =>
      intro l
      have := ih (addN l k)
      have h2 : (addN l k).length ≤ l.length + 1 := by unfold addN; split <;> simp
      rw [List.foldl_cons, List.length_cons]; omega
  have := H f []
  simpa using this
theorem keys_len (t : Tab) (f : List Nat) : (keys t f).length = t.length := by unfold keys; simp
theorem renum_len (ks : List K3) : (renum ks).length = ks.length := by unfold renum; simp
theorem keys_get {t : Tab} {f : List Nat} {i : Nat} (h : i < t.length) : (keys t f)[i]? = some (f.getD i 0, f.getD (row t i).2.1 0, f.getD (row t i).2.2 0) := by
  unfold keys
  rw [List.getElem?_map, List.getElem?_zipIdx, List.getElem?_eq_getElem h, row_eq h]
  simp
theorem renum_get {ks : List K3} {i : Nat} {k : K3} (h : ks[i]? = some k) : (renum ks).getD i 0 = (ded ks).idxOf k := by
  unfold renum
  rw [List.getD_eq_getElem?_getD, List.getElem?_map, h]; rfl
theorem renum_iff {ks : List K3} {i j : Nat} {k k' : K3} (h : ks[i]? = some k) (h' : ks[j]? = some k') : (renum ks).getD i 0 = (renum ks).getD j 0 ↔ k = k' := by
  rw [renum_get h, renum_get h']
  refine ⟨fun e => idxOf_inj ?_ e, fun e => by rw [e]⟩
  rw [mem_ded]; exact List.mem_of_getElem? h
structure CI (t : Tab) (q : CS) : Prop where
  len : q.1.length = t.length
  st : ∀ i j, i < t.length → j < t.length → q.1.getD i 0 = q.1.getD j 0 → (row t i).1 = (row t j).1
  al : ∀ i j, i < t.length → j < t.length → Alike t i j → q.1.getD i 0 = q.1.getD j 0
  le : q.2 ≤ t.length
  pv : q.2 = 0 ∨ ∃ p : List Nat, p.length = t.length ∧ q.2 = dist p ∧ q.1 = renum (keys t p)
theorem f0_get {t : Tab} {i : Nat} (h : i < t.length) : (f0 t).getD i 0 = if (row t i).1 then 1 else 0 := by
  unfold f0
  rw [List.getD_eq_getElem?_getD, List.getElem?_map, List.getElem?_eq_getElem h, row_eq h]; rfl
theorem ci_start (t : Tab) : CI t (f0 t, 0) := by
  refine ⟨by unfold f0; simp, fun i j hi hj e => ?_, fun i j hi hj h => ?_, by simp, .inl rfl⟩
  · dsimp only at e
    rw [f0_get hi, f0_get hj] at e
    cases h1 : (row t i).1 <;> cases h2 : (row t j).1 <;> simp [h1, h2] at e ⊢
  · dsimp only
    rw [f0_get hi, f0_get hj]
    have := h []
    unfold run at this
    rw [this]
theorem ci_step {t : Tab} (ok : Ok t) {q q' : CS} (I : CI t q) (h : cStep t q = some q') : CI t q' ∧ t.length - q'.2 < t.length - q.2 := by
  unfold cStep at h
  split at h
  · rename_i hlt
    cases h
    have hd := dist_le q.1
    have hl := I.len
    refine ⟨⟨by dsimp only; rw [renum_len, keys_len], fun i j hi hj e => ?_, fun i j hi hj h => ?_, by dsimp only; omega, .inr ⟨q.1, I.len, rfl, rfl⟩⟩, by dsimp only; omega⟩
    · have e2 := (renum_iff (keys_get hi) (keys_get hj)).mp e
      exact I.st i j hi hj (congrArg (·.1) e2)
    · refine (renum_iff (keys_get hi) (keys_get hj)).mpr ?_
      rw [I.al i j hi hj h]
      have h1 := I.al _ _ (nx_lt ok hi true) (nx_lt ok hj true) (h.nx true)
      have h2 := I.al _ _ (nx_lt ok hi false) (nx_lt ok hj false) (h.nx false)
      unfold Tb.nx at h1 h2
      simp only [if_true] at h1
      simp only [Bool.false_eq_true, if_false] at h2
      rw [h1, h2]
  · cases h
theorem cls_ci {t : Tab} (ok : Ok t) : CI t (iter (cStep t) t.length (f0 t, 0)) := iter_inv (CI t) (fun a b I h => (ci_step ok I h).1) _ (ci_start t)
theorem cls_done {t : Tab} (ok : Ok t) : cStep t (iter (cStep t) t.length (f0 t, 0)) = none :=
  iter_done (CI t) (fun q => t.length - q.2) (fun a b I h => ci_step ok I h) t.length (ci_start t) (by dsimp only; omega)
theorem cls_len {t : Tab} (ok : Ok t) : (cls t).length = t.length := (cls_ci ok).len
def pick (f : List Nat) : List Nat → List Nat × List Nat → List Nat × List Nat
  | [], q => q
  | x :: xs, q => pick f xs (if f.getD x 0 ∈ q.1 then q else (q.1 ++ [f.getD x 0], q.2 ++ [x]))
def ix (t : Tab) (s x : Nat) : Nat := (pick (cls t) (reach t s) ([], [])).1.idxOf ((cls t).getD x 0)
def small (t : Tab) (s : Nat) : Tab := (pick (cls t) (reach t s) ([], [])).2.map fun x => ((row t x).1, ix t s (row t x).2.1, ix t s (row t x).2.2)
structure PI (f : List Nat) (xs : List Nat) (q : List Nat × List Nat) : Prop where
  eq : q.1 = q.2.map fun x => f.getD x 0
  nd : q.1.Nodup
  all : ∀ x ∈ xs, f.getD x 0 ∈ q.1
  sub : ∀ x ∈ q.2, x ∈ xs
theorem pick_pi {f : List Nat} : ∀ (xs pre : List Nat) (q : List Nat × List Nat), PI f pre q → PI f (pre ++ xs) (pick f xs q)
  | [], pre, q, h => by rw [List.append_nil]; exact h
  | x :: xs, pre, q, h => by
    unfold pick
    rw [show pre ++ x :: xs = (pre ++ [x]) ++ xs by simp]
    refine pick_pi xs (pre ++ [x]) _ ?_
    split
    · rename_i hx
      refine ⟨h.eq, h.nd, fun y hy => ?_, fun y hy => by simp [h.sub y hy]⟩
      rw [List.mem_append, List.mem_singleton] at hy
      rcases hy with hy | rfl
      · exact h.all y hy
      · exact hx
    · rename_i hx
      refine ⟨by simp [h.eq], ?_, fun y hy => ?_, fun y hy => ?_⟩
      · rw [List.nodup_append]
        exact ⟨h.nd, by simp, fun a ha b hb => by simp at hb; subst hb; intro e; subst e; exact hx ha⟩
      · rw [List.mem_append, List.mem_singleton] at hy
        rcases hy with hy | rfl
        · exact List.mem_append_left _ (h.all y hy)
        · simp
      · dsimp only at hy
        rw [List.mem_append, List.mem_singleton] at hy
        rcases hy with hy | rfl
        · simp [h.sub y hy]
        · simp
section
variable {t : Tab} {s : Nat}
theorem small_pi (t : Tab) (s : Nat) : PI (cls t) (reach t s) (pick (cls t) (reach t s) ([], [])) := by
  have := pick_pi (f := cls t) (reach t s) [] ([], []) ⟨rfl, by simp, by simp, by simp⟩
  simpa using this
end
end Tb
namespace Tb
open Classical in
abbrev Lg := List Bool → Bool
def der (b : Bool) (l : Lg) : Lg := fun w => l (b :: w)
end Tb
namespace Tb
section
variable {rise fall : Nat}
abbrev SS := Bool × Nat
def sStep (rise fall : Nat) (q : SS) (b : Bool) : SS :=
  let c := if b = !q.1 then q.2 + 1 else 0
  if c = (if q.1 then fall else rise) then (!q.1, 0) else (q.1, c)
end
end Tb
namespace Tb
abbrev PW := List Bool × Nat × Nat
abbrev KL := List (Nat × Nat) × List PW
def exp1 (a b : Tab) (p : PW) (c : Bool) (q : KL) : KL := if (nx a p.2.1 c, nx b p.2.2 c) ∈ q.1 then q else (q.1 ++ [(nx a p.2.1 c, nx b p.2.2 c)], q.2 ++ [(p.1 ++ [c], nx a p.2.1 c, nx b p.2.2 c)])
def exp2 (a b : Tab) (p : PW) (q : KL) : KL := exp1 a b p false (exp1 a b p true q)
def lev (ab : Bool) (a b : Tab) : List PW → KL → Sum (List Bool) KL
  | [], q => .inr q
  | p :: l, q => if bad ab a b p.2.1 p.2.2 then .inl p.1 else lev ab a b l (exp2 a b p q)
end Tb
namespace Tb
def sl (r f : Nat) (u : Bool) (w : List Bool) : Bool := (w.foldl (sStep r f) (u, 0)).1
end Tb
namespace Tb
def q0 : KL := ([(0, 0)], [([], 0, 0)])
end Tb
namespace Tb
def hSt (m : Nat) (q : Bool × Nat) (v : Bool) : Bool × Nat := if 0 < q.2 then (q.1, q.2 - 1) else if v = q.1 then (q.1, 0) else (v, m)
section
variable {t : Tab} {m : Nat}
def hR (m : Nat) : Bool × Nat → Lg → List Bool → Bool × Nat
  | q, _, [] => q
  | q, f, b :: w => hR m (hSt m q (f [b])) (der b f) w
def hL (m : Nat) (f : Lg) : Lg := fun w => (hR m (f [], 0) f w).1
end
end Tb
namespace Hi
theorem zip_app (f : Bool → Bool → Bool) (s1 s2 c1 c2 : List Bool) (h : s1.length = c1.length) : List.zipWith f (s1 ++ s2) (c1 ++ c2) = List.zipWith f s1 c1 ++ List.zipWith f s2 c2 := List.zipWith_append h
end Hi
namespace Hi
theorem cnt_rep_f (n : Nat) : (rep n false).countP id = 0 := by unfold rep; rw [List.countP_replicate]; simp
theorem rep_len (n : Nat) (u : Bool) : (rep n u).length = n := by unfold rep; simp
theorem fp_app {s1 s2 c1 c2 : List Bool} (h : s1.length = c1.length) : fpL (s1 ++ s2) (c1 ++ c2) = fpL s1 c1 ++ fpL s2 c2 := zip_app _ _ _ _ _ h
theorem ff_app {s1 s2 c1 c2 : List Bool} (h : s1.length = c1.length) : ffL (s1 ++ s2) (c1 ++ c2) = ffL s1 c1 ++ ffL s2 c2 := zip_app _ _ _ _ _ h
end Hi
namespace Hi
theorem starts_snoc (s : List Bool) (x : Bool) : starts (s ++ [x]) = starts s ++ if s ≠ [] ∧ s.getLastD false ≠ x then [s.length] else [] := by
  unfold starts
  rw [List.length_append, List.length_singleton, Nat.add_sub_cancel]
  by_cases h0 : s = []
  · subst h0; rfl
  · have hpos : 0 < s.length := List.length_pos_iff.mpr h0
    have e1 : List.range' 1 s.length = List.range' 1 (s.length - 1) ++ [s.length] := by
      have : s.length = (s.length - 1) + 1 := by omega
      rw [this, List.range'_concat]
      simp
      omega
    rw [e1, List.filter_append]
    congr 1
    · refine List.filter_congr fun i hi => ?_
      rw [List.mem_range'_1] at hi
      simp only [List.getD_eq_getElem?_getD]
      rw [List.getElem?_append_left (by omega), List.getElem?_append_left (by omega)]
    · have e2 : (s ++ [x]).getD s.length false = x := by simp [List.getD_eq_getElem?_getD]
      have e3 : (s ++ [x]).getD (s.length - 1) false = s.getLastD false := by
        simp only [List.getD_eq_getElem?_getD]
        rw [List.getElem?_append_left (by omega)]
        rw [List.getLastD_eq_getLast?, List.getLast?_eq_getElem?]
      rw [List.filter_cons, e2, e3]
      generalize s.getLastD false = y
      by_cases h : y = x
      · rw [if_neg (by simp [h]), if_neg (by simp [h])]; rfl
      · have hb : (x != y) = true := by simp; exact fun e => h e.symm
        rw [if_pos hb, if_pos ⟨h0, h⟩]; rfl
theorem gaps_snoc {k : Nat} {l : List Nat} {m : Nat} (h : gaps k l = true) (hm : l = [] ∨ l.getLastD 0 + k ≤ m) : gaps k (l ++ [m]) = true := by
  unfold gaps at h ⊢
  rw [List.all_eq_true] at h ⊢
  intro j hj
  rw [List.length_append, List.length_singleton, List.mem_range'_1] at hj
  simp only [List.getD_eq_getElem?_getD]
  by_cases hl : j < l.length
  · have := h j (by rw [List.mem_range'_1]; omega)
    simp only [List.getD_eq_getElem?_getD] at this
    rw [List.getElem?_append_left (by omega), List.getElem?_append_left (by omega)]
    exact this
  · have e : j = l.length := by omega
    have hne : l ≠ [] := by intro z; rw [z] at hj; simp at hj; omega
    rcases hm with hm | hm
    · exact absurd hm hne
    · have e1 : (l ++ [m])[j]? = some m := by rw [e]; simp
      have e2 : (l ++ [m])[j - 1]? = l[l.length - 1]? := by rw [List.getElem?_append_left (by omega), e]
      have e3 : (l[l.length - 1]?).getD 0 = l.getLastD 0 := by rw [List.getLastD_eq_getLast?, List.getLast?_eq_getElem?]
      rw [e1, e2, e3]
      generalize l.getLastD 0 = y at hm
      simp
      omega
theorem cnt_drop {l : List Bool} {i j : Nat} (h : j ≤ i) : (l.drop i).countP id ≤ (l.drop j).countP id := by
  have : l.drop i = (l.drop j).drop (i - j) := by rw [List.drop_drop]; congr 1; omega
  rw [this]
  exact (List.drop_sublist _ _).countP_le
theorem wnd_snoc {l : List Bool} {p : Bool} {i n a : Nat} (hn : 1 ≤ n) (hi : i ≤ l.length) (h : ∀ i, i < l.length → (wnd l i n).countP id ≤ a) (hl : ((l ++ [p]).drop (l.length + 1 - n)).countP id ≤ a) : (wnd (l ++ [p]) i n).countP id ≤ a := by
  by_cases c : i + n ≤ l.length
  · have : wnd (l ++ [p]) i n = wnd l i n := by
      unfold wnd
      rw [List.drop_append_of_le_length (by omega), List.take_append_of_le_length (by rw [List.length_drop]; omega)]
    rw [this]
    exact h i (by omega)
  · have h1 : (wnd (l ++ [p]) i n).countP id ≤ ((l ++ [p]).drop i).countP id := (List.take_sublist _ _).countP_le
    exact Nat.le_trans h1 (Nat.le_trans (cnt_drop (by omega)) hl)
theorem last_quiet {l : List Bool} {n a : Nat} (hn : 1 ≤ n) (h : ∀ i, i < l.length → (wnd l i n).countP id ≤ a) : ((l ++ [false]).drop (l.length + 1 - n)).countP id ≤ a := by
  rw [List.drop_append_of_le_length (by omega), List.countP_append]
  have e0 : [false].countP id = 0 := rfl
  rw [e0, Nat.add_zero]
  by_cases c : l.length + 1 - n < l.length
  · have := h _ c
    unfold wnd at this
    rw [List.take_of_length_le (by rw [List.length_drop]; omega)] at this
    exact this
  · rw [List.drop_eq_nil_of_le (by omega)]
    exact Nat.zero_le _
theorem fp_snoc {s c : List Bool} (h : s.length = c.length) (x y : Bool) : fpL (s ++ [x]) (c ++ [y]) = fpL s c ++ [!x && y] := by rw [fp_app h]; rfl
theorem ff_snoc {s c : List Bool} (h : s.length = c.length) (x y : Bool) : ffL (s ++ [x]) (c ++ [y]) = ffL s c ++ [x && !y] := by rw [ff_app h]; rfl
theorem okW_each {a b n : Nat} {s c : List Bool} (h : okW a b n s c = true) : ∀ i, i < c.length → (wnd (fpL s c) i n).countP id ≤ a ∧ (wnd (ffL s c) i n).countP id ≤ b := by
  unfold okW letB at h
  rw [List.all_eq_true] at h
  intro i hi
  have := h i (List.mem_range.2 hi)
  rw [Bool.and_eq_true, decide_eq_true_eq, decide_eq_true_eq] at this
  exact this
theorem Gr.step {a b n k : Nat} {s c : List Bool} {age age' : Nat} {cur cur' e : Bool} (hn : 1 ≤ n) (h : Gr a b n k s c age cur) (hc : (cur' = cur ∧ age' = age) ∨ (s ≠ [] ∧ k ≤ age ∧ cur' = !cur ∧ age' = 0))
    (he : e = true → letB a b ((fpL s c ++ [!cur']).drop (s.length + 1 - n)) ((ffL s c ++ [cur']).drop (s.length + 1 - n)) = true) : Gr a b n k (s ++ [cur']) (c ++ [cur' == !e]) (age' + 1) cur' := by
  have hl := h.len
  have lp : (fpL s c).length = s.length := by unfold fpL; rw [List.length_zipWith]; omega
  have lf : (ffL s c).length = s.length := by unfold ffL; rw [List.length_zipWith]; omega
  have ev := okW_each h.w
  have ep : ∀ i, i < (fpL s c).length → (wnd (fpL s c) i n).countP id ≤ a := fun i hi => (ev i (by omega)).1
  have ef : ∀ i, i < (ffL s c).length → (wnd (ffL s c) i n).countP id ≤ b := fun i hi => (ev i (by omega)).2
  have key : ((fpL s c ++ [!cur' && (cur' == !e)]).drop ((fpL s c).length + 1 - n)).countP id ≤ a ∧ ((ffL s c ++ [cur' && !(cur' == !e)]).drop ((ffL s c).length + 1 - n)).countP id ≤ b := by
    rw [lp, lf]
    cases e with
    | false =>
      have e1 : (!cur' && (cur' == !false)) = false := by cases cur' <;> rfl
      have e2 : (cur' && !(cur' == !false)) = false := by cases cur' <;> rfl
      rw [e1, e2]
      have := last_quiet hn ep
      have := last_quiet hn ef
      rw [lp] at *
      rw [lf] at *
      exact ⟨by assumption, by assumption⟩
    | true =>
      have e1 : (!cur' && (cur' == !true)) = !cur' := by cases cur' <;> rfl
      have e2 : (cur' && !(cur' == !true)) = cur' := by cases cur' <;> rfl
      rw [e1, e2]
      have := he rfl
      unfold letB at this
      rw [Bool.and_eq_true, decide_eq_true_eq, decide_eq_true_eq] at this
      exact this
  refine ⟨by simp [hl], ?_, ?_, fun _ => by simp, ?_⟩
  · unfold okW letB
    rw [List.all_eq_true]
    intro i hi
    rw [List.mem_range, List.length_append, List.length_singleton] at hi
    rw [fp_snoc hl, ff_snoc hl, Bool.and_eq_true, decide_eq_true_eq, decide_eq_true_eq]
    exact ⟨wnd_snoc hn (by omega) ep key.1, wnd_snoc hn (by omega) ef key.2⟩
  · rw [starts_snoc]
    rcases hc with ⟨rfl, rfl⟩ | ⟨hs, hk, rfl, rfl⟩
    · rw [if_neg (fun q => q.2 (h.last q.1)), List.append_nil]
      exact h.st
    · rw [if_pos ⟨hs, by rw [h.last hs]; cases cur <;> simp⟩]
      refine gaps_snoc h.st ?_
      rcases h.age with q | q
      · exact .inl q
      · exact .inr (by omega)
  · rw [starts_snoc]
    rcases hc with ⟨rfl, rfl⟩ | ⟨hs, hk, rfl, rfl⟩
    · rw [if_neg (fun q => q.2 (h.last q.1)), List.append_nil]
      rcases h.age with q | q
      · exact .inl q
      · refine .inr ?_
        rw [List.length_append, List.length_singleton]
        omega
    · rw [if_pos ⟨hs, by rw [h.last hs]; cases cur <;> simp⟩]
      refine .inr ?_
      simp
end Hi
namespace Hi
theorem gaps_snoc_iff {k : Nat} {l : List Nat} {m : Nat} : gaps k (l ++ [m]) = true ↔ gaps k l = true ∧ (l = [] ∨ l.getLastD 0 + k ≤ m) := by
  constructor
  · intro h
    unfold gaps at h ⊢
    rw [List.all_eq_true] at h ⊢
    refine ⟨fun j hj => ?_, ?_⟩
    · rw [List.mem_range'_1] at hj
      have := h j (by rw [List.mem_range'_1, List.length_append, List.length_singleton]; omega)
      simp only [List.getD_eq_getElem?_getD] at this ⊢
      rw [List.getElem?_append_left (by omega), List.getElem?_append_left (by omega)] at this
      exact this
    · by_cases hl : l = []
      · exact .inl hl
      · right
        have hpos : 0 < l.length := List.length_pos_iff.mpr hl
        have := h l.length (by rw [List.mem_range'_1, List.length_append, List.length_singleton]; omega)
        simp only [List.getD_eq_getElem?_getD] at this
        have e1 : (l ++ [m])[l.length]? = some m := by simp
        have e2 : (l ++ [m])[l.length - 1]? = l[l.length - 1]? := by rw [List.getElem?_append_left (by omega)]
        have e3 : (l[l.length - 1]?).getD 0 = l.getLastD 0 := by rw [List.getLastD_eq_getLast?, List.getLast?_eq_getElem?]
        rw [e1, e2, e3] at this
        generalize l.getLastD 0 = y at this
        simp at this
        omega
  · rintro ⟨h1, h2⟩
    exact gaps_snoc h1 h2
theorem wnd_pre {l : List Bool} {p : Bool} {i n : Nat} : (wnd l i n).countP id ≤ (wnd (l ++ [p]) i n).countP id := by
  unfold wnd
  by_cases h : i ≤ l.length
  · rw [List.drop_append_of_le_length h, List.take_append]
    exact (List.sublist_append_left _ _).countP_le
  · rw [List.drop_eq_nil_of_le (by omega)]
    simp
theorem wnd_each_iff {l : List Bool} {p : Bool} {n a : Nat} (hn : 1 ≤ n) : (∀ i, i < l.length + 1 → (wnd (l ++ [p]) i n).countP id ≤ a) ↔ (∀ i, i < l.length → (wnd l i n).countP id ≤ a) ∧ ((l ++ [p]).drop (l.length + 1 - n)).countP id ≤ a := by
  constructor
  · intro h
    refine ⟨fun i hi => Nat.le_trans wnd_pre (h i (by omega)), ?_⟩
    have := h (l.length + 1 - n) (by omega)
    unfold wnd at this
    rw [List.take_of_length_le (by rw [List.length_drop, List.length_append, List.length_singleton]; omega)] at this
    exact this
  · rintro ⟨h1, h2⟩ i hi
    exact wnd_snoc hn (by omega) h1 h2
theorem okW_iff {a b n : Nat} {s c : List Bool} : okW a b n s c = true ↔ ∀ i, i < c.length → (wnd (fpL s c) i n).countP id ≤ a ∧ (wnd (ffL s c) i n).countP id ≤ b := by
  unfold okW letB
  rw [List.all_eq_true]
  constructor
  · intro h i hi
    have := h i (List.mem_range.2 hi)
    rw [Bool.and_eq_true, decide_eq_true_eq, decide_eq_true_eq] at this
    exact this
  · intro h i hi
    have := h i (List.mem_range.1 hi)
    rw [Bool.and_eq_true, decide_eq_true_eq, decide_eq_true_eq]
    exact this
def lastOk (a b n : Nat) (s c : List Bool) (x y : Bool) : Prop := ((fpL s c ++ [!x && y]).drop (s.length + 1 - n)).countP id ≤ a ∧ ((ffL s c ++ [x && !y]).drop (s.length + 1 - n)).countP id ≤ b
theorem okW_snoc {a b n : Nat} (hn : 1 ≤ n) {s c : List Bool} (hl : s.length = c.length) (x y : Bool) : okW a b n (s ++ [x]) (c ++ [y]) = true ↔ okW a b n s c = true ∧ lastOk a b n s c x y := by
  have lp : (fpL s c).length = s.length := by unfold fpL; rw [List.length_zipWith]; omega
  have lf : (ffL s c).length = s.length := by unfold ffL; rw [List.length_zipWith]; omega
  rw [okW_iff, okW_iff, fp_snoc hl, ff_snoc hl]
  have hp := wnd_each_iff (l := fpL s c) (p := !x && y) (a := a) hn
  have hf := wnd_each_iff (l := ffL s c) (p := x && !y) (a := b) hn
  rw [lp] at hp
  rw [lf] at hf
  unfold lastOk
  rw [List.length_append, List.length_singleton, ← hl]
  constructor
  · intro h
    have h1 := hp.1 fun i hi => (h i hi).1
    have h2 := hf.1 fun i hi => (h i hi).2
    exact ⟨fun i hi => ⟨h1.1 i hi, h2.1 i hi⟩, h1.2, h2.2⟩
  · rintro ⟨h1, h2, h3⟩ i hi
    exact ⟨hp.2 ⟨fun i hi => (h1 i hi).1, h2⟩ i hi, hf.2 ⟨fun i hi => (h1 i hi).2, h3⟩ i hi⟩
def stayOk (k : Nat) (s : List Bool) (x : Bool) : Prop := s = [] ∨ s.getLastD false = x ∨ starts s = [] ∨ (starts s).getLastD 0 + k ≤ s.length
theorem okS_snoc {k : Nat} {s : List Bool} {x : Bool} : okS k (s ++ [x]) = true ↔ okS k s = true ∧ stayOk k s x := by
  show gaps k (starts (s ++ [x])) = true ↔ gaps k (starts s) = true ∧ _
  rw [starts_snoc]
  unfold stayOk
  by_cases h : s ≠ [] ∧ s.getLastD false ≠ x
  · rw [if_pos h, gaps_snoc_iff]
    constructor
    · rintro ⟨h1, h2⟩
      exact ⟨h1, .inr (.inr h2)⟩
    · rintro ⟨h1, h2⟩
      rcases h2 with h2 | h2 | h2
      · exact absurd h2 h.1
      · exact absurd h2 h.2
      · exact ⟨h1, h2⟩
  · rw [if_neg h, List.append_nil]
    constructor
    · intro h1
      refine ⟨h1, ?_⟩
      by_cases h2 : s = []
      · exact .inl h2
      · by_cases h3 : s.getLastD false = x
        · exact .inr (.inl h3)
        · exact absurd ⟨h2, h3⟩ h
    · exact fun h1 => h1.1
theorem alw_snoc {a b n k : Nat} (hn : 1 ≤ n) {s c : List Bool} (hl : s.length = c.length) (x y : Bool) : alw a b n k (s ++ [x]) (c ++ [y]) = true ↔ alw a b n k s c = true ∧ lastOk a b n s c x y ∧ stayOk k s x := by
  unfold alw
  rw [Bool.and_eq_true, Bool.and_eq_true, okW_snoc hn hl, okS_snoc]
  constructor
  · rintro ⟨⟨h1, h2⟩, h3, h4⟩; exact ⟨⟨h1, h3⟩, h2, h4⟩
  · rintro ⟨⟨h1, h3⟩, h2, h4⟩; exact ⟨⟨h1, h2⟩, h3, h4⟩
theorem lastD_any {s : List Bool} (h : s ≠ []) (u v : Bool) : s.getLastD u = s.getLastD v := by
  rw [List.getLastD_eq_getLast?, List.getLastD_eq_getLast?, List.getLast?_eq_some_getLast h]; rfl
theorem starts_lt {s : List Bool} {y : Nat} (h : y ∈ starts s) : y < s.length := by
  unfold starts at h
  rw [List.mem_filter, List.mem_range'_1] at h
  omega
theorem starts_last {s : List Bool} (h : starts s ≠ []) : (starts s).getLastD 0 < s.length := by
  have hm : (starts s).getLastD 0 ∈ starts s := by
    rw [List.getLastD_eq_getLast?, List.getLast?_eq_some_getLast h]
    exact List.getLast_mem h
  exact starts_lt hm
def lastN (m : Nat) (l : List Nat) : List Nat := l.drop (l.length - m)
structure Tells (n k : Nat) (u : Bool) (s c : List Bool) (x : Sit) : Prop where
  st : x.st = s.getLastD u
  fl : x.fl = lastN (n - 1) (List.replicate (n - 1) 46 ++ List.zipWith fcd s c)
  age : x.age = if starts s = [] then k else min k (s.length - (starts s).getLastD 0)
theorem tells_nil (n k : Nat) (u : Bool) : Tells n k u [] [] (begS n k u) := by
  refine ⟨rfl, ?_, rfl⟩
  unfold begS lastN
  simp
theorem cnt_fcd (s c : List Bool) : (List.zipWith fcd s c).map (· == 112) = fpL s c ∧ (List.zipWith fcd s c).map (· == 102) = ffL s c := by
  unfold fpL ffL
  rw [List.map_zipWith, List.map_zipWith]
  constructor <;> congr 1 <;> funext s c <;> cases s <;> cases c <;> rfl
theorem cnt_back (g : Nat → Bool) (hg : g 46 = false) (m : Nat) (l : List Nat) : ((lastN m (List.replicate m 46 ++ l)).map g).countP id = ((lastN m l).map g).countP id := by
  unfold lastN
  rw [List.length_append, List.length_replicate]
  by_cases h : m ≤ l.length
  · have e : m + l.length - m = m + (l.length - m) := by omega
    rw [e, List.drop_append, List.length_replicate]
    rw [List.drop_eq_nil_of_le (by rw [List.length_replicate]; omega)]
    rw [List.nil_append]
    congr 3
    omega
  · have e : m + l.length - m = l.length := by omega
    have e2 : l.length - m = 0 := by omega
    rw [e, e2, List.drop_zero, List.drop_append_of_le_length (by rw [List.length_replicate]; omega), List.drop_replicate, List.map_append, List.countP_append, List.map_replicate, List.countP_replicate]
    simp [hg]
theorem tells_let {a b n k : Nat} (hn : 1 ≤ n) {u : Bool} {s c : List Bool} (hl : s.length = c.length) {x : Sit} (h : Tells n k u s c x) (s' c' : Bool) : lets a b (x.fl ++ [fcd s' c']) = true ↔ lastOk a b n s c s' c' := by
  have hz : (List.zipWith fcd s c).length = s.length := by rw [List.length_zipWith]; omega
  have lp : (fpL s c).length = s.length := by unfold fpL; rw [List.length_zipWith]; omega
  have lf : (ffL s c).length = s.length := by unfold ffL; rw [List.length_zipWith]; omega
  have hd : ∀ (l : List Bool) (p : Bool), l.length = s.length → ((l ++ [p]).drop (s.length + 1 - n)).countP id = (l.drop (s.length - (n - 1))).countP id + (if p then 1 else 0) := by
    intro l p e
    have e1 : s.length + 1 - n = s.length - (n - 1) := by omega
    rw [e1, List.drop_append_of_le_length (by omega), List.countP_append]
    cases p <;> rfl
  have e1 : ((x.fl ++ [fcd s' c']).map (· == 112)).countP id = ((fpL s c ++ [!s' && c']).drop (s.length + 1 - n)).countP id := by
    rw [hd _ _ lp, List.map_append, List.countP_append, h.fl, cnt_back _ (by decide)]
    unfold lastN
    rw [List.map_drop, (cnt_fcd s c).1, hz]
    congr 1
    cases s' <;> cases c' <;> rfl
  have e2 : ((x.fl ++ [fcd s' c']).map (· == 102)).countP id = ((ffL s c ++ [s' && !c']).drop (s.length + 1 - n)).countP id := by
    rw [hd _ _ lf, List.map_append, List.countP_append, h.fl, cnt_back _ (by decide)]
    unfold lastN
    rw [List.map_drop, (cnt_fcd s c).2, hz]
    congr 1
    cases s' <;> cases c' <;> rfl
  unfold lets letB lastOk
  rw [Bool.and_eq_true, decide_eq_true_eq, decide_eq_true_eq, e1, e2]
def firstOk (u : Bool) (s : List Bool) (x : Bool) : Prop := s = [] → x = u
theorem tells_stay {n k : Nat} {u : Bool} {s c : List Bool} {x : Sit} (h : Tells n k u s c x) (x' : Bool) (hf : firstOk u s x') : (x' == x.st || x.age == k) = true ↔ stayOk k s x' := by
  unfold stayOk
  rw [Bool.or_eq_true, beq_iff_eq, beq_iff_eq, h.st, h.age]
  by_cases h0 : s = []
  · have := hf h0
    subst h0
    simp [this]
  · have hlast : s.getLastD u = s.getLastD false := lastD_any h0 u false
    rw [hlast]
    by_cases h1 : starts s = []
    · simp [h1]
    · rw [if_neg h1]
      constructor
      · rintro (q | q)
        · exact .inr (.inl q.symm)
        · have hle := starts_last h1
          exact .inr (.inr (.inr (by omega)))
      · rintro (q | q | q | q)
        · exact absurd q h0
        · exact .inl q.symm
        · exact absurd q h1
        · exact .inr (by omega)
theorem tells_step {n k : Nat} (hn : 1 ≤ n) (hk : 1 ≤ k) {u : Bool} {s c : List Bool} (hl : s.length = c.length) {x y : Sit} (h : Tells n k u s c x) {a b row : Nat} {s' c' : Bool} (hf : firstOk u s s') (e : step1 a b k x row s' c' = some y) : Tells n k u (s ++ [s']) (c ++ [c']) y := by
  have hst := tells_stay h s' hf
  unfold step1 at e
  split at e
  · rename_i q
    cases e
    rw [Bool.and_eq_true] at q
    refine ⟨by simp, ?_, ?_⟩
    · show (x.fl ++ [fcd s' c']).tail = _
      rw [h.fl, List.zipWith_append hl, ← List.append_assoc]
      show _ = lastN (n - 1) ((List.replicate (n - 1) 46 ++ List.zipWith fcd s c) ++ [fcd s' c'])
      generalize hL : List.replicate (n - 1) 46 ++ List.zipWith fcd s c = L
      have hLl : n - 1 ≤ L.length := by rw [← hL, List.length_append, List.length_replicate]; omega
      unfold lastN
      rw [← List.drop_one, List.length_append, List.length_singleton]
      have e1 : L.drop (L.length - (n - 1)) ++ [fcd s' c'] = (L ++ [fcd s' c']).drop (L.length - (n - 1)) := by rw [List.drop_append_of_le_length (by omega)]
      rw [e1, List.drop_drop]
      congr 1
      omega
    · show (if s' == x.st then x.age + (if x.age < k then 1 else 0) else 1) = _
      rw [starts_snoc]
      by_cases hc : s ≠ [] ∧ s.getLastD false ≠ s'
      · have hlast : s.getLastD u = s.getLastD false := lastD_any hc.1 u false
        have hne : ¬ (s' == x.st) = true := by
          rw [beq_iff_eq, h.st, hlast]
          exact fun z => hc.2 z.symm
        rw [if_neg hne, if_pos hc, if_neg (by simp)]
        simp
        omega
      · have heq : (s' == x.st) = true := by
          rw [beq_iff_eq, h.st]
          by_cases h0 : s = []
          · subst h0
            exact hf rfl
          · have hlast : s.getLastD u = s.getLastD false := lastD_any h0 u false
            rw [hlast]
            by_cases h3 : s.getLastD false = s'
            · exact h3.symm
            · exact absurd ⟨h0, h3⟩ hc
        rw [if_pos heq, if_neg hc, List.append_nil, h.age]
        by_cases h1 : starts s = []
        · rw [if_pos h1, if_pos h1]
          simp
        · rw [if_neg h1, if_neg h1, List.length_append, List.length_singleton]
          have hle := starts_last h1
          split <;> omega
  · cases e
end Hi
namespace Hi
def once (l : List Sit) : List Sit := l.foldl (fun acc y => if y ∈ acc then acc else acc ++ [y]) []
def level (a b k : Nat) (l : List Sit) (c first : Bool) : List Sit := once (l.flatMap fun x => (nexts a b k x c first).map (·.2))
def levs (a b n k : Nat) : List Bool → List Sit
  | [] => [begS n k false, begS n k true]
  | c :: cs => level a b k (levs a b n k cs) c (cs.isEmpty)
theorem nexts_mem {a b k : Nat} {x : Sit} {c first s : Bool} {y : Sit} : (s, y) ∈ nexts a b k x c first ↔ step1 a b k x 0 s c = some y ∧ (first = true → s = x.st) := by
  unfold nexts
  rw [List.mem_map]
  constructor
  · rintro ⟨q, hq, e⟩
    rw [List.mem_filter] at hq
    obtain ⟨h1, h2⟩ := hq
    unfold steps at h1
    rw [List.mem_filterMap] at h1
    obtain ⟨r, _, h1⟩ := h1
    rw [Option.map_eq_some_iff] at h1
    obtain ⟨z, h1, rfl⟩ := h1
    cases e
    rw [Bool.and_eq_true, beq_iff_eq, Bool.or_eq_true, beq_iff_eq] at h2
    dsimp only at h1 h2
    rw [ite_self, h2.1] at h1
    refine ⟨h1, fun hf => ?_⟩
    rcases h2.2 with h3 | h3
    · exact h3
    · rw [hf] at h3; cases h3
  · rintro ⟨h1, h2⟩
    refine ⟨(s, c, y), ?_, rfl⟩
    rw [List.mem_filter]
    refine ⟨?_, ?_⟩
    · unfold steps
      rw [List.mem_filterMap]
      refine ⟨(s, c), by cases s <;> cases c <;> simp, ?_⟩
      dsimp only
      rw [ite_self, h1]
      rfl
    · rw [Bool.and_eq_true, Bool.or_eq_true]
      refine ⟨by simp, ?_⟩
      cases first
      · exact .inr rfl
      · exact .inl (by simp [h2 rfl])
def logs (a b n k : Nat) : List Bool → List (List Bool)
  | [] => [[]]
  | c :: cs => (((logs a b n k cs).map (· ++ [false])) ++ ((logs a b n k cs).map (· ++ [true]))).filter fun s => alw a b n k s (c :: cs).reverse
theorem logs_mem {a b n k : Nat} (hn : 1 ≤ n) : ∀ (cs : List Bool) (s : List Bool), s ∈ logs a b n k cs ↔ s.length = cs.length ∧ alw a b n k s cs.reverse = true
  | [], s => by
    unfold logs
    rw [List.mem_singleton]
    constructor
    · rintro rfl; exact ⟨rfl, by rfl⟩
    · rintro ⟨h, _⟩; exact List.length_eq_zero_iff.1 h
  | c :: cs, s => by
    unfold logs
    rw [List.mem_filter, List.mem_append, List.mem_map, List.mem_map]
    constructor
    · rintro ⟨h1 | h1, h2⟩
      · obtain ⟨r, hr, rfl⟩ := h1
        have := ((logs_mem hn cs r).1 hr).1
        exact ⟨by simp [this], h2⟩
      · obtain ⟨r, hr, rfl⟩ := h1
        have := ((logs_mem hn cs r).1 hr).1
        exact ⟨by simp [this], h2⟩
    · rintro ⟨h1, h2⟩
      refine ⟨?_, h2⟩
      rcases List.eq_nil_or_concat s with rfl | ⟨r, x, rfl⟩
      · simp at h1
      · rw [List.concat_eq_append] at h1 h2 ⊢
        have hl : r.length = cs.length := by simpa using h1
        rw [List.reverse_cons] at h2
        have h3 := ((alw_snoc hn (by rw [List.length_reverse]; exact hl) x c).1 h2).1
        have h4 := (logs_mem hn cs r).2 ⟨hl, h3⟩
        cases x
        · exact .inl ⟨r, h4, rfl⟩
        · exact .inr ⟨r, h4, rfl⟩
end Hi
namespace Hi
theorem sits_len {a b n k : Nat} (hn : n ≤ 5) (hk : k ≤ 4) {l : List Sit} (h : l.Nodup) (ho : ∀ x ∈ l, SitOk a b n k 1 x) : l.length ≤ 1000 :=
  Nat.le_trans (nodup_len l (allS n k) h fun x hx => allS_mem (ho x hx)) (allS_len n k hn hk)
end Hi
namespace Hi
def kept (a b n k : Nat) : List Bool → List Bool → List Sit
  | P, [] => levs a b n k P
  | P, c :: q => (levs a b n k P).filter fun x => (nexts a b k x c P.isEmpty).any fun y => decide (y.2 ∈ kept a b n k (c :: P) q)
end Hi
namespace Ly
open Hi Tb
structure Small (a b n k : Nat) : Prop where
  la : a ≤ 3
  lb : b ≤ 3
  ln : 1 ≤ n ∧ n ≤ 5
  lk : 1 ≤ k ∧ k ≤ 2
  kn : k = 1 ∨ n ≤ 2
  ab : a = 0 ∨ b = 0 ∨ n ≤ 3
def allQ (a b n k rows : Nat) : List Sit := (List.range rows).flatMap fun r => [false, true].flatMap fun s => (List.range k).flatMap fun g => ((allFl (n - 1)).filter (lets a b)).map fun f => ⟨r, s, g + 1, f⟩
theorem fl_small : ∀ a b : Fin 4, ∀ n : Fin 5, ∀ k : Fin 2, (k.val + 1 = 1 ∨ n.val + 1 ≤ 2) → (a.val = 0 ∨ b.val = 0 ∨ n.val + 1 ≤ 3) → (k.val + 1) * ((allFl (n.val + 1 - 1)).filter (lets a.val b.val)).length ≤ 16 := by decide +kernel
theorem allQ_len {a b n k : Nat} (h : Small a b n k) (rows : Nat) : (allQ a b n k rows).length ≤ 32 * rows := by
  have hf := fl_small ⟨a, by have := h.la; omega⟩ ⟨b, by have := h.lb; omega⟩ ⟨n - 1, by have := h.ln; omega⟩ ⟨k - 1, by have := h.lk; omega⟩ (by
    have := h.kn; have := h.lk; have := h.ln
    show k - 1 + 1 = 1 ∨ n - 1 + 1 ≤ 2
    omega) (by
    have := h.ab; have := h.ln
    show a = 0 ∨ b = 0 ∨ n - 1 + 1 ≤ 3
    omega)
  have hf : (k - 1 + 1) * ((allFl (n - 1 + 1 - 1)).filter (lets a b)).length ≤ 16 := hf
  rw [Nat.sub_add_cancel h.lk.1, Nat.sub_add_cancel h.ln.1] at hf
  generalize hF : (allFl (n - 1)).filter (lets a b) = F at hf
  have hin : ∀ r s, ((List.range k).flatMap fun g => F.map fun f => (⟨r, s, g + 1, f⟩ : Sit)).length = k * F.length := by
    intro r s
    generalize k = m
    induction m with
    | zero => simp
    | succ m ih =>
      rw [List.range_succ, List.flatMap_append, List.length_append, ih, List.flatMap_singleton, List.length_map, Nat.succ_mul]
  unfold allQ
  rw [hF]
  induction rows with
  | zero => simp
  | succ r ih =>
    rw [List.range_succ, List.flatMap_append, List.length_append, List.flatMap_singleton]
    have : ([false, true].flatMap fun s => (List.range k).flatMap fun g => F.map fun f => (⟨r, s, g + 1, f⟩ : Sit)).length ≤ 32 := by
      rw [List.flatMap_cons, List.flatMap_cons, List.flatMap_nil, List.append_nil, List.length_append, hin, hin]
      omega
    omega
theorem allQ_mem {a b n k rows : Nat} {x : Sit} (h : SitOk a b n k rows x) : x ∈ allQ a b n k rows := by
  obtain ⟨r, s, g, f⟩ := x
  have h1 := h.row
  have h2 := h.age
  have h3 := h.len
  have h4 := h.fl
  have h5 := h.lt
  dsimp only at *
  unfold allQ
  refine List.mem_flatMap.2 ⟨r, List.mem_range.2 h1, List.mem_flatMap.2 ⟨s, by cases s <;> simp, List.mem_flatMap.2 ⟨g - 1, List.mem_range.2 (by omega), List.mem_map.2 ⟨f, List.mem_filter.2 ⟨?_, h5⟩, ?_⟩⟩⟩⟩
  · have := allFl_mem f h4
    have e : f.length = n - 1 := by omega
    rw [e] at this
    exact this
  · have e : g - 1 + 1 = g := by omega
    rw [e]
end Ly
namespace Ly
open Hi Tb
open Classical in
noncomputable def least (P : Nat → Prop) : Option Nat := if h : ∃ i, P i ∧ ∀ j, j < i → ¬ P j then some (Classical.choose h) else none
def sz (o : Option Nat) : Nat := o.getD 1000000000
theorem RtL.imp {f g : List Bool → Bool} {a b n k : Nat} {s : Bool} (h : ∀ w, f w = s → g w = s) {i : Nat} (r : RtL f a b n k s i) : RtL g a b n k s i := fun st ck ha hl => h _ (r st ck ha hl)
end Ly
namespace Ly
open Hi Tb
section
variable {r f : Nat}
theorem wnd_pre (m : Nat) (L : List Bool) {b n : Nat} (h : ∀ s, (wnd L s n).countP id ≤ b) (s : Nat) : (wnd (rep m false ++ L) s n).countP id ≤ b := by
  unfold wnd
  by_cases q : s ≤ m
  · rw [List.drop_append_of_le_length (by rw [rep_len]; exact q)]
    have e : (rep m false).drop s = rep (m - s) false := by unfold rep; rw [List.drop_replicate]
    rw [e, List.take_append, List.countP_append, rep_len]
    have c0 : ((rep (m - s) false).take n).countP id = 0 := by
      have := List.Sublist.countP_le (p := id) (List.take_sublist n (rep (m - s) false))
      rw [cnt_rep_f] at this
      omega
    have h0 := h 0
    unfold wnd at h0
    rw [List.drop_zero] at h0
    have : (L.take (n - (m - s))).countP id ≤ (L.take n).countP id := List.Sublist.countP_le (List.take_sublist_take_left (by omega))
    omega
  · rw [List.drop_append, List.drop_eq_nil_of_le (by rw [rep_len]; omega), List.nil_append, rep_len]
    exact h (s - m)
end
end Ly
namespace Sh
section
variable {A Q : Type} [DecidableEq A] (st : List A) (g : A → List (Q × A)) (good : A → Bool)
inductive Pth : List Q → A → Prop
  | nil {x : A} : x ∈ st → Pth [] x
  | snoc {w : List Q} {x : A} {q : Q} {y : A} : Pth w x → (q, y) ∈ g x → Pth (w ++ [q]) y
variable {st g good}
structure Inv (st : List A) (g : A → List (Q × A)) (good : A → Bool) (i : Nat) (ps : List (Pt A Q)) (kn : List A) : Prop where
  pth : ∀ p ∈ ps, p.1.length = i ∧ Pth st g p.1 p.2
  nd : kn.Nodup
  bad : ∀ x ∈ kn, good x = false
  cl : ∀ x ∈ kn, ∀ q ∈ g x, q.2 ∈ kn ∨ q.2 ∈ ps.map (·.2)
  d1 : ∀ w x, Pth st g w x → w.length < i → x ∈ kn
  d2 : ∀ w x, Pth st g w x → w.length = i → x ∈ kn ∨ x ∈ ps.map (·.2)
  rch : ∀ x ∈ kn, ∃ w, Pth st g w x
theorem inv_start : Inv st g good 0 (first Q st) [] where
  pth := fun p hp => by
    obtain ⟨x, hx, rfl⟩ := List.mem_map.1 hp
    exact ⟨rfl, .nil hx⟩
  nd := List.nodup_nil
  bad := fun x hx => nomatch hx
  cl := fun x hx => nomatch hx
  d1 := fun w x _ h => by omega
  d2 := fun w x h hl => by
    cases h with
    | nil hx => exact .inr (List.mem_map.2 ⟨([], x), List.mem_map.2 ⟨x, hx, rfl⟩, rfl⟩)
    | snoc h _ => simp at hl
  rch := fun x hx => nomatch hx
end
end Sh
namespace Ly
open Hi Tb Sh
structure Ky where
  run : Nat
  x : Sit
  e : Bool
  deriving DecidableEq
end Ly
namespace Ly
open Hi Tb Sh
theorem flat_le {A B : Type} (f : A → List B) (c : Nat) : ∀ l : List A, (∀ x ∈ l, (f x).length ≤ c) → (l.flatMap f).length ≤ l.length * c
  | [], _ => by simp
  | x :: l, h => by
    have h1 := h x List.mem_cons_self
    have ih := flat_le f c l fun y hy => h y (List.mem_cons_of_mem _ hy)
    rw [List.flatMap_cons, List.length_append, List.length_cons, Nat.add_mul, Nat.one_mul]
    omega
theorem keys_len {a b n k rows N : Nat} (h : Small a b n k) {l : List Ky} (hd : l.Nodup) (ho : ∀ q ∈ l, q.run ≤ N ∧ SitOk a b n k rows q.x) : l.length ≤ (N + 1) * (32 * rows * 2) := by
  have hsub : ∀ q ∈ l, q ∈ (List.range (N + 1)).flatMap fun r => (allQ a b n k rows).flatMap fun x => [(⟨r, x, false⟩ : Ky), ⟨r, x, true⟩] := by
    intro q hq
    obtain ⟨h1, h2⟩ := ho q hq
    refine List.mem_flatMap.2 ⟨q.run, List.mem_range.2 (by omega), List.mem_flatMap.2 ⟨q.x, allQ_mem h2, ?_⟩⟩
    obtain ⟨r, x, e⟩ := q
    cases e <;> simp
  refine Nat.le_trans (nodup_len l _ hd hsub) (Nat.le_trans (flat_le _ (32 * rows * 2) _ fun r _ => ?_) ?_)
  · refine Nat.le_trans (flat_le _ 2 _ fun x _ => Nat.le_refl _) ?_
    have := allQ_len h rows
    omega
  · rw [List.length_range]
    exact Nat.le_refl _
end Ly
namespace Ly
open Hi Tb Sh
abbrev Back := List (Sit × Bool × Sit)
def addB (acc : Back) (p : Sit × Bool × Sit) : Back := if p.1 ∈ acc.map (·.1) then acc else acc ++ [p]
theorem addB_mem {acc : Back} {p q : Sit × Bool × Sit} (h : q ∈ addB acc p) : q ∈ acc ∨ q = p := by
  unfold addB at h
  split at h
  · exact .inl h
  · rw [List.mem_append, List.mem_singleton] at h; exact h
end Ly
namespace By
def bit (b : Bool) : Int := if b then 1 else 0
def v8 (l : List Bool) : Int := l.foldl (fun n b => n * 2 + bit b) 0
def at8 (w : List Bool) (k : Nat) : List Bool := (List.range 8).map fun i => w.getD (8 * k + i) false
def nb (w : List Bool) : Nat := (w.length + 7) / 8
def nums (w : List Bool) : List Int := (List.range (nb w)).map fun k => v8 (at8 w k)
end By
namespace Hi
def paths (a b n k : Nat) : List Bool → List (List Bool × Sit)
  | [] => [([], begS n k false), ([], begS n k true)]
  | c :: cs => (paths a b n k cs).flatMap fun p => (nexts a b k p.2 c cs.isEmpty).map fun q => (p.1 ++ [q.1], q.2)
theorem paths_sound {a b n k : Nat} (hn : 1 ≤ n) (hk : 1 ≤ k) : ∀ (cs : List Bool) (s : List Bool) (y : Sit), (s, y) ∈ paths a b n k cs → s.length = cs.length ∧ alw a b n k s cs.reverse = true ∧ ∃ u, Tells n k u s cs.reverse y
  | [], s, y, h => by
    unfold paths at h
    simp only [List.mem_cons, List.not_mem_nil, or_false, Prod.mk.injEq] at h
    rcases h with ⟨rfl, rfl⟩ | ⟨rfl, rfl⟩
    · exact ⟨rfl, by rfl, false, tells_nil n k false⟩
    · exact ⟨rfl, by rfl, true, tells_nil n k true⟩
  | c :: cs, s, y, h => by
    unfold paths at h
    rw [List.mem_flatMap] at h
    obtain ⟨⟨s0, x⟩, hx, h⟩ := h
    rw [List.mem_map] at h
    obtain ⟨⟨s', y'⟩, hq, e⟩ := h
    have eS := (Prod.mk.inj e).1
    have eY := (Prod.mk.inj e).2
    dsimp only at eS eY hq
    subst eY eS
    obtain ⟨h1, h2⟩ := nexts_mem.1 hq
    obtain ⟨e1, e2, u, e3⟩ := paths_sound hn hk cs s0 x hx
    have hl : s0.length = cs.reverse.length := by rw [List.length_reverse]; exact e1
    have hf : firstOk u s0 s' := fun z => by
      subst z
      have hc : cs = [] := by cases cs with
        | nil => rfl
        | cons _ _ => simp at e1
      subst hc
      rw [h2 rfl]
      exact e3.st
    have ht := tells_step hn hk hl e3 hf h1
    have hst : lets a b (x.fl ++ [fcd s' c]) = true ∧ (s' == x.st || x.age == k) = true := by
      unfold step1 at h1
      split at h1
      · rename_i q
        rw [Bool.and_eq_true] at q
        exact q
      · cases h1
    refine ⟨by simp [e1], ?_, u, ?_⟩
    · rw [List.reverse_cons]
      exact (alw_snoc hn hl s' c).2 ⟨e2, (tells_let hn hl e3 s' c).1 hst.1, (tells_stay e3 s' hf).1 hst.2⟩
    · rw [List.reverse_cons]
      exact ht
theorem paths_complete {a b n k : Nat} (hn : 1 ≤ n) (hk : 1 ≤ k) (u : Bool) : ∀ (cs rs : List Bool), rs.length = cs.length → alw a b n k rs.reverse cs.reverse = true → (∀ y ∈ rs.getLast?, y = u) → ∃ x, (rs.reverse, x) ∈ paths a b n k cs ∧ Tells n k u rs.reverse cs.reverse x
  | [], [], _, _, _ => ⟨begS n k u, by unfold paths; cases u <;> simp, tells_nil n k u⟩
  | c :: cs, s' :: rs, hl, h, hu => by
    have hl0 : rs.length = cs.length := by simpa using hl
    have hl' : rs.reverse.length = cs.reverse.length := by rw [List.length_reverse, List.length_reverse]; exact hl0
    rw [List.reverse_cons, List.reverse_cons] at h ⊢
    obtain ⟨h1, h2, h3⟩ := (alw_snoc hn hl' s' c).1 h
    have hu' : ∀ y ∈ rs.getLast?, y = u := fun y hy => by
      cases rs with
      | nil => simp at hy
      | cons z rs => exact hu y (by rw [List.getLast?_cons_cons]; exact hy)
    obtain ⟨x, hx, ht⟩ := paths_complete hn hk u cs rs hl0 h1 hu'
    have hf : firstOk u rs.reverse s' := fun z => by
      have hr : rs = [] := by simpa using z
      subst hr
      exact hu s' (by simp)
    have e1 := (tells_let hn hl' ht s' c).2 h2
    have e2 := (tells_stay ht s' hf).2 h3
    have e : step1 a b k x 0 s' c = some ⟨0, s', if s' == x.st then x.age + (if x.age < k then 1 else 0) else 1, (x.fl ++ [fcd s' c]).tail⟩ := by
      unfold step1
      rw [e1, e2]
      rfl
    refine ⟨⟨0, s', if s' == x.st then x.age + (if x.age < k then 1 else 0) else 1, (x.fl ++ [fcd s' c]).tail⟩, ?_, tells_step hn hk hl' ht hf e⟩
    unfold paths
    rw [List.mem_flatMap]
    refine ⟨(rs.reverse, x), hx, ?_⟩
    rw [List.mem_map]
    refine ⟨(s', _), nexts_mem.2 ⟨e, fun hfst => ?_⟩, rfl⟩
    have hc : cs = [] := by simpa using hfst
    have hr : rs = [] := by rw [hc] at hl0; simpa using hl0
    subst hc hr
    rw [hf rfl, ht.st]
    rfl
  | [], _ :: _, h, _, _ => by simp at h
  | _ :: _, [], h, _, _ => by simp at h
theorem paths_logs {a b n k : Nat} (hn : 1 ≤ n) (hk : 1 ≤ k) (cs s : List Bool) : (∃ x, (s, x) ∈ paths a b n k cs) ↔ s ∈ logs a b n k cs := by
  rw [logs_mem hn]
  constructor
  · rintro ⟨x, hx⟩
    obtain ⟨h1, h2, _⟩ := paths_sound hn hk cs s x hx
    exact ⟨h1, h2⟩
  · rintro ⟨h1, h2⟩
    obtain ⟨u, hu⟩ : ∃ u, ∀ y ∈ s.reverse.getLast?, y = u := by
      cases z : s.reverse.getLast? with
      | none => exact ⟨false, fun y hy => by simp at hy⟩
      | some u => exact ⟨u, fun y hy => by simpa using hy.symm⟩
    obtain ⟨x, hx, _⟩ := paths_complete hn hk u cs s.reverse (by rw [List.length_reverse]; exact h1) (by rw [List.reverse_reverse]; exact h2) hu
    rw [List.reverse_reverse] at hx
    exact ⟨x, hx⟩
open List in
abbrev CL := List (Sit × Int)
def ws (g : Sit → Int) (l : CL) : Int := (l.map fun p => p.2 * g p.1).sum
theorem next_ok {a b n k : Nat} {x y : Sit} {c f s : Bool} (h : SitOk a b n k 1 x) (hq : (s, y) ∈ nexts a b k x c f) : SitOk a b n k 1 y := by
  obtain ⟨h1, _⟩ := nexts_mem.1 hq
  exact step1_ok h (by omega) h1
theorem paths_ok {a b n k : Nat} (hn : 1 ≤ n) (hk : 1 ≤ k) : ∀ cs : List Bool, ∀ p ∈ paths a b n k cs, SitOk a b n k 1 p.2
  | [], p, h => by
    unfold paths at h
    simp only [List.mem_cons, List.not_mem_nil, or_false] at h
    rcases h with rfl | rfl
    · exact begS_ok hn hk (by omega) false
    · exact begS_ok hn hk (by omega) true
  | c :: cs, p, h => by
    unfold paths at h
    rw [List.mem_flatMap] at h
    obtain ⟨p0, hp, h⟩ := h
    rw [List.mem_map] at h
    obtain ⟨q, hq, rfl⟩ := h
    exact next_ok (paths_ok hn hk cs p0 hp) hq
end Hi
namespace Hi
def lev (p q : Fw) : Prop := ltv q p = false
theorem lev_iff (p q : Fw) : lev p q ↔ p.1 < q.1 ∨ (p.1 = q.1 ∧ ¬ (q.2.map ud < p.2.map ud)) := by
  unfold lev ltv
  by_cases h : q.1 = p.1
  · rw [if_pos h, decide_eq_false_iff_not]
    constructor
    · intro z; exact .inr ⟨h.symm, z⟩
    · rintro (z | ⟨_, z⟩)
      · omega
      · exact z
  · rw [if_neg h, decide_eq_false_iff_not]
    constructor
    · intro z; exact .inl (by omega)
    · rintro (z | ⟨z, _⟩) <;> omega
theorem lev_refl (p : Fw) : lev p p := (lev_iff p p).2 (.inr ⟨rfl, List.lt_irrefl _⟩)
theorem lev_trans {p q r : Fw} (h1 : lev p q) (h2 : lev q r) : lev p r := by
  rw [lev_iff] at *
  rcases h1 with h1 | ⟨h1, h1'⟩ <;> rcases h2 with h2 | ⟨h2, h2'⟩
  · exact .inl (by omega)
  · exact .inl (by omega)
  · exact .inl (by omega)
  · exact .inr ⟨by omega, List.not_lt.2 (List.le_trans (List.not_lt.1 h1') (List.not_lt.1 h2'))⟩
theorem ud_inj : ∀ x y : List Bool, x.map ud = y.map ud → x = y
  | [], [], _ => rfl
  | a :: x, b :: y, h => by
    rw [List.map_cons, List.map_cons] at h
    have h1 := (List.cons.inj h).1
    have h2 := ud_inj x y (List.cons.inj h).2
    have : a = b := by revert h1; cases a <;> cases b <;> decide
    rw [this, h2]
  | [], b :: y, h => by simp at h
  | a :: x, [], h => by simp at h
theorem lev_anti {p q : Fw} (h1 : lev p q) (h2 : lev q p) : p = q := by
  rw [lev_iff] at *
  rcases h1 with h1 | ⟨h1, h1'⟩ <;> rcases h2 with h2 | ⟨h2, h2'⟩
  · omega
  · omega
  · omega
  · have := List.le_antisymm (List.not_lt.1 h1') (List.not_lt.1 h2')
    exact Prod.ext h1 (ud_inj _ _ this)
theorem lt_lev {p q : Fw} (h : ltv p q = true) : lev p q := by
  unfold ltv at h
  rw [lev_iff]
  split at h
  · rename_i e
    exact .inr ⟨e, fun z => List.lt_irrefl _ (List.lt_trans z (of_decide_eq_true h))⟩
  · exact .inl (of_decide_eq_true h)
theorem minv_l (p q : Fw) : lev (minv p q) p := by
  unfold minv
  split
  · exact lev_refl p
  · rename_i h
    unfold lev
    simpa using h
theorem minv_r (p q : Fw) : lev (minv p q) q := by
  unfold minv
  split
  · rename_i h; exact lt_lev h
  · exact lev_refl q
theorem minv_or (p q : Fw) : minv p q = p ∨ minv p q = q := by unfold minv; split <;> simp
theorem lt_snoc (c : Nat) : ∀ x y : List Nat, x.length = y.length → x ++ [c] < y ++ [c] → x < y
  | [], [], _, h => absurd h (List.lt_irrefl _)
  | a :: x, b :: y, hl, h => by
    rw [List.cons_append, List.cons_append, List.cons_lt_cons_iff] at h
    rw [List.cons_lt_cons_iff]
    rcases h with h | ⟨h1, h2⟩
    · exact .inl h
    · exact .inr ⟨h1, lt_snoc c x y (by simpa using hl) h2⟩
  | [], _ :: _, hl, _ => by simp at hl
  | _ :: _, [], hl, _ => by simp at hl
theorem lev_snoc {p q : Fw} (h : lev p q) (hl : p.2.length = q.2.length) (d : Nat) (b : Bool) : lev (p.1 + d, p.2 ++ [b]) (q.1 + d, q.2 ++ [b]) := by
  rw [lev_iff] at *
  rcases h with h | ⟨h, h'⟩
  · exact .inl (by show p.1 + d < q.1 + d; omega)
  · refine .inr ⟨by show p.1 + d = q.1 + d; omega, fun z => h' ?_⟩
    simp only [List.map_append, List.map_cons, List.map_nil] at z
    exact lt_snoc _ _ _ (by simp [hl]) z
def addB (l : BL) (r : Sit × Fw) : BL := if (l.any fun p => decide (p.1 = r.1)) = true then l.map fun p => if p.1 = r.1 then (p.1, minv r.2 p.2) else p else l ++ [r]
structure Rp4 (l : BL) (S : Sit × Fw → Prop) : Prop where
  nd4 : (l.map (·.1)).Nodup
  in4 : ∀ p ∈ l, S p
  le4 : ∀ z, S z → ∃ p ∈ l, p.1 = z.1 ∧ lev p.2 z.2
theorem addB_rep {l : BL} {S : Sit × Fw → Prop} (h : Rp4 l S) (r : Sit × Fw) : Rp4 (addB l r) (fun z => S z ∨ z = r) := by
  unfold addB
  split
  · rename_i ha
    refine ⟨?_, fun p hp => ?_, fun z hz => ?_⟩
    · have e : (l.map fun p => if p.1 = r.1 then (p.1, minv r.2 p.2) else p).map (·.1) = l.map (·.1) := by
        rw [List.map_map]
        refine List.map_congr_left fun p _ => ?_
        show (if p.1 = r.1 then (p.1, minv r.2 p.2) else p).1 = p.1
        split <;> rfl
      rw [e]; exact h.nd4
    · rw [List.mem_map] at hp
      obtain ⟨q, hq, rfl⟩ := hp
      split
      · rename_i e
        rcases minv_or r.2 q.2 with m | m
        · rw [m]; exact .inr (Prod.ext e rfl)
        · rw [m]; exact .inl (h.in4 q hq)
      · exact .inl (h.in4 q hq)
    · rcases hz with hz | rfl
      · obtain ⟨p, hp, e, q⟩ := h.le4 z hz
        refine ⟨_, List.mem_map.2 ⟨p, hp, rfl⟩, ?_, ?_⟩
        · split <;> exact e
        · split
          · exact lev_trans (minv_r _ _) q
          · exact q
      · obtain ⟨p, hp, e⟩ := List.any_eq_true.1 ha
        have e := of_decide_eq_true e
        refine ⟨_, List.mem_map.2 ⟨p, hp, rfl⟩, ?_, ?_⟩
        · rw [if_pos e]; exact e
        · rw [if_pos e]; exact minv_l _ _
  · rename_i hn
    refine ⟨?_, fun p hp => ?_, fun z hz => ?_⟩
    · have hnd := h.nd4
      rw [List.map_append, List.map_singleton]
      unfold List.Nodup at hnd ⊢
      rw [List.pairwise_append]
      refine ⟨hnd, by simp, fun x hx z hz e => ?_⟩
      rw [List.mem_singleton] at hz
      subst hz
      subst e
      apply hn
      rw [List.mem_map] at hx
      obtain ⟨p, hp, e⟩ := hx
      exact List.any_eq_true.2 ⟨p, hp, decide_eq_true e⟩
    · rw [List.mem_append, List.mem_singleton] at hp
      rcases hp with hp | hp
      · exact .inl (h.in4 p hp)
      · exact .inr hp
    · rcases hz with hz | rfl
      · obtain ⟨p, hp, q⟩ := h.le4 z hz
        exact ⟨p, by simp [hp], q⟩
      · exact ⟨z, by simp, rfl, lev_refl _⟩
theorem Rp4.imp {l : BL} {S T : Sit × Fw → Prop} (h : Rp4 l S) (e : ∀ z, S z ↔ T z) : Rp4 l T := ⟨h.nd4, fun p hp => (e p).1 (h.in4 p hp), fun z hz => h.le4 z ((e z).2 hz)⟩
theorem foldB_rep : ∀ (L : BL) (l : BL) (S : Sit × Fw → Prop), Rp4 l S → Rp4 (L.foldl addB l) (fun z => S z ∨ z ∈ L)
  | [], l, S, h => h.imp fun z => by simp
  | r :: L, l, S, h => (foldB_rep L _ _ (addB_rep h r)).imp fun z => by
    rw [List.mem_cons, or_assoc]
def stepB (a b k : Nat) (l : BL) (c f : Bool) : BL := l.foldl (fun acc p => (ext a b k p c f).foldl addB acc) []
def bests (a b n k : Nat) : List Bool → BL
  | [] => [(begS n k false, (0, [])), (begS n k true, (0, []))]
  | c :: cs => stepB a b k (bests a b n k cs) c cs.isEmpty
theorem stepB_rep (a b k : Nat) (c f : Bool) (l : BL) : Rp4 (stepB a b k l c f) (fun z => ∃ p ∈ l, z ∈ ext a b k p c f) := by
  have H : ∀ (l acc : BL) (S : Sit × Fw → Prop), Rp4 acc S → Rp4 (l.foldl (fun acc p => (ext a b k p c f).foldl addB acc) acc) (fun z => S z ∨ ∃ p ∈ l, z ∈ ext a b k p c f) := by
    intro l
    induction l with
    | nil => intro acc S h; exact h.imp fun z => by simp
    | cons p l ih =>
      intro acc S h
      refine (ih _ _ (foldB_rep (ext a b k p c f) acc S h)).imp fun z => ?_
      simp only [List.mem_cons, exists_eq_or_imp, or_assoc]
  exact (H l [] (fun _ => False) ⟨by simp, fun p h => by simp at h, fun z h => h.elim⟩).imp fun z => by simp
theorem er_snoc (s w : List Bool) (b c : Bool) (h : s.length = w.length) : er (s ++ [b]) (w ++ [c]) = er s w + dif b c := by
  unfold er
  rw [List.zip_append h, List.map_append, List.sum_append]
  simp
theorem bests_rep {a b n k : Nat} (hn : 1 ≤ n) (hk : 1 ≤ k) : ∀ cs : List Bool, Rp4 (bests a b n k cs) (fun z => ∃ s, (s, z.1) ∈ paths a b n k cs ∧ z.2 = (er s cs.reverse, s))
  | [] => by
    refine ⟨?_, fun p hp => ?_, fun z hz => ?_⟩
    · unfold bests
      simp
      intro z
      have := congrArg Sit.st z
      cases this
    · unfold bests at hp
      unfold paths
      simp only [List.mem_cons, List.not_mem_nil, or_false] at hp
      rcases hp with rfl | rfl
      · exact ⟨[], by simp, rfl⟩
      · exact ⟨[], by simp, rfl⟩
    · obtain ⟨s, hs, e⟩ := hz
      unfold paths at hs
      unfold bests
      simp only [List.mem_cons, List.not_mem_nil, or_false, Prod.mk.injEq] at hs
      rcases hs with ⟨rfl, h⟩ | ⟨rfl, h⟩
      · exact ⟨(begS n k false, (0, [])), by simp, h.symm, by rw [e]; exact lev_refl _⟩
      · exact ⟨(begS n k true, (0, [])), by simp, h.symm, by rw [e]; exact lev_refl _⟩
  | c :: cs => by
    have ih := bests_rep (a := a) (b := b) hn hk cs
    have hs := stepB_rep a b k c cs.isEmpty (bests a b n k cs)
    refine ⟨hs.nd4, fun p hp => ?_, fun z hz => ?_⟩
    · obtain ⟨p0, hp0, hx⟩ := hs.in4 p hp
      unfold ext at hx
      rw [List.mem_map] at hx
      obtain ⟨q, hq, rfl⟩ := hx
      obtain ⟨s, h1, h2⟩ := ih.in4 p0 hp0
      have hl := (paths_sound hn hk cs s p0.1 h1).1
      refine ⟨s ++ [q.1], ?_, ?_⟩
      · unfold paths
        rw [List.mem_flatMap]
        exact ⟨(s, p0.1), h1, List.mem_map.2 ⟨q, hq, rfl⟩⟩
      · rw [h2, List.reverse_cons, er_snoc _ _ _ _ (by rw [List.length_reverse]; exact hl)]
    · obtain ⟨s', h1, h2⟩ := hz
      unfold paths at h1
      rw [List.mem_flatMap] at h1
      obtain ⟨⟨s, x⟩, hx, h1⟩ := h1
      rw [List.mem_map] at h1
      obtain ⟨q, hq, e⟩ := h1
      have eS := (Prod.mk.inj e).1
      have eY := (Prod.mk.inj e).2
      dsimp only at eS eY hq
      obtain ⟨p0, hp0, e0, hle⟩ := ih.le4 (x, (er s cs.reverse, s)) ⟨s, hx, rfl⟩
      obtain ⟨s0, g1, g2⟩ := ih.in4 p0 hp0
      have hl := (paths_sound hn hk cs s x hx).1
      have hl0 := (paths_sound hn hk cs s0 p0.1 g1).1
      have e0 : p0.1 = x := e0
      obtain ⟨p, hp, e1, hle1⟩ := hs.le4 (q.2, (p0.2.1 + dif q.1 c, p0.2.2 ++ [q.1])) ⟨p0, hp0, by unfold ext; rw [e0]; exact List.mem_map.2 ⟨q, hq, rfl⟩⟩
      refine ⟨p, hp, e1.trans eY, lev_trans hle1 ?_⟩
      rw [h2, ← eS, List.reverse_cons, er_snoc _ _ _ _ (by rw [List.length_reverse]; exact hl)]
      have hle : lev p0.2 (er s cs.reverse, s) := hle
      exact lev_snoc hle (by rw [g2]; show s0.length = s.length; omega) _ _
def IsLeast (P : Fw → Prop) (o : Option Fw) : Prop := (o = none ∧ ∀ v, ¬ P v) ∨ ∃ v, o = some v ∧ P v ∧ ∀ u, P u → lev v u
theorem lst_from : ∀ (l : List Fw) (v : Fw), ∃ w, l.foldl lstep (some v) = some w ∧ (w = v ∨ w ∈ l) ∧ lev w v ∧ ∀ u ∈ l, lev w u
  | [], v => ⟨v, rfl, .inl rfl, lev_refl v, fun u h => by simp at h⟩
  | x :: l, v => by
    obtain ⟨w, h1, h2, h3, h4⟩ := lst_from l (minv x v)
    refine ⟨w, h1, ?_, lev_trans h3 (minv_r _ _), fun u hu => ?_⟩
    · rcases h2 with h2 | h2
      · rcases minv_or x v with m | m
        · exact .inr (by rw [h2, m]; simp)
        · exact .inl (h2.trans m)
      · exact .inr (by simp [h2])
    · rcases List.mem_cons.1 hu with rfl | hu
      · exact lev_trans h3 (minv_l _ _)
      · exact h4 u hu
theorem lst_least (l : List Fw) : IsLeast (fun v => v ∈ l) (lst l) := by
  cases l with
  | nil => exact .inl ⟨rfl, fun v h => by simp at h⟩
  | cons x l =>
    obtain ⟨w, h1, h2, h3, h4⟩ := lst_from l x
    refine .inr ⟨w, h1, ?_, fun u hu => ?_⟩
    · rcases h2 with rfl | h2
      · simp
      · simp [h2]
    · rcases List.mem_cons.1 hu with rfl | hu
      · exact h3
      · exact h4 u hu
theorem least_uniq {P : Fw → Prop} {o o' : Option Fw} (h : IsLeast P o) (h' : IsLeast P o') : o = o' := by
  rcases h with ⟨rfl, h⟩ | ⟨v, rfl, h1, h2⟩ <;> rcases h' with ⟨rfl, h'⟩ | ⟨u, rfl, h1', h2'⟩
  · rfl
  · exact absurd h1' (h _)
  · exact absurd h1 (h' _)
  · rw [lev_anti (h2 u h1') (h2' v h1)]
theorem bests_least {a b n k : Nat} (hn : 1 ≤ n) (hk : 1 ≤ k) (cs : List Bool) : lst ((bests a b n k cs).map (·.2)) = lst ((logs a b n k cs).map fun s => (er s cs.reverse, s)) := by
  have h := bests_rep (a := a) (b := b) hn hk cs
  have h1 := lst_least ((bests a b n k cs).map (·.2))
  have h2 := lst_least ((logs a b n k cs).map fun s => (er s cs.reverse, s))
  refine least_uniq (P := fun v => ∃ s ∈ logs a b n k cs, v = (er s cs.reverse, s)) ?_ ?_
  · rcases h1 with ⟨e, h1⟩ | ⟨v, e, h1, h1'⟩
    · refine .inl ⟨e, fun v hv => ?_⟩
      obtain ⟨s, hs, rfl⟩ := hv
      obtain ⟨x, hx⟩ := (paths_logs hn hk cs s).2 hs
      obtain ⟨p, hp, _⟩ := h.le4 (x, (er s cs.reverse, s)) ⟨s, hx, rfl⟩
      exact h1 _ (List.mem_map.2 ⟨p, hp, rfl⟩)
    · refine .inr ⟨v, e, ?_, fun u hu => ?_⟩
      · rw [List.mem_map] at h1
        obtain ⟨p, hp, rfl⟩ := h1
        obtain ⟨s, h3, h4⟩ := h.in4 p hp
        exact ⟨s, (paths_logs hn hk cs s).1 ⟨_, h3⟩, h4⟩
      · obtain ⟨s, hs, rfl⟩ := hu
        obtain ⟨x, hx⟩ := (paths_logs hn hk cs s).2 hs
        obtain ⟨p, hp, _, hle⟩ := h.le4 (x, (er s cs.reverse, s)) ⟨s, hx, rfl⟩
        exact lev_trans (h1' _ (List.mem_map.2 ⟨p, hp, rfl⟩)) hle
  · rcases h2 with ⟨e, h2⟩ | ⟨v, e, h2, h2'⟩
    · refine .inl ⟨e, fun v hv => ?_⟩
      obtain ⟨s, hs, rfl⟩ := hv
      exact h2 _ (List.mem_map.2 ⟨s, hs, rfl⟩)
    · refine .inr ⟨v, e, ?_, fun u hu => ?_⟩
      · rw [List.mem_map] at h2
        obtain ⟨s, hs, rfl⟩ := h2
        exact ⟨s, hs, rfl⟩
      · obtain ⟨s, hs, rfl⟩ := hu
        exact h2' _ (List.mem_map.2 ⟨s, hs, rfl⟩)
theorem bests_ok {a b n k : Nat} (hn : 1 ≤ n) (hk : 1 ≤ k) (cs : List Bool) : ∀ p ∈ bests a b n k cs, SitOk a b n k 1 p.1 := fun p hp => by
  obtain ⟨s, h, _⟩ := (bests_rep (a := a) (b := b) hn hk cs).in4 p hp
  exact paths_ok hn hk cs (s, p.1) h
theorem bests_val {a b n k : Nat} (hn : 1 ≤ n) (hk : 1 ≤ k) (cs : List Bool) : ∀ p ∈ bests a b n k cs, p.2.2.length = cs.length := fun p hp => by
  obtain ⟨s, h, e⟩ := (bests_rep (a := a) (b := b) hn hk cs).in4 p hp
  rw [e]
  exact (paths_sound hn hk cs s p.1 h).1
theorem addB_mem {l : BL} {r : Sit × Fw} {p : Sit × Fw} (h : p ∈ addB l r) : (p.1 ∈ l.map (·.1) ∨ p.1 = r.1) ∧ (p.2 ∈ l.map (·.2) ∨ p.2 = r.2) := by
  unfold addB at h
  split at h
  · rw [List.mem_map] at h
    obtain ⟨q, hq, rfl⟩ := h
    split
    · refine ⟨.inl (List.mem_map.2 ⟨q, hq, rfl⟩), ?_⟩
      rcases minv_or r.2 q.2 with m | m
      · exact .inr m
      · exact .inl (by rw [m]; exact List.mem_map.2 ⟨q, hq, rfl⟩)
    · exact ⟨.inl (List.mem_map.2 ⟨q, hq, rfl⟩), .inl (List.mem_map.2 ⟨q, hq, rfl⟩)⟩
  · rw [List.mem_append, List.mem_singleton] at h
    rcases h with h | rfl
    · exact ⟨.inl (List.mem_map.2 ⟨p, h, rfl⟩), .inl (List.mem_map.2 ⟨p, h, rfl⟩)⟩
    · exact ⟨.inr rfl, .inr rfl⟩
theorem addB_keys (l : BL) (r : Sit × Fw) (h : (l.map (·.1)).Nodup) : ((addB l r).map (·.1)).Nodup := (addB_rep (S := fun z => z ∈ l) ⟨h, fun p hp => hp, fun z hz => ⟨z, hz, rfl, lev_refl _⟩⟩ r).nd4
theorem er_le (s w : List Bool) : er s w ≤ s.length := by
  unfold er
  have : ∀ l : List (Bool × Bool), (l.map fun p => dif p.1 p.2).sum ≤ l.length := by
    intro l
    induction l with
    | nil => exact Nat.le_refl 0
    | cons p l ih =>
      have : dif p.1 p.2 ≤ 1 := by unfold dif; split <;> omega
      rw [List.map_cons, List.sum_cons, List.length_cons]
      omega
  have h1 := this (s.zip w)
  rw [List.length_zip] at h1
  omega
theorem er_count : ∀ (s w : List Bool), s.length = w.length → ((List.range w.length).filter fun i => !(s.getD i false == w.getD i false)).length = er s w
  | [], [], _ => rfl
  | b :: s, c :: w, h => by
    have ih := er_count s w (by simpa using h)
    unfold er at ih ⊢
    rw [List.length_cons, List.range_succ_eq_map, List.filter_cons, List.filter_map, List.zip_cons_cons, List.map_cons, List.sum_cons, ← ih]
    have e : ((fun i => !((b :: s).getD i false == (c :: w).getD i false)) ∘ Nat.succ) = fun i => !(s.getD i false == w.getD i false) := by
      funext i
      simp
    rw [e]
    unfold dif
    cases b <;> cases c <;> simp <;> omega
  | [], _ :: _, h => by simp at h
  | _ :: _, [], h => by simp at h
end Hi
namespace Sr
open PySem hiding start
open L2
theorem whl_iter {c : M Bool} {b : M Fl} {A : Type} (f : A → Option A) (R : A → En → Prop) (hno : ∀ a e, R a e → f a = none → c e = .ok false e) (hgo : ∀ a a' e, R a e → f a = some a' → c e = .ok true e ∧ ∃ e', b e = .ok .nx e' ∧ R a' e') :
    ∀ (n m : Nat) (a : A) (e : En), n < m → R a e → f (Tb.iter f n a) = none → ∃ e', whl c b m e = .ok .nx e' ∧ R (Tb.iter f n a) e'
  | n, 0, a, e, h, _, _ => by omega
  | 0, m + 1, a, e, _, r, hd => by
    unfold Tb.iter at hd ⊢
    refine ⟨e, ?_, r⟩
    unfold whl bnd
    rw [hno a e r hd]
    rfl
  | n + 1, m + 1, a, e, h, r, hd => by
    unfold Tb.iter at hd ⊢
    cases q : f a with
    | none =>
      simp only [q] at hd ⊢
      refine ⟨e, ?_, r⟩
      unfold whl bnd
      rw [hno a e r q]
      rfl
    | some a' =>
      simp only [q] at hd ⊢
      obtain ⟨h1, e1, h2, r1⟩ := hgo a a' e r q
      obtain ⟨e2, h3, r2⟩ := whl_iter f R hno hgo n m a' e1 (by omega) r1 hd
      refine ⟨e2, ?_, r2⟩
      unfold whl bnd
      rw [h1]
      show lp b (whl c b m) e = _
      rw [lp_nx h2]; exact h3
theorem lcL_map {B : Type} {w : D → M Unit} {t : M Bool} {el : M D} {vs : List Nat} (g h : B → D) (E : En) : ∀ (xs : List B) (acc : List D), acc.length + xs.length ≤ 16777216 →
    (∀ x ∈ xs, ∃ e1 e2 e3, w (g x) E = .ok () e1 ∧ t e1 = .ok true e2 ∧ el e2 = .ok (h x) e3 ∧ wipE vs e3 = E) → lcL w t el vs (xs.map g) acc E = .ok (acc ++ xs.map h) E
  | [], acc, _, _ => by simp [lcL, Sr.ret]
  | x :: xs, acc, hl, hs => by
    obtain ⟨e1, e2, e3, h1, h2, h3, h4⟩ := hs x (by simp)
    rw [List.length_cons] at hl
    have ih := lcL_map g h E xs (acc ++ [h x]) (by simp; omega) fun y hy => hs y (by simp [hy])
    have hz : acc.length < sizeLine := by
      have e : sizeLine = 16777216 := by decide
      omega
    rw [List.map_cons, lcL, bnd_ok h1, bnd_ok h2, if_pos rfl, bnd_ok h3, if_pos hz]
    show lcL w t el vs (List.map g xs) (acc ++ [h x]) (wipE vs e3) = _
    rw [h4, ih]
    simp
theorem mLc_map {B : Type} {m : M (List D)} {w : D → M Unit} {t : M Bool} {el : M D} {vs : List Nat} {e e1 : En} {xs : List B} (g h : B → D) (hm : m e = .ok (xs.map g) e1) (hl : xs.length ≤ 16777216)
    (hs : ∀ x ∈ xs, ∃ a b c, w (g x) (wipE vs e1) = .ok () a ∧ t a = .ok true b ∧ el b = .ok (h x) c ∧ wipE vs c = wipE vs e1) : mLc vs m w t el e = .ok (.lst (xs.map h)) (rst vs e1 (wipE vs e1)) := by
  unfold mLc
  rw [bnd_ok hm]
  have := lcL_map g h (wipE vs e1) xs [] (by simpa using hl) hs
  simp only [this, List.nil_append]
section
variable {A κ : Type} [BEq A] [LawfulBEq A] [DecidableEq A] [DecidableEq κ]
def dixn (enc : A → κ) (n : Nat) (l : List A) : List (κ × D) := (l.zipIdx n).map fun q => (enc q.1, .int (q.2 : Nat))
abbrev dix (enc : A → κ) (l : List A) : List (κ × D) := dixn enc 0 l
def kn (enc : A → κ) (l : List A) : List (κ × D) := l.map fun x => (enc x, .bl true)
variable {enc : A → κ} (inj : ∀ x y, enc x = enc y → x = y)
include inj
theorem dixn_val (x : A) : ∀ (l : List A) (n : Nat), valD (dixn enc n l) (enc x) = if x ∈ l then some (.int ((n + l.idxOf x : Nat) : Int)) else none
  | [], n => by simp [dixn, valD]
  | y :: l, n => by
    have ih := dixn_val x l (n + 1)
    unfold dixn valD at ih ⊢
    rw [List.zipIdx_cons, List.map_cons, List.find?_cons]
    by_cases h : y = x
    · subst h
      simp
    · have h2 : ¬ enc y = enc x := fun z => h (inj _ _ z)
      have h3 : ¬ x = y := fun z => h z.symm
      simp only [h2, decide_false, ih, List.mem_cons, h3, false_or]
      split
      · have hi : (y :: l).idxOf x = l.idxOf x + 1 := by rw [List.idxOf_cons, show (y == x) = false from beq_eq_false_iff_ne.mpr h]; rfl
        rw [hi]
        congr 3
        omega
      · rfl
theorem dix_val {x : A} {l : List A} : valD (dix enc l) (enc x) = if x ∈ l then some (.int ((l.idxOf x : Nat) : Int)) else none := by
  have := dixn_val inj x l 0
  simpa using this
theorem dixn_any (x : A) : ∀ (l : List A) (n : Nat), ((dixn enc n l).any fun kv => decide (kv.1 = enc x)) = decide (x ∈ l)
  | [], n => by simp [dixn]
  | y :: l, n => by
    have ih := dixn_any x l (n + 1)
    unfold dixn at ih ⊢
    rw [List.zipIdx_cons, List.map_cons, List.any_cons, ih]
    by_cases h : y = x
    · subst h; simp
    · have h2 : ¬ enc y = enc x := fun z => h (inj _ _ z)
      have h3 : ¬ x = y := fun z => h z.symm
      simp [h2, h3]
theorem dix_put {x : A} {l : List A} (h : x ∉ l) : putG (dix enc l) (enc x) (.int (l.length : Nat)) = dix enc (l ++ [x]) := by
  unfold putG
  rw [dixn_any inj x l 0]
  simp only [h, decide_false, Bool.false_eq_true, if_false]
  unfold dix dixn
  rw [List.zipIdx_append]
  simp
theorem kn_val (x : A) : ∀ (l : List A), valD (kn enc l) (enc x) = if x ∈ l then some (.bl true) else none
  | [] => by simp [kn, valD]
  | y :: l => by
    have ih := kn_val x l
    unfold kn valD at ih ⊢
    rw [List.map_cons, List.find?_cons]
    by_cases h : y = x
    · subst h; simp
    · have h2 : ¬ enc y = enc x := fun z => h (inj _ _ z)
      have h3 : ¬ x = y := fun z => h z.symm
      simp only [h2, decide_false, ih, List.mem_cons, h3, false_or]
theorem kn_put {x : A} {l : List A} (h : x ∉ l) : putG (kn enc l) (enc x) (.bl true) = kn enc (l ++ [x]) := by
  have ha : ((kn enc l).any fun kv => decide (kv.1 = enc x)) = false := by
    rw [List.any_eq_false]
    intro kv hkv
    unfold kn at hkv
    rw [List.mem_map] at hkv
    obtain ⟨y, hy, rfl⟩ := hkv
    simp only [decide_eq_true_eq]
    intro z
    exact h (inj _ _ z ▸ hy)
  unfold putG
  rw [ha]
  simp [kn]
omit inj in
theorem dix_len {l : List A} : (dix enc l).length = l.length := by unfold dix dixn; simp
omit inj in
theorem kn_len {l : List A} : (kn enc l).length = l.length := by unfold kn; simp
end
abbrev encS (b : Bool) : D := .str (if b then "U" else "D")
def encR (r : Tb.Row) : D := .tup [encS r.1, .int (r.2.1 : Nat), .int (r.2.2 : Nat)]
def encT (t : Tb.Tab) : D := .tup (t.map encR)
def nats (l : List Nat) : List D := l.map fun x => .int (x : Nat)
def ik (x : Nat) : Key := .inl (x : Int)
theorem ik_inj : ∀ x y, ik x = ik y → x = y := fun x y h => by
  unfold ik at h
  have := Sum.inl.inj h
  omega
def ik3 (k : Tb.K3) : List Key := [ik k.1, ik k.2.1, ik k.2.2]
theorem ik3_inj : ∀ x y, ik3 x = ik3 y → x = y := fun x y h => by
  unfold ik3 at h
  simp only [List.cons.injEq, and_true] at h
  obtain ⟨h1, h2, h3⟩ := h
  have := ik_inj _ _ h1
  have := ik_inj _ _ h2
  have := ik_inj _ _ h3
  obtain ⟨a, b, c⟩ := x
  obtain ⟨a', b', c'⟩ := y
  simp_all
theorem atI_nat {A : Type} {l : List A} {i : Nat} (h : i < l.length) : L2.atI l (i : Int) = some l[i] := by
  simp [L2.atI, L2.ixN, h]
theorem nats_len (l : List Nat) : (nats l).length = l.length := by unfold nats; simp
theorem ix_nats {l : List Nat} {i : Nat} (h : i < l.length) : gIx (.lst (nats l)) (.int (i : Nat)) = some (.int (l.getD i 0 : Nat)) := by
  simp only [gIx]
  rw [atI_nat (by rw [nats_len]; exact h)]
  simp [nats, List.getD_eq_getElem?_getD, h]
theorem ix_tab {t : Tb.Tab} {i : Nat} (h : i < t.length) : gIx (encT t) (.int (i : Nat)) = some (encR (Tb.row t i)) := by
  simp only [encT, gIx]
  rw [atI_nat (by simp; exact h), Tb.row_eq h]
  simp
theorem nats_ints (l : List Nat) : dInts (nats l) = some (l.map fun (x : Nat) => (x : Int)) := by
  induction l with
  | nil => rfl
  | cons x l ih =>
    show (dInts (nats l)).map _ = _
    rw [ih]; rfl
theorem firstMet_fold (ns : List Int) : ∀ n, n ≤ ns.length → PyProof.Rows.firstMet (fun i => ns.getD i 0) n = (ns.take n).foldl PyProof.Rows.step_dedup []
  | 0, _ => by simp [PyProof.Rows.firstMet]
  | n + 1, h => by
    rw [PyProof.Rows.firstMet_succ, firstMet_fold ns n (by omega)]
    have e : ns.take (n + 1) = ns.take n ++ [ns[n]'(by omega)] := by rw [List.take_succ_eq_append_getElem]
    rw [e, List.foldl_append]
    simp [List.getD_eq_getElem?_getD, show n < ns.length by omega]
theorem distinct_nats (l : List Nat) : distinct (l.map fun (x : Nat) => (x : Int)) = Tb.dist l := by
  unfold distinct Tb.dist Tb.ded
  rw [firstMet_fold _ _ (Nat.le_refl _), List.take_length]
  have H : ∀ (l acc : List Nat), (l.map fun (x : Nat) => (x : Int)).foldl PyProof.Rows.step_dedup (acc.map fun (x : Nat) => (x : Int)) = (l.foldl Tb.addN acc).map fun (x : Nat) => (x : Int) := by
    intro l
    induction l with
    | nil => intro acc; rfl
    | cons x l ih =>
      intro acc
      rw [List.map_cons, List.foldl_cons, List.foldl_cons, ← ih]
      congr 1
      unfold PyProof.Rows.step_dedup Tb.addN
      have : ((acc.map fun (x : Nat) => (x : Int)).any (· == (x : Int))) = decide (x ∈ acc) := by
        rw [Bool.eq_iff_iff]
        simp only [List.any_eq_true, List.mem_map, beq_iff_eq, decide_eq_true_eq]
        constructor
        · rintro ⟨z, ⟨y, hy, rfl⟩, e⟩
          have : y = x := by omega
          exact this ▸ hy
        · intro hx
          exact ⟨x, ⟨x, hx, rfl⟩, rfl⟩
      rw [this]
      by_cases h : x ∈ acc <;> simp [h]
  have := H l []
  rw [List.map_nil] at this
  rw [this, List.length_map]
theorem lenSet_nats {l : List Nat} (h : l.length ≤ 4000) : gLenSet (.lst (nats l)) = some (.int (Tb.dist l : Nat)) := by
  simp only [gLenSet, nats_ints]
  rw [if_pos (by simpa using h), distinct_nats]
theorem enumL_tab (t : Tb.Tab) : enumL (t.map encR) = t.zipIdx.map fun q => .tup [.int (q.2 : Nat), encR q.1] := by
  unfold enumL
  rw [List.zipIdx_map, List.map_map]; rfl
def chk (w : List Bool) : Str := ⟨(w.map fun b => if b then 43 else 45).toArray⟩
def sts (w : List Bool) : Str := ⟨(w.map fun b => if b then 85 else 68).toArray⟩
theorem chk_len (w : List Bool) : (chk w).length = w.length := by unfold chk Str.length; simp
theorem sts_len (w : List Bool) : (sts w).length = w.length := by unfold sts Str.length; simp
theorem chk_app (u w : List Bool) : chk u ++ chk w = chk (u ++ w) := by
  show Str.append _ _ = _
  unfold Str.append chk
  simp
end Sr
namespace Lw
open PySem hiding start
open PySem.Spec L2 Sr
open PyProof.Rows hiding St
def isB_int : D → Option Bool := gIsi tInt fun c => isl_int.lookup c
def isB_bool : D → Option Bool := gIsi (tOnly .bool) fun c => isl_bool.lookup c
def isC_Limits : D → Option Bool := gIsi (fun _ => some false) fun c => isl_Limits.lookup c
def isB_str : D → Option Bool := gIsi (tOnly .str) fun c => isl_str.lookup c
def isB_tuple : D → Option Bool := gIsi (tOnly .tuple) fun c => isl_tuple.lookup c
def b__law_pen : M Fl :=
  (sRetO (mLst (mCons (mCal gMax2 (mCons (ret (.int 0)) (mCons (m2 gSub (mN 0) (m2 gPow (ret (.int 10)) (ret (.int 18)))) mNil))) (mCons (m2 gAdd (m2 gMod (mCal gInt1 (mCons (mN 0) mNil)) (ret (.int 2147483629))) (ret (.int 1))) (mCons (ret (.int 0)) mNil)))))
def f__law_pen : Fnc := mkF0 1 true b__law_pen
def b__law_cell_at : M Fl :=
  (sq (sIf (mT (m2 gLt (mN 1) (m1 gLen (mN 0)))) (sRet (m2 gIx (mN 0) (mN 1))) skp)
    (sRet (ret (.int 0))))
def f__law_cell_at : Fnc := mkF0 2 false b__law_cell_at
def b__law_draw : M Fl :=
  (sq (sIf (mT (m2 gGt (m2b gIx (mNB 0) (ret (.int 0))) (ret (.int 0)))) (sq (sSet 2 (m2 gMod (mCal gInt1 (mCons (m2b gIx (mNB 0) (ret (.int 0))) mNil)) (mN 1)))
    (sq (sPutI 0 (ret (.int 0)) (m2 gDiv (m2b gIx (mNB 0) (ret (.int 0))) (mN 1)))
    (sRet (mN 2)))) skp)
    (sq (sPutI 0 (ret (.int 2)) (m2 gAdd (m2b gIx (mNB 0) (ret (.int 2))) (ret (.int 1))))
    (sq (sPutI 0 (ret (.int 1)) (m2 gMod (mCal gInt1 (mCons (m2 gAdd (m2 gAdd (m2 gMul (m2b gIx (mNB 0) (ret (.int 1))) (ret (.int 48271))) (m2 gMul (ret (.int 1009)) (m2b gIx (mNB 0) (ret (.int 2))))) (ret (.int 7))) mNil)) (ret (.int 2147483647))))
    (sq (sSet 3 (m2 gMod (mCal gInt1 (mCons (m2 gAdd (m2 gAdd (m2 gMul (m2b gIx (mNB 0) (ret (.int 1))) (m2b gIx (mNB 0) (ret (.int 1)))) (m2 gMul (ret (.int 69621)) (m2b gIx (mNB 0) (ret (.int 1))))) (ret (.int 11))) mNil)) (ret (.int 2147483629))))
    (sq (sSet 3 (m2 gMod (mCal gInt1 (mCons (m2 gAdd (m2 gMul (mN 3) (mN 3)) (m2 gMul (ret (.int 40014)) (mN 3))) mNil)) (ret (.int 2147483587))))
    (sRet (m2 gMod (mCal gInt1 (mCons (m2 gDiv (mN 3) (ret (.int 16))) mNil)) (mN 1))))))))
def f__law_draw : Fnc := mkF1 4 false b__law_draw
def b__law_pick : M Fl :=
  (sRet (m2 gIx (mN 1) (mC1 f__law_draw 0 [] (mCons (m1 gLen (mN 1)) mNil))))
def f__law_pick : Fnc := mkF1 2 false b__law_pick
def b__law_numbers : M Fl :=
  (sq (sSet 2 (m2 gAdd (ret (.int 1)) (mC1 f__law_draw 0 [] (mCons (mN 1) mNil))))
    (sq (sSet 3 (mCal gMin2 (mCons (ret (.int 6)) (mCons (m2 gAdd (mN 2) (ret (.int 2))) mNil))))
    (sRet (mTup (mCons (mC1 f__law_draw 0 [] (mCons (mN 3) mNil)) (mCons (mC1 f__law_draw 0 [] (mCons (mN 3) mNil)) (mCons (mN 2) (mCons (m2 gAdd (ret (.int 1)) (mC1 f__law_draw 0 [] (mCons (ret (.int 4)) mNil))) mNil))))))))
def f__law_numbers : Fnc := mkF1 4 false b__law_numbers
def b__law_small : M Fl :=
  (sq (sIf (mT (m2 gEq (mC1 f__law_draw 0 [] (mCons (ret (.int 3)) mNil)) (ret (.int 0)))) (sq (sPar (mCons (m2 gAdd (ret (.int 1)) (mC1 f__law_draw 0 [] (mCons (ret (.int 5)) mNil))) (mCons (mC1 f__law_draw 0 [] (mCons (ret (.int 4)) mNil)) (mCons (mC1 f__law_draw 0 [] (mCons (ret (.int 2)) mNil)) mNil))) (gsC (gN 1) (gsC (gN 2) (gsC (gN 3) gsN))))
    (sRet (mTup (mCons (m2 gMul (mN 2) (mN 3)) (mCons (m2 gMul (mN 2) (m2 gSub (ret (.int 1)) (mN 3))) (mCons (mN 1) (mCons (ret (.int 1)) mNil))))))) skp)
    (sq (sSet 1 (m2 gAdd (ret (.int 1)) (mC1 f__law_draw 0 [] (mCons (ret (.int 3)) mNil))))
    (sRet (mTup (mCons (mC1 f__law_draw 0 [] (mCons (ret (.int 3)) mNil)) (mCons (mC1 f__law_draw 0 [] (mCons (ret (.int 3)) mNil)) (mCons (mN 1) (mCons (m2 gAdd (ret (.int 1)) (m2 gMul (mC1 f__law_draw 0 [] (mCons (ret (.int 2)) mNil)) (mCal gInt1 (mCons (m2 gLt (mN 1) (ret (.int 3))) mNil)))) mNil))))))))
def f__law_small : Fnc := mkF1 4 false b__law_small
def l__law_checks_1 : M Fl :=
  (sIf (mAnd (mT (m2 gGt (mN 3) (ret (.int 0)))) (mAnd (mT (m2 gNe (mN 4) (ret (.str "")))) (mT (m2 gGt (mC1 f__law_draw 0 [] (mCons (m2 gAdd (ret (.int 2)) (mN 3)) mNil)) (ret (.int 0)))))) (sSet 4 (m2 gAdd (mN 4) (m2 gIx (mN 4) (m1 gNeg (ret (.int 1)))))) (sSet 4 (m2 gAdd (mN 4) (m2 gIx (ret (.str "+-")) (mC1 f__law_draw 0 [] (mCons (ret (.int 2)) mNil))))))
def b__law_checks : M Fl :=
  (sq (sPar (mCons (mC1 f__law_draw 0 [] (mCons (m2 gAdd (mN 1) (ret (.int 1))) mNil)) (mCons (mC1 f__law_draw 0 [] (mCons (ret (.int 3)) mNil)) (mCons (ret (.str "")) mNil))) (gsC (gN 2) (gsC (gN 3) (gsC (gN 4) gsN))))
    (sq (sFor (mRng (mCons (mN 2) mNil)) (gN 5) l__law_checks_1)
    (sRet (mN 4))))
def f__law_checks : Fnc := mkF1 6 false b__law_checks
def b_is_integer : M Fl :=
  (sRet (mAndV (mIsi isB_int (mN 0)) (mNotV (mIsi isB_bool (mN 0)))))
def f_is_integer : Fnc := mkF0 1 false b_is_integer
def b_is_between : M Fl :=
  (sRet (mAndV (mC0 f_is_integer [] (mCons (mN 0) mNil)) (mChain gLe gLe (mN 1) (mN 0) (mN 2))))
def f_is_between : Fnc := mkF0 3 false b_is_between
def l_LimitsU_initU_1 : M Fl :=
  (sIf (mNot (mT (mC0 f_is_between [] (mCons (mN 6) (mCons (mN 7) (mCons (mN 8) mNil)))))) (sRaise "NumberError") skp)
def b_LimitsU_initU : M Fl :=
  (sq (sSet 5 (mTup (mCons (mTup (mCons (mN 1) (mCons (ret (.int 0)) (mCons (ret (.int 5)) mNil)))) (mCons (mTup (mCons (mN 2) (mCons (ret (.int 0)) (mCons (ret (.int 5)) mNil)))) (mCons (mTup (mCons (mN 3) (mCons (ret (.int 1)) (mCons (ret (.int 5)) mNil)))) mNil)))))
    (sq (sFor (mItems (m2 gAdd (mN 5) (mTup (mCons (mTup (mCons (mN 4) (mCons (ret (.int 1)) (mCons (ret (.int 4)) mNil)))) mNil)))) (gT 3 (gsC (gN 6) (gsC (gN 7) (gsC (gN 8) gsN)))) l_LimitsU_initU_1)
    (sq (sAsg (mTup (mCons (mN 1) (mCons (mN 2) mNil))) (gT 2 (gsC (gA 0 "Limits" "most_passes") (gsC (gA 0 "Limits" "most_fails") gsN))))
    (sAsg (mTup (mCons (mN 3) (mCons (mN 4) mNil))) (gT 2 (gsC (gA 0 "Limits" "most_checks") (gsC (gA 0 "Limits" "least_stay") gsN)))))))
def f_LimitsU_initU : Fnc := mkF1 9 false b_LimitsU_initU
def b__law_limits : M Fl :=
  (sRet (mMk "Limits" f_LimitsU_initU (fun ds es => ds ++ es) (mCons (m2 gIx (mN 0) (ret (.int 0))) (mCons (m2 gIx (mN 0) (ret (.int 1))) (mCons (m2 gIx (mN 0) (ret (.int 2))) mNil))) (mCons (m2 gIx (mN 0) (ret (.int 3))) mNil)))
def f__law_limits : Fnc := mkF0 1 false b__law_limits
def b__law_flag : M Fl :=
  (sRet (m2 gDg (mDisp [((ret (.str "U+")), (ret (.str "."))), ((ret (.str "U-")), (ret (.str "f"))), ((ret (.str "D+")), (ret (.str "p"))), ((ret (.str "D-")), (ret (.str ".")))]) (m2 gAdd (mN 0) (mN 1))))
def f__law_flag : Fnc := mkF0 2 false b__law_flag
def b__law_let : M Fl :=
  (sRet (mAndV (m2 gLe (mMt gCount (mN 1) (mCons (ret (.str "p")) mNil)) (m2 gIx (mN 0) (ret (.int 0)))) (m2 gLe (mMt gCount (mN 1) (mCons (ret (.str "f")) mNil)) (m2 gIx (mN 0) (ret (.int 1))))))
def f__law_let : Fnc := mkF0 2 false b__law_let
def t__law_allowed_1 : M Bool :=
  (mT (m2 gNe (m2 gIx (mN 1) (mN 4)) (m2 gIx (mN 1) (m2 gSub (mN 4) (ret (.int 1))))))
def e__law_allowed_1 : M D :=
  (mN 4)
def l__law_allowed_1 : M Fl :=
  (sSet 3 (m2 gAdd (mN 3) (mC0 f__law_flag [] (mCons (m2 gIx (mN 1) (mN 4)) (mCons (m2 gIx (mN 2) (mN 4)) mNil)))))
def l__law_allowed_2 : M Fl :=
  (sIf (mNot (mT (mC0 f__law_let [] (mCons (mN 0) (mCons (mSl (mN 3) (mPart (mN 4)) (mPart (m2 gAdd (mN 4) (m2 gIx (mN 0) (ret (.int 2)))))) mNil))))) (sRet (ret (.bl false))) skp)
def l__law_allowed_3 : M Fl :=
  (sIf (mT (m2 gLt (m2 gSub (m2 gIx (mN 5) (mN 4)) (m2 gIx (mN 5) (m2 gSub (mN 4) (ret (.int 1))))) (m2 gIx (mN 0) (ret (.int 3))))) (sRet (ret (.bl false))) skp)
def b__law_allowed : M Fl :=
  (sq (sSet 3 (ret (.str "")))
    (sq (sFor (mRng (mCons (m1 gLen (mN 2)) mNil)) (gN 4) l__law_allowed_1)
    (sq (sFor (mRng (mCons (m1 gLen (mN 3)) mNil)) (gN 4) l__law_allowed_2)
    (sq (sSet 5 (mLc [4] (mRng2 (mCons (ret (.int 1)) (mCons (m1 gLen (mN 1)) mNil))) (gN 4) t__law_allowed_1 e__law_allowed_1))
    (sq (sFor (mRng2 (mCons (ret (.int 1)) (mCons (m1 gLen (mN 5)) mNil))) (gN 4) l__law_allowed_3)
    (sRet (ret (.bl true))))))))
def f__law_allowed : Fnc := mkF0 6 false b__law_allowed
def t__law_log_1 : M Bool :=
  mYes
def e__law_log_1 : M D :=
  (m2 gAdd (mN 5) (ret (.str "D")))
def t__law_log_2 : M Bool :=
  mYes
def e__law_log_2 : M D :=
  (m2 gAdd (mN 5) (ret (.str "U")))
def t__law_log_3 : M Bool :=
  (mT (mC0 f__law_allowed [] (mCons (mN 0) (mCons (mN 5) (mCons (mSl (mN 1) mNoP (mPart (m2 gAdd (mN 3) (ret (.int 1))))) mNil)))))
def e__law_log_3 : M D :=
  (mN 5)
def l__law_log_1 : M Fl :=
  (sq (sSet 4 (m2 gAdd (mLc [5] (mItems (mN 2)) (gN 5) t__law_log_1 e__law_log_1) (mLc [5] (mItems (mN 2)) (gN 5) t__law_log_2 e__law_log_2)))
    (sSet 2 (mLc [5] (mItems (mN 4)) (gN 5) t__law_log_3 e__law_log_3)))
def b__law_log : M Fl :=
  (sq (sSet 2 (mLst (mCons (ret (.str "")) mNil)))
    (sq (sFor (mRng (mCons (m1 gLen (mN 1)) mNil)) (gN 3) l__law_log_1)
    (sRet (mN 2))))
def f__law_log : Fnc := mkF0 6 false b__law_log
def b__law_better : M Fl :=
  (sq (sIf (mOr (mT (mIsN (mN 0))) (mOr (mT (m2 gLt (m2 gIx (mN 1) (ret (.int 0))) (m2 gIx (mN 0) (ret (.int 0))))) (mAnd (mT (m2 gEq (m2 gIx (mN 1) (ret (.int 0))) (m2 gIx (mN 0) (ret (.int 0))))) (mT (m2 gLtS (m2 gIx (mN 1) (ret (.int 1))) (m2 gIx (mN 0) (ret (.int 1)))))))) (sRet (mN 1)) skp)
    (sRet (mN 0)))
def f__law_better : Fnc := mkF0 2 false b__law_better
def t__law_due_1 : M Bool :=
  (mT (m2 gNe (mC0 f__law_flag [] (mCons (m2 gIx (mN 3) (mN 5)) (mCons (m2 gIx (mN 1) (mN 5)) mNil))) (ret (.str "."))))
def e__law_due_1 : M D :=
  (ret (.int 1))
def l__law_due_1 : M Fl :=
  (sq (sSet 4 (m1 gLen (mLc [5] (mRng (mCons (m1 gLen (mN 1)) mNil)) (gN 5) t__law_due_1 e__law_due_1)))
    (sSet 2 (mC0 f__law_better [] (mCons (mN 2) (mCons (mTup (mCons (mN 4) (mCons (mN 3) mNil))) mNil)))))
def b__law_due : M Fl :=
  (sq (sSet 2 (ret .non))
    (sq (sFor (mItems (mC0 f__law_log [] (mCons (mN 0) (mCons (mN 1) mNil)))) (gN 3) l__law_due_1)
    (sRet (mN 2))))
def f__law_due : Fnc := mkF0 6 false b__law_due
def b__law_same : M Fl :=
  (sRet (m2 gEq (m1 gReprB (mN 0)) (m1 gReprB (mN 1))))
def f__law_same : Fnc := mkF0 2 false b__law_same
def b_check_limits : M Fl :=
  (sIf (mNot (mT (mIsi isC_Limits (mN 0)))) (sRaise "LimitsError") skp)
def f_check_limits : Fnc := mkF0 1 false b_check_limits
def t_is_made_of_1 : M Bool :=
  mYes
def e_is_made_of_1 : M D :=
  (m2 gIn (mN 2) (mN 1))
def b_is_made_of : M Fl :=
  (sRet (mAndV (mIsi isB_str (mN 0)) (m1 gAll (mLc [2] (mItems (mN 0)) (gN 2) t_is_made_of_1 e_is_made_of_1))))
def f_is_made_of : Fnc := mkF0 3 false b_is_made_of
def b_check_checks : M Fl :=
  (sIf (mOr (mNot (mT (mC0 f_is_made_of [] (mCons (mN 0) (mCons (m2 gAdd (ret (.str "+")) (ret (.str "-"))) mNil))))) (mT (m2 gGt (m1 gLen (mN 0)) (ret (.int 60))))) (sRaise "ChecksError") skp)
def f_check_checks : Fnc := mkF0 1 false b_check_checks
def b_check_log : M Fl :=
  (sq (sDrop (mC0 f_check_limits [] (mCons (mN 0) mNil)))
    (sDrop (mC0 f_check_checks [] (mCons (mN 1) mNil))))
def f_check_log : Fnc := mkF0 2 false b_check_log
def b_spelled : M Fl :=
  (sRet (mJs [(m1 gFmt2 (mN 0)), (m1 gFmt (mN 1)), (m1 gFmt (mN 2)), (m1 gFmt (mN 3))] Str.empty))
def f_spelled : Fnc := mkF0 4 false b_spelled
def b_beginnings : M Fl :=
  (sq (sSet 1 (m2 gMulA (ret (.str ".")) (m2 gSub (m1 (gFld "Limits" "most_checks") (mN 0)) (ret (.int 1)))))
    (sRet (mLst (mCons (mC0 f_spelled [] (mCons (ret (.int 0)) (mCons (ret (.str "D")) (mCons (m1 (gFld "Limits" "least_stay") (mN 0)) (mCons (mN 1) mNil))))) (mCons (mC0 f_spelled [] (mCons (ret (.int 0)) (mCons (ret (.str "U")) (mCons (m1 (gFld "Limits" "least_stay") (mN 0)) (mCons (mN 1) mNil))))) mNil)))))
def f_beginnings : Fnc := mkF0 2 false b_beginnings
def b_row_of : M Fl :=
  (sRet (mCal gIntS (mCons (mSl (mN 0) mNoP (mPart (ret (.int 2)))) mNil)))
def f_row_of : Fnc := mkF0 1 false b_row_of
def b_flag_of : M Fl :=
  (sq (sIf (mT (m2 gEq (m2 gEq (mN 0) (ret (.str "U"))) (m2 gEq (mN 1) (ret (.str "+"))))) (sRet (ret (.str "."))) skp)
    (sRet (mIf (mT (m2 gEq (mN 1) (ret (.str "+")))) (ret (.str "p")) (ret (.str "f")))))
def f_flag_of : Fnc := mkF0 2 false b_flag_of
def b_Limits_let : M Fl :=
  (sRet (mAndV (m2 gLe (mMt gCount (mN 1) (mCons (ret (.str "p")) mNil)) (m1 (gFld "Limits" "most_passes") (mN 0))) (m2 gLe (mMt gCount (mN 1) (mCons (ret (.str "f")) mNil)) (m1 (gFld "Limits" "most_fails") (mN 0)))))
def f_Limits_let : Fnc := mkF0 2 false b_Limits_let
def l_steps_from_1 : M Fl :=
  (sq (sSet 11 (m2 gAdd (mSl (mN 2) (mPart (ret (.int 4))) mNoP) (mC0 f_flag_of [] (mCons (mN 7) (mCons (mN 10) mNil)))))
    (sIf (mAnd (mT (mMe "Limits" "let" f_Limits_let (mN 1) (mCons (mN 11) mNil))) (mOr (mT (mN 8)) (mT (m2 gEq (mN 4) (m1 (gFld "Limits" "least_stay") (mN 1)))))) (sq (sSet 12 (mIf (mT (mN 8)) (m2 gAdd (mN 4) (mCal gInt1 (mCons (m2 gLt (mN 4) (m1 (gFld "Limits" "least_stay") (mN 1))) mNil))) (ret (.int 1))))
    (sApp 5 (mTup (mCons (mN 7) (mCons (mN 10) (mCons (mC0 f_spelled [] (mCons (m2 gIx (mN 6) (mN 9)) (mCons (mN 7) (mCons (mN 12) (mCons (mSl (mN 11) (mPart (ret (.int 1))) mNoP) mNil))))) mNil)))))) skp))
def l_steps_from_2 : M Fl :=
  (sq (sSet 8 (m2 gEq (mN 7) (mN 3)))
    (sFor (mItems (ret (.ct [.ct [.int 1, .str "+"], .ct [.int 2, .str "-"]]))) (gT 2 (gsC (gN 9) (gsC (gN 10) gsN))) l_steps_from_1))
def b_steps_from : M Fl :=
  (sq (sParM [3, 4, 5] (xCons (m2 gIx (mN 2) (ret (.int 2))) (xCons (mCal gIntS (mCons (m2 gIx (mN 2) (ret (.int 3))) mNil)) (xConsO (mLst mNil) xNil))))
    (sq (sSet 6 (m2 gIx (m1 (gFld "Rule" "table") (mN 0)) (mC0 f_row_of [] (mCons (mN 2) mNil))))
    (sq (sFor (mItems (mTup (mCons (ret (.str "D")) (mCons (ret (.str "U")) mNil)))) (gN 7) l_steps_from_2)
    (sRet (mN 5)))))
def f_steps_from : Fnc := mkF0 13 false b_steps_from
def b_is_row : M Fl :=
  (sq (sIf (mOr (mNot (mT (mIsi isB_tuple (mN 0)))) (mOr (mT (m2 gNe (m1 gLen (mN 0)) (ret (.int 3)))) (mNot (mT (mIsi isB_str (m2 gIx (mN 0) (ret (.int 0)))))))) (sRet (ret (.bl false))) skp)
    (sRet (mAndV (m2 gIn (m2 gIx (mN 0) (ret (.int 0))) (mTup (mCons (ret (.str "U")) (mCons (ret (.str "D")) mNil)))) (mAndV (mC0 f_is_between [] (mCons (m2 gIx (mN 0) (ret (.int 1))) (mCons (ret (.int 0)) (mCons (m2 gSub (mN 1) (ret (.int 1))) mNil)))) (mC0 f_is_between [] (mCons (m2 gIx (mN 0) (ret (.int 2))) (mCons (ret (.int 0)) (mCons (m2 gSub (mN 1) (ret (.int 1))) mNil))))))))
def f_is_row : Fnc := mkF0 2 false b_is_row
def t_is_table_1 : M Bool :=
  mYes
def e_is_table_1 : M D :=
  (mC0 f_is_row [] (mCons (mN 1) (mCons (m1 gLen (mN 0)) mNil)))
def b_is_table : M Fl :=
  (sq (sIf (mOr (mNot (mT (mIsi isB_tuple (mN 0)))) (mNot (mT (mChain gLe gLe (ret (.int 1)) (m1 gLen (mN 0)) (ret (.int 64)))))) (sRet (ret (.bl false))) skp)
    (sRet (m1 gAll (mLc [1] (mItems (mN 0)) (gN 1) t_is_table_1 e_is_table_1))))
def f_is_table : Fnc := mkF0 2 false b_is_table
def t_row_classes_1 : M Bool :=
  mYes
def e_row_classes_1 : M D :=
  (mCal gInt1 (mCons (m2 gEq (m2 gIx (mN 6) (ret (.int 0))) (ret (.str "U"))) mNil))
def l_row_classes_1 : M Fl :=
  (sq (sSet 7 (mTup (mCons (m2 gIx (mN 1) (mN 5)) (mCons (m2 gIx (mN 1) (m2 gIx (mN 6) (ret (.int 1)))) (mCons (m2 gIx (mN 1) (m2 gIx (mN 6) (ret (.int 2)))) mNil)))))
    (sq (sIf (mT (m2r gDnot (mN 7) (mNB 3))) (sPutD 3 (mN 7) (mCal1 gLenA (mNB 3))) skp)
    (sApp 4 (m2b gDg (mNB 3) (mN 7)))))
def l_row_classes_2 : M Fl :=
  (sq (sSet 2 (mCal1 gLenSet (mB (mN 1))))
    (sq (sSetO 3 (ret (.dt [])))
    (sq (sSetO 4 (mLst mNil))
    (sq (sFor (mEnumT (mCons (mN 0) mNil)) (gT 2 (gsC (gN 5) (gsC (gN 6) gsN))) l_row_classes_1)
    (sSet 1 (mN 4))))))
def b_row_classes : M Fl :=
  (sq (sSet 1 (mLc [6] (mItems (mN 0)) (gN 6) t_row_classes_1 e_row_classes_1))
    (sq (sSet 2 (ret (.int 0)))
    (sq (sWhile (mT (m2 gLt (mN 2) (mCal1 gLenSet (mB (mN 1))))) l_row_classes_2)
    (sRet (mN 1)))))
def f_row_classes : Fnc := mkF0 8 false b_row_classes
def l_reached_1 : M Fl :=
  (sIf (mT (m2r gDnot (mN 5) (mNB 3))) (sq (sPutD 3 (mN 5) (ret (.bl true)))
    (sApp 2 (mN 5))) skp)
def l_reached_2 : M Fl :=
  (sq (sFor (mItems (mSl (m2 gIx (mN 0) (m2b gIx (mNB 2) (mN 4))) (mPart (ret (.int 1))) mNoP)) (gN 5) l_reached_1)
    (sSet 4 (m2 gAdd (mN 4) (ret (.int 1)))))
def b_reached : M Fl :=
  (sq (sSetO 2 (mLst (mCons (mN 1) mNil)))
    (sq (sSetO 3 (mDisp [((mN 1), (ret (.bl true)))]))
    (sq (sSet 4 (ret (.int 0)))
    (sq (sWhile (mT (m2 gLt (mN 4) (mCal1 gLen (mNB 2)))) l_reached_2)
    (sRet (mN 2))))))
def f_reached : Fnc := mkF0 6 false b_reached
def t_smallest_1 : M Bool :=
  mYes
def e_smallest_1 : M D :=
  (mTup (mCons (mN 6) (mCons (m2b gDg (mNB 3) (m2 gIx (mN 2) (mN 7))) (mCons (m2b gDg (mNB 3) (m2 gIx (mN 2) (mN 8))) mNil))))
def l_smallest_1 : M Fl :=
  (sIf (mT (m2r gDnot (m2 gIx (mN 2) (mN 5)) (mNB 3))) (sq (sPutD 3 (m2 gIx (mN 2) (mN 5)) (mCal1 gLen (mNB 4)))
    (sApp 4 (m2 gIx (mN 0) (mN 5)))) skp)
def b_smallest : M Fl :=
  (sq (sSet 2 (mC0 f_row_classes [] (mCons (mN 0) mNil)))
    (sq (sSetO 3 (ret (.dk [])))
    (sq (sSetO 4 (mLst mNil))
    (sq (sFor (mItems (mC0 f_reached [] (mCons (mN 0) (mCons (mN 1) mNil)))) (gN 5) l_smallest_1)
    (sRet (m1 gTuple (mLc [6, 7, 8] (mItems (mN 4)) (gT 3 (gsC (gN 6) (gsC (gN 7) (gsC (gN 8) gsN)))) t_smallest_1 e_smallest_1)))))))
def f_smallest : Fnc := mkF0 9 false b_smallest
def b_RuleU_initU : M Fl :=
  (sq (sIf (mNot (mT (mC0 f_is_table [] (mCons (mN 1) mNil)))) (sRaise "TableError") skp)
    (sAsg (mC0 f_smallest [] (mCons (mN 1) (mCons (ret (.int 0)) mNil))) (gA 0 "Rule" "table")))
def f_RuleU_initU : Fnc := mkF1 2 false b_RuleU_initU
def b_some_rule : M Fl :=
  (sRet (mMk "Rule" f_RuleU_initU (fun ds es => ds) (mCons (mTup (mCons (mTup (mCons (ret (.str "U")) (mCons (ret (.int 0)) (mCons (ret (.int 0)) mNil)))) mNil)) mNil) mNil))
def f_some_rule : Fnc := mkF0 0 false b_some_rule
def t_next_situations_1 : M Bool :=
  (mAnd (mT (m2 gEq (mN 6) (mN 2))) (mOr (mT (m2 gEq (mN 5) (m2 gIx (mN 1) (ret (.int 2))))) (mNot (mT (mN 3)))))
def e_next_situations_1 : M D :=
  (mTup (mCons (mN 5) (mCons (mN 7) mNil)))
def b_next_situations : M Fl :=
  (sq (sSet 4 (mC0 f_steps_from [] (mCons (mC0 f_some_rule [] mNil) (mCons (mN 0) (mCons (mN 1) mNil)))))
    (sRet (mLc [5, 6, 7] (mItems (mN 4)) (gT 3 (gsC (gN 5) (gsC (gN 6) (gsC (gN 7) gsN)))) t_next_situations_1 e_next_situations_1)))
def f_next_situations : Fnc := mkF0 8 false b_next_situations
def t_fewest_errors_1k : M D :=
  (mN 6)
def t_fewest_errors_1 : M Bool :=
  mYes
def e_fewest_errors_1 : M D :=
  (mTup (mCons (ret (.int 0)) (mCons (ret (.str "")) mNil)))
def l_fewest_errors_1 : M Fl :=
  (sq (sSet 11 (mTup (mCons (m2 gAdd (mN 7) (mCal gInt1 (mCons (m2 gNe (mC0 f_flag_of [] (mCons (mN 9) (mCons (mN 4) mNil))) (ret (.str "."))) mNil))) (mCons (m2 gAdd (mN 8) (mN 9)) mNil))))
    (sIf (mOr (mT (m2r gDnot (mN 10) (mNB 5))) (mT (m2 gLtIS (mN 11) (m2b gDg (mNB 5) (mN 10))))) (sPutD 5 (mN 10) (mN 11)) skp))
def l_fewest_errors_2 : M Fl :=
  (sFor (mItems (mC0 f_next_situations [] (mCons (mN 0) (mCons (mN 6) (mCons (mN 4) (mCons (m2 gEq (mN 3) (ret (.int 0))) mNil)))))) (gT 2 (gsC (gN 9) (gsC (gN 10) gsN))) l_fewest_errors_1)
def l_fewest_errors_3 : M Fl :=
  (sq (sSetO 5 (ret (.dk [])))
    (sq (sForI 2 (gT 2 (gsC (gN 6) (gsC (gT 2 (gsC (gN 7) (gsC (gN 8) gsN))) gsN))) l_fewest_errors_2)
    (sMove 2 5)))
def l_fewest_errors_4 : M Fl :=
  (sIf (mOr (mT (mIsN (mN 12))) (mT (m2 gLtIS (mN 11) (mN 12)))) (sSet 12 (mN 11)) skp)
def b_fewest_errors : M Fl :=
  (sq (sDrop (mC0 f_check_log [] (mCons (mN 0) (mCons (mN 1) mNil))))
    (sq (sSetO 2 (mDc [6] (mItems (mC0 f_beginnings [] (mCons (mN 0) mNil))) (gN 6) t_fewest_errors_1 t_fewest_errors_1k e_fewest_errors_1))
    (sq (sFor (mEnumA (mCons (mN 1) mNil)) (gT 2 (gsC (gN 3) (gsC (gN 4) gsN))) l_fewest_errors_3)
    (sq (sSet 12 (ret .non))
    (sq (sFor (mItems (mVals 2)) (gN 11) l_fewest_errors_4)
    (sRet (mN 12)))))))
def f_fewest_errors : Fnc := mkF0 13 false b_fewest_errors
def b__law_spelled : M Fl :=
  (sRet (m2 gAdd (m2 gAdd (m2 gAdd (m2 gAdd (m2 gMulA (ret (.str "0")) (mCal gInt1 (mCons (m2 gLt (mN 0) (ret (.int 10))) mNil))) (m1 gStr (mN 0))) (mN 1)) (m1 gStr (mN 2))) (mN 3)))
def f__law_spelled : Fnc := mkF0 4 false b__law_spelled
def b__law_beginnings : M Fl :=
  (sq (sSet 1 (m2 gMulA (ret (.str ".")) (m2 gSub (m2 gIx (mN 0) (ret (.int 2))) (ret (.int 1)))))
    (sRet (mLst (mCons (mC0 f__law_spelled [] (mCons (ret (.int 0)) (mCons (ret (.str "D")) (mCons (m2 gIx (mN 0) (ret (.int 3))) (mCons (mN 1) mNil))))) (mCons (mC0 f__law_spelled [] (mCons (ret (.int 0)) (mCons (ret (.str "U")) (mCons (m2 gIx (mN 0) (ret (.int 3))) (mCons (mN 1) mNil))))) mNil)))))
def f__law_beginnings : Fnc := mkF0 2 false b__law_beginnings
def l__law_steps_1 : M Fl :=
  (sq (sSet 9 (m2 gAdd (mSl (mN 2) (mPart (ret (.int 4))) mNoP) (mC0 f__law_flag [] (mCons (mN 6) (mCons (mN 8) mNil)))))
    (sIf (mAnd (mT (m2 gGt (mN 7) (ret (.int 0)))) (mT (mC0 f__law_let [] (mCons (mN 1) (mCons (mN 9) mNil))))) (sq (sSet 10 (m2 gIx (mN 3) (m2 gAdd (ret (.int 1)) (mCal gInt1 (mCons (m2 gEq (mN 8) (ret (.str "-"))) mNil)))))
    (sApp 5 (mTup (mCons (mN 6) (mCons (mN 8) (mCons (mC0 f__law_spelled [] (mCons (mN 10) (mCons (mN 6) (mCons (mN 7) (mCons (mSl (mN 9) (mPart (ret (.int 1))) mNoP) mNil))))) mNil)))))) skp))
def l__law_steps_2 : M Fl :=
  (sq (sSet 7 (m2 gAdd (mN 4) (mCal gInt1 (mCons (m2 gLt (mN 4) (m2 gIx (mN 1) (ret (.int 3)))) mNil))))
    (sq (sIf (mT (m2 gNe (mN 6) (m2 gIx (mN 2) (ret (.int 2))))) (sSet 7 (mIf (mT (m2 gEq (mN 4) (m2 gIx (mN 1) (ret (.int 3))))) (ret (.int 1)) (ret (.int 0)))) skp)
    (sFor (mItems (ret (.str "+-"))) (gN 8) l__law_steps_1)))
def b__law_steps : M Fl :=
  (sq (sParM [3, 4, 5] (xCons (m2 gIx (mN 0) (mCal gIntS (mCons (mSl (mN 2) mNoP (mPart (ret (.int 2)))) mNil))) (xCons (mCal gIntS (mCons (m2 gIx (mN 2) (ret (.int 3))) mNil)) (xConsO (mLst mNil) xNil))))
    (sq (sFor (mItems (ret (.str "DU"))) (gN 6) l__law_steps_2)
    (sRet (mCal1 gTuple (mNB 5)))))
def f__law_steps : Fnc := mkF0 11 false b__law_steps
def l__law_log_steps_1 : M Fl :=
  (sIf (mAnd (mT (m2 gEq (mN 6) (mN 2))) (mOr (mNot (mT (mN 3))) (mT (m2 gEq (mN 5) (m2 gIx (mN 1) (ret (.int 2))))))) (sApp 4 (mTup (mCons (mN 5) (mCons (mN 7) mNil)))) skp)
def b__law_log_steps : M Fl :=
  (sq (sSetO 4 (mLst mNil))
    (sq (sFor (mItems (mC0 f__law_steps [] (mCons (mTup (mCons (mTup (mCons (ret (.str "U")) (mCons (ret (.int 0)) (mCons (ret (.int 0)) mNil)))) mNil)) (mCons (mN 0) (mCons (mN 1) mNil))))) (gT 3 (gsC (gN 5) (gsC (gN 6) (gsC (gN 7) gsN)))) l__law_log_steps_1)
    (sRet (mN 4))))
def f__law_log_steps : Fnc := mkF0 8 false b__law_log_steps
def l__law_long_1 : M Fl :=
  (sPutD 2 (mN 4) (mTup (mCons (ret (.int 0)) (mCons (ret (.str "")) mNil))))
def l__law_long_2 : M Fl :=
  (sq (sSet 9 (m2 gAdd (m2 gIx (m2b gDg (mNB 2) (mN 4)) (ret (.int 0))) (mCal gInt1 (mCons (m2 gNe (mC0 f__law_flag [] (mCons (mN 7) (mCons (m2 gIx (mN 1) (mN 5)) mNil))) (ret (.str "."))) mNil))))
    (sPutD 6 (mN 8) (mC0 f__law_better [] (mCons (m3g (mNB 6) (mN 8) (ret .non)) (mCons (mTup (mCons (mN 9) (mCons (m2 gAdd (m2 gIx (m2b gDg (mNB 2) (mN 4)) (ret (.int 1))) (mN 7)) mNil))) mNil)))))
def l__law_long_3 : M Fl :=
  (sFor (mItems (mC0 f__law_log_steps [] (mCons (mN 0) (mCons (mN 4) (mCons (m2 gIx (mN 1) (mN 5)) (mCons (m2 gEq (mN 5) (ret (.int 0))) mNil)))))) (gT 2 (gsC (gN 7) (gsC (gN 8) gsN))) l__law_long_2)
def l__law_long_4 : M Fl :=
  (sq (sSetO 6 (ret (.dk [])))
    (sq (sFor (mKeys 2) (gN 4) l__law_long_3)
    (sMove 2 6)))
def l__law_long_5 : M Fl :=
  (sSet 3 (mC0 f__law_better [] (mCons (mN 3) (mCons (m2b gDg (mNB 2) (mN 4)) mNil))))
def b__law_long : M Fl :=
  (sq (sParM [2, 3] (xConsO (ret (.dk [])) (xCons (ret .non) xNil)))
    (sq (sFor (mItems (mC0 f__law_beginnings [] (mCons (mN 0) mNil))) (gN 4) l__law_long_1)
    (sq (sFor (mRng (mCons (m1 gLen (mN 1)) mNil)) (gN 5) l__law_long_4)
    (sq (sFor (mKeys 2) (gN 4) l__law_long_5)
    (sRet (mN 3))))))
def f__law_long : Fnc := mkF0 10 false b__law_long
def l_law_1 : M Fl :=
  (sq (sSet 4 (mC1 f__law_pick 2 [] (mCons (mLst (mCons (mC1 f__law_numbers 2 [] (mCons (ret (.int 5)) mNil)) (mCons (mC1 f__law_small 2 [] mNil) (mCons (mTup (mCons (ret (.int 1)) (mCons (ret (.int 0)) (mCons (ret (.int 4)) (mCons (ret (.int 2)) mNil))))) (mCons (mTup (mCons (ret (.int 1)) (mCons (ret (.int 1)) (mCons (ret (.int 5)) (mCons (ret (.int 3)) mNil))))) mNil))))) mNil)))
    (sq (sPar (mCons (mC1 f__law_checks 2 [] (mCons (ret (.int 7)) mNil)) (mCons (mC0 f__law_limits [] (mCons (mN 4) mNil)) mNil)) (gsC (gN 5) (gsC (gN 6) gsN)))
    (sq (sSet 7 (mC0 f__law_due [] (mCons (mN 4) (mCons (mN 5) mNil))))
    (sIf (mNot (mT (mC0 f__law_same [] (mCons (mLst (mCons (mC0 f_fewest_errors [] (mCons (mN 6) (mCons (mN 5) mNil))) (mCons (mC0 f_fewest_errors [] (mCons (mN 6) (mCons (mN 5) mNil))) mNil))) (mCons (mLst (mCons (mN 7) (mCons (mN 7) mNil))) mNil))))) (sRet (ret (.bl false))) skp))))
def l_law_2 : M Fl :=
  (sq (sSetO 2 (mC0 f__law_pen [] (mCons (mC0 f__law_cell_at [] (mCons (mN 0) (mCons (mN 1) mNil))) mNil)))
    (sq (sFor (mRng (mCons (ret (.int 2)) mNil)) (gN 3) l_law_1)
    (sq (sPar (mCons (mC1 f__law_pick 2 [] (mCons (mLst (mCons (mC1 f__law_small 2 [] mNil) (mCons (mTup (mCons (ret (.int 1)) (mCons (ret (.int 1)) (mCons (ret (.int 3)) (mCons (ret (.int 2)) mNil))))) mNil))) mNil)) (mCons (mC1 f__law_checks 2 [] (mCons (ret (.int 50)) mNil)) mNil)) (gsC (gN 4) (gsC (gN 5) gsN)))
    (sIf (mNot (mT (mC0 f__law_same [] (mCons (mC0 f_fewest_errors [] (mCons (mC0 f__law_limits [] (mCons (mN 4) mNil)) (mCons (mN 5) mNil))) (mCons (mC0 f__law_long [] (mCons (mN 4) (mCons (mN 5) mNil))) mNil))))) (sRet (ret (.bl false))) skp))))
def b_law : M Fl :=
  (sq (sFor (mRng (mCons (mCal gMax2 (mCons (ret (.int 1)) (mCons (mCal gMin2 (mCons (m1 gLen (mN 0)) (mCons (ret (.int 3)) mNil))) mNil))) mNil)) (gN 1) l_law_2)
    (sRet (ret (.bl true))))
def f_law : Fnc := mkF0 8 false b_law
end Lw
namespace Lw
open PySem hiding start
open PySem.Spec L2 Sr
open PyProof.Rows hiding St
structure Tx (K : PySem.W.Frag) (mg : Str → Option Value) : Prop where
  f_max : mg "max" = none
  f_int : mg "int" = none
  f_len : mg "len" = none
  f_min : mg "min" = none
  f_range : mg "range" = none
  f_isinstance : mg "isinstance" = none
  f_bool : mg "bool" = none
  c_MOST_FALSE : ∃ t, mg "MOST_FALSE" = some (.int 5 t)
  c_MOST_SPAN : ∃ t, mg "MOST_SPAN" = some (.int 5 t)
  c_MOST_SETTLED : ∃ t, mg "MOST_SETTLED" = some (.int 4 t)
  f_repr : mg "repr" = none
  f_str : mg "str" = none
  f_all : mg "all" = none
  c_PASS : ∃ t, mg "PASS" = some (.str "+" t)
  c_FAIL : ∃ t, mg "FAIL" = some (.str "-" t)
  c_MOST_CHECKS : ∃ t, mg "MOST_CHECKS" = some (.int 60 t)
  c_NO_ERROR : ∃ t, mg "NO_ERROR" = some (.str "." t)
  c_DOWN : ∃ t, mg "DOWN" = some (.str "D" t)
  c_UP : ∃ t, mg "UP" = some (.str "U" t)
  c_FALSE_PASS : ∃ t, mg "FALSE_PASS" = some (.str "p" t)
  c_FALSE_FAIL : ∃ t, mg "FALSE_FAIL" = some (.str "f" t)
  c_FLAGS_AT : ∃ t, mg "FLAGS_AT" = some (.int 4 t)
  f_tuple : mg "tuple" = none
  c_MOST_ROWS : ∃ t, mg "MOST_ROWS" = some (.int 64 t)
  f_set : mg "set" = none
  f_enumerate : mg "enumerate" = none
  f_list : mg "list" = none
  kt_SIDES : mg "SIDES" = some (.ref (He.ga K "SIDES"))
  k_Rule : mg "Rule" = some (.ref (He.ga K "Rule"))
  cl_Rule : Cls K (He.ga K "Rule")
  k_Limits : mg "Limits" = some (.ref (He.ga K "Limits"))
  cl_Limits : Cls K (He.ga K "Limits")
  k_NumberError : mg "NumberError" = some (.ref (He.ga K "NumberError"))
  k_LimitsError : mg "LimitsError" = some (.ref (He.ga K "LimitsError"))
  k_ChecksError : mg "ChecksError" = some (.ref (He.ga K "ChecksError"))
  k_TableError : mg "TableError" = some (.ref (He.ga K "TableError"))
  n_Limits_most_passes : NoAttr K (He.ga K "Limits") "most_passes"
  n_Limits_most_fails : NoAttr K (He.ga K "Limits") "most_fails"
  n_Limits_most_checks : NoAttr K (He.ga K "Limits") "most_checks"
  n_Limits_least_stay : NoAttr K (He.ga K "Limits") "least_stay"
  n_Rule_table : NoAttr K (He.ga K "Rule") "table"
  i_int : IsiK K mg (.type "int") isB_int
  i_bool : IsiK K mg (.type "bool") isB_bool
  i_Limits : IsiK K mg (.ref (He.ga K "Limits")) isC_Limits
  i_str : IsiK K mg (.type "str") isB_str
  i_tuple : IsiK K mg (.type "tuple") isB_tuple
  x_NumberError : Rai K mg "NumberError"
  x_LimitsError : Rai K mg "LimitsError"
  x_ChecksError : Rai K mg "ChecksError"
  x_TableError : Rai K mg "TableError"
  ct_SIDES : ckV K (.ct [.ct [.int 1, .str "+"], .ct [.int 2, .str "-"]]) (.ref (He.ga K "SIDES")) = true
  dg : noDg K = true
def gV_Limits_3_settled : List V → List V → List V := fun vs zs => vs ++ zs
theorem rel_Limits_3_settled [TabL] {K : PySem.W.Frag} {mg : Str → Option Value} (ds es : List D) (vs zs : List V) (F : Hp) (x : Addr) (h1 : RpL K mg F ds vs) (h2 : RpL K mg F es zs) (l1 : ds.length = 3) (l2 : es.length = 1) : ∃ ws, gV_Limits_3_settled (.ref x :: vs) zs = .ref x :: ws ∧ RpL K mg F ((fun ds es => ds ++ es) ds es) ws ∧ ((fun ds es => ds ++ es) ds es).length + 1 = 5 :=
  ⟨vs ++ zs, rfl, h1.append h2, by simp only [List.length_append, l1, l2]⟩
def gV_Rule_1_ : List V → List V → List V := fun vs _ => vs
theorem rel_Rule_1_ [TabL] {K : PySem.W.Frag} {mg : Str → Option Value} (ds es : List D) (vs zs : List V) (F : Hp) (x : Addr) (h1 : RpL K mg F ds vs) (h2 : RpL K mg F es zs) (l1 : ds.length = 1) (l2 : es.length = 0) : ∃ ws, gV_Rule_1_ (.ref x :: vs) zs = .ref x :: ws ∧ RpL K mg F ((fun ds es => ds) ds es) ws ∧ ((fun ds es => ds) ds es).length + 1 = 2 :=
  ⟨vs, rfl, h1, by simp only [l1]⟩
section
variable [TabL] {P : Program} {w : World} {K : PySem.W.Frag} {mg : Str → Option Value} {base : Heap}
abbrev N__law_pen : List Str := ["_law_cell"]
theorem sc__law_pen : FnScope N__law_pen ["_law_cell"] (defScope st__law_pen) := ⟨rfl, rfl, rfl, by decide +kernel, rfl, by decide +kernel, by decide +kernel⟩
theorem d__law_pen (Z : Tx K mg)  {f : Addr} {cdv : Value} {A : Around} {outer : List Env} {s0 : Shared} {H : Hp} {E : XK} (hr : Room 0 (A.deeper (envOfC "_law_pen" (defScope st__law_pen) s0.heap.objs.size f cdv))) (hgu : A.guards = some []) : JSs (cxOf (L2N.CX P w) P w K mg base N__law_pen "_law_pen" (defScope st__law_pen) f cdv A outer s0 H E) [] (WE0 E) (defBody st__law_pen) b__law_pen := by
  have hp : Pl (cxOf (L2N.CX P w) P w K mg base N__law_pen "_law_pen" (defScope st__law_pen) f cdv A outer s0 H E) 0 := ⟨hr, hgu⟩
  exact (js_one (js_retO (jo_lst (jl_cons (jv_callB (c_max (by rfl)) (by rfl) Z.f_max bt_max (jl_cons jv_int (jl_cons (jv_bin o_sub (jv_name 0 rfl (Or.inl rfl)) (jv_bin o_pow jv_int jv_int)) jl_nil)).ja) (jl_cons (jv_bin o_add (jv_bin o_mod (jv_callTy c_int (by rfl) Z.f_int bt_int (jl_cons (jv_name 0 rfl (Or.inl rfl)) jl_nil).ja) jv_int) jv_int) (jl_cons jv_int jl_nil))).ja)))
theorem ok__law_pen (Z : Tx K mg)  {f : Addr} {fd : FuncData} {kws : List (Str × V)} (G : FunD K "_law_pen" "_law_pen" (defArgs st__law_pen) (defBody st__law_pen) (defScope st__law_pen) [] kws f fd) : FnG P w K mg base 1 f fd ["_law_cell"] (spF0 K mg true 1 f__law_pen) :=
  fn0 (P := P) (w := w) (mg := mg) (base := base) (ro := true) (s := b__law_pen) (N := N__law_pen) (ps := ["_law_cell"]) rfl rfl G sc__law_pen fun cdv A outer s0 H E hr hgu => d__law_pen Z  hr hgu
abbrev N__law_cell_at : List Str := ["_law_script", "_law_k"]
theorem sc__law_cell_at : FnScope N__law_cell_at ["_law_script", "_law_k"] (defScope st__law_cell_at) := ⟨rfl, rfl, rfl, by decide +kernel, rfl, by decide +kernel, by decide +kernel⟩
theorem d__law_cell_at (Z : Tx K mg)  {f : Addr} {cdv : Value} {A : Around} {outer : List Env} {s0 : Shared} {H : Hp} {E : XK} (hr : Room 0 (A.deeper (envOfC "_law_cell_at" (defScope st__law_cell_at) s0.heap.objs.size f cdv))) (hgu : A.guards = some []) : JSs (cxOf (L2N.CX P w) P w K mg base N__law_cell_at "_law_cell_at" (defScope st__law_cell_at) f cdv A outer s0 H E) [] (WE0 E) (defBody st__law_cell_at) b__law_cell_at := by
  have hp : Pl (cxOf (L2N.CX P w) P w K mg base N__law_cell_at "_law_cell_at" (defScope st__law_cell_at) f cdv A outer s0 H E) 0 := ⟨hr, hgu⟩
  exact (js_cons (js_if (jt_cmp (p_lt hp) (jv_name 1 rfl (Or.inl rfl)) (jv_callV1 c_len (by rfl) Z.f_len bt_len (jv_name 0 rfl (Or.inl rfl)))) (js_one (js_ret (jv_ix (jv_name 0 rfl (Or.inl rfl)) (jv_name 1 rfl (Or.inl rfl))))) js_nil)
    (js_one (js_ret jv_int)))
theorem ok__law_cell_at (Z : Tx K mg)  {f : Addr} {fd : FuncData} {kws : List (Str × V)} (G : FunD K "_law_cell_at" "_law_cell_at" (defArgs st__law_cell_at) (defBody st__law_cell_at) (defScope st__law_cell_at) [] kws f fd) : FnG P w K mg base 1 f fd ["_law_script", "_law_k"] (spF0 K mg false 2 f__law_cell_at) :=
  fn0 (P := P) (w := w) (mg := mg) (base := base) (ro := false) (s := b__law_cell_at) (N := N__law_cell_at) (ps := ["_law_script", "_law_k"]) rfl rfl G sc__law_cell_at fun cdv A outer s0 H E hr hgu => d__law_cell_at Z  hr hgu
abbrev N__law_draw : List Str := ["_law_pen_here", "_law_many", "_law_found", "_law_mixed"]
theorem sc__law_draw : FnScope N__law_draw ["_law_pen_here", "_law_many"] (defScope st__law_draw) := ⟨rfl, rfl, rfl, by decide +kernel, rfl, by decide +kernel, by decide +kernel⟩
theorem d__law_draw (Z : Tx K mg)  {f : Addr} {cdv : Value} {A : Around} {outer : List Env} {s0 : Shared} {H : Hp} {E : XK} {p : Addr} (hr : Room 0 (A.deeper (envOfC "_law_draw" (defScope st__law_draw) s0.heap.objs.size f cdv))) (hgu : A.guards = some []) : JSs (cxOf (L2N.CX P w) P w K mg base N__law_draw "_law_draw" (defScope st__law_draw) f cdv A outer s0 H E) [(0, p)] (WE0 E) (defBody st__law_draw) b__law_draw := by
  have hp : Pl (cxOf (L2N.CX P w) P w K mg base N__law_draw "_law_draw" (defScope st__law_draw) f cdv A outer s0 H E) 0 := ⟨hr, hgu⟩
  exact (js_cons (js_if (jt_cmp p_gt (jv_ixB (jb_name 0 rfl (Or.inl rfl)) jv_int) jv_int) (js_cons (js_set (noP_cons (by decide) noP_nil) sc__law_draw.nd rfl (Or.inl rfl) (jv_bin o_mod (jv_callTy c_int (by rfl) Z.f_int bt_int (jl_cons (jv_ixB (jb_name 0 rfl (Or.inl rfl)) jv_int) jl_nil).ja) (jv_name 1 rfl (Or.inl rfl))))
    (js_cons (js_putI rfl (Or.inl rfl) (jv_bin o_div (jv_ixB (jb_name 0 rfl (Or.inl rfl)) jv_int) (jv_name 1 rfl (Or.inl rfl))) jv_int)
    (js_one (js_ret (jv_name 2 rfl (Or.inl rfl)))))) js_nil)
    (js_cons (js_putI rfl (Or.inl rfl) (jv_bin o_add (jv_ixB (jb_name 0 rfl (Or.inl rfl)) jv_int) jv_int) jv_int)
    (js_cons (js_putI rfl (Or.inl rfl) (jv_bin o_mod (jv_callTy c_int (by rfl) Z.f_int bt_int (jl_cons (jv_bin o_add (jv_bin o_add (jv_bin o_mul (jv_ixB (jb_name 0 rfl (Or.inl rfl)) jv_int) jv_int) (jv_bin o_mul jv_int (jv_ixB (jb_name 0 rfl (Or.inl rfl)) jv_int))) jv_int) jl_nil).ja) jv_int) jv_int)
    (js_cons (js_set (noP_cons (by decide) noP_nil) sc__law_draw.nd rfl (Or.inl rfl) (jv_bin o_mod (jv_callTy c_int (by rfl) Z.f_int bt_int (jl_cons (jv_bin o_add (jv_bin o_add (jv_bin o_mul (jv_ixB (jb_name 0 rfl (Or.inl rfl)) jv_int) (jv_ixB (jb_name 0 rfl (Or.inl rfl)) jv_int)) (jv_bin o_mul jv_int (jv_ixB (jb_name 0 rfl (Or.inl rfl)) jv_int))) jv_int) jl_nil).ja) jv_int))
    (js_cons (js_set (noP_cons (by decide) noP_nil) sc__law_draw.nd rfl (Or.inl rfl) (jv_bin o_mod (jv_callTy c_int (by rfl) Z.f_int bt_int (jl_cons (jv_bin o_add (jv_bin o_mul (jv_name 3 rfl (Or.inl rfl)) (jv_name 3 rfl (Or.inl rfl))) (jv_bin o_mul jv_int (jv_name 3 rfl (Or.inl rfl)))) jl_nil).ja) jv_int))
    (js_one (js_ret (jv_bin o_mod (jv_callTy c_int (by rfl) Z.f_int bt_int (jl_cons (jv_bin o_div (jv_name 3 rfl (Or.inl rfl)) jv_int) jl_nil).ja) (jv_name 1 rfl (Or.inl rfl))))))))))
theorem ok__law_draw (Z : Tx K mg)  {f : Addr} {fd : FuncData} {kws : List (Str × V)} (G : FunD K "_law_draw" "_law_draw" (defArgs st__law_draw) (defBody st__law_draw) (defScope st__law_draw) [] kws f fd) : FnG P w K mg base 1 f fd ["_law_pen_here", "_law_many"] (spF1 K mg false 2 f__law_draw) :=
  fn1 (P := P) (w := w) (mg := mg) (base := base) (ro := false) (s := b__law_draw) (N := N__law_draw) (ps := ["_law_pen_here", "_law_many"]) rfl rfl G sc__law_draw fun cdv A outer s0 H E p hr hgu => d__law_draw Z  hr hgu
abbrev N__law_pick : List Str := ["_law_pen_here", "_law_values"]
theorem sc__law_pick : FnScope N__law_pick ["_law_pen_here", "_law_values"] (defScope st__law_pick) := ⟨rfl, rfl, rfl, by decide +kernel, rfl, by decide +kernel, by decide +kernel⟩
theorem d__law_pick (Z : Tx K mg) (hF__law_draw : FnC P w K mg base 1 "_law_draw" (spF1 K mg false 2 f__law_draw) ["_law_pen_here", "_law_many"] []) {f : Addr} {cdv : Value} {A : Around} {outer : List Env} {s0 : Shared} {H : Hp} {E : XK} {p : Addr} (hr : Room 1 (A.deeper (envOfC "_law_pick" (defScope st__law_pick) s0.heap.objs.size f cdv))) (hgu : A.guards = some []) : JSs (cxOf (L2N.CX P w) P w K mg base N__law_pick "_law_pick" (defScope st__law_pick) f cdv A outer s0 H E) [(0, p)] (WE0 E) (defBody st__law_pick) b__law_pick := by
  have hp : Pl (cxOf (L2N.CX P w) P w K mg base N__law_pick "_law_pick" (defScope st__law_pick) f cdv A outer s0 H E) 1 := ⟨hr, hgu⟩
  exact (js_one (js_ret (jv_ix (jv_name 1 rfl (Or.inl rfl)) (jv_c1 0 ⟨hF__law_draw⟩ hp (L2N.takes_of rfl rfl rfl rfl) nodd (by rfl) (by rfl) (Or.inl rfl) (jl_cons (jv_callV1 c_len (by rfl) Z.f_len bt_len (jv_name 1 rfl (Or.inl rfl))) jl_nil)))))
theorem ok__law_pick (Z : Tx K mg) (hF__law_draw : FnC P w K mg base 1 "_law_draw" (spF1 K mg false 2 f__law_draw) ["_law_pen_here", "_law_many"] []) {f : Addr} {fd : FuncData} {kws : List (Str × V)} (G : FunD K "_law_pick" "_law_pick" (defArgs st__law_pick) (defBody st__law_pick) (defScope st__law_pick) [] kws f fd) : FnG P w K mg base 2 f fd ["_law_pen_here", "_law_values"] (spF1 K mg false 2 f__law_pick) :=
  fn1 (P := P) (w := w) (mg := mg) (base := base) (ro := false) (s := b__law_pick) (N := N__law_pick) (ps := ["_law_pen_here", "_law_values"]) rfl rfl G sc__law_pick fun cdv A outer s0 H E p hr hgu => d__law_pick Z hF__law_draw hr hgu
abbrev N__law_numbers : List Str := ["_law_pen_here", "_law_most", "_law_span", "_law_wide"]
theorem sc__law_numbers : FnScope N__law_numbers ["_law_pen_here", "_law_most"] (defScope st__law_numbers) := ⟨rfl, rfl, rfl, by decide +kernel, rfl, by decide +kernel, by decide +kernel⟩
theorem d__law_numbers (Z : Tx K mg) (hF__law_draw : FnC P w K mg base 1 "_law_draw" (spF1 K mg false 2 f__law_draw) ["_law_pen_here", "_law_many"] []) {f : Addr} {cdv : Value} {A : Around} {outer : List Env} {s0 : Shared} {H : Hp} {E : XK} {p : Addr} (hr : Room 1 (A.deeper (envOfC "_law_numbers" (defScope st__law_numbers) s0.heap.objs.size f cdv))) (hgu : A.guards = some []) : JSs (cxOf (L2N.CX P w) P w K mg base N__law_numbers "_law_numbers" (defScope st__law_numbers) f cdv A outer s0 H E) [(0, p)] (WE0 E) (defBody st__law_numbers) b__law_numbers := by
  have hp : Pl (cxOf (L2N.CX P w) P w K mg base N__law_numbers "_law_numbers" (defScope st__law_numbers) f cdv A outer s0 H E) 1 := ⟨hr, hgu⟩
  exact (js_cons (js_set (noP_cons (by decide) noP_nil) sc__law_numbers.nd rfl (Or.inl rfl) (jv_bin o_add jv_int (jv_c1 0 ⟨hF__law_draw⟩ hp (L2N.takes_of rfl rfl rfl rfl) nodd (by rfl) (by rfl) (Or.inl rfl) (jl_cons (jv_name 1 rfl (Or.inl rfl)) jl_nil))))
    (js_cons (js_set (noP_cons (by decide) noP_nil) sc__law_numbers.nd rfl (Or.inl rfl) (jv_callB (c_min (by rfl)) (by rfl) Z.f_min bt_min (jl_cons jv_int (jl_cons (jv_bin o_add (jv_name 2 rfl (Or.inl rfl)) jv_int) jl_nil)).ja))
    (js_one (js_ret (jv_tup (jl_cons (jv_c1 0 ⟨hF__law_draw⟩ hp (L2N.takes_of rfl rfl rfl rfl) nodd (by rfl) (by rfl) (Or.inl rfl) (jl_cons (jv_name 3 rfl (Or.inl rfl)) jl_nil)) (jl_cons (jv_c1 0 ⟨hF__law_draw⟩ hp (L2N.takes_of rfl rfl rfl rfl) nodd (by rfl) (by rfl) (Or.inl rfl) (jl_cons (jv_name 3 rfl (Or.inl rfl)) jl_nil)) (jl_cons (jv_name 2 rfl (Or.inl rfl)) (jl_cons (jv_bin o_add jv_int (jv_c1 0 ⟨hF__law_draw⟩ hp (L2N.takes_of rfl rfl rfl rfl) nodd (by rfl) (by rfl) (Or.inl rfl) (jl_cons jv_int jl_nil))) jl_nil)))).ja)))))
theorem ok__law_numbers (Z : Tx K mg) (hF__law_draw : FnC P w K mg base 1 "_law_draw" (spF1 K mg false 2 f__law_draw) ["_law_pen_here", "_law_many"] []) {f : Addr} {fd : FuncData} {kws : List (Str × V)} (G : FunD K "_law_numbers" "_law_numbers" (defArgs st__law_numbers) (defBody st__law_numbers) (defScope st__law_numbers) [] kws f fd) : FnG P w K mg base 2 f fd ["_law_pen_here", "_law_most"] (spF1 K mg false 2 f__law_numbers) :=
  fn1 (P := P) (w := w) (mg := mg) (base := base) (ro := false) (s := b__law_numbers) (N := N__law_numbers) (ps := ["_law_pen_here", "_law_most"]) rfl rfl G sc__law_numbers fun cdv A outer s0 H E p hr hgu => d__law_numbers Z hF__law_draw hr hgu
abbrev N__law_small : List Str := ["_law_pen_here", "_law_span", "_law_many", "_law_kind"]
theorem sc__law_small : FnScope N__law_small ["_law_pen_here"] (defScope st__law_small) := ⟨rfl, rfl, rfl, by decide +kernel, rfl, by decide +kernel, by decide +kernel⟩
theorem d__law_small (Z : Tx K mg) (hF__law_draw : FnC P w K mg base 1 "_law_draw" (spF1 K mg false 2 f__law_draw) ["_law_pen_here", "_law_many"] []) {f : Addr} {cdv : Value} {A : Around} {outer : List Env} {s0 : Shared} {H : Hp} {E : XK} {p : Addr} (hr : Room 1 (A.deeper (envOfC "_law_small" (defScope st__law_small) s0.heap.objs.size f cdv))) (hgu : A.guards = some []) : JSs (cxOf (L2N.CX P w) P w K mg base N__law_small "_law_small" (defScope st__law_small) f cdv A outer s0 H E) [(0, p)] (WE0 E) (defBody st__law_small) b__law_small := by
  have hp : Pl (cxOf (L2N.CX P w) P w K mg base N__law_small "_law_small" (defScope st__law_small) f cdv A outer s0 H E) 1 := ⟨hr, hgu⟩
  exact (js_cons (js_if (jt_cmp (o_eq hp.u64) (jv_c1 0 ⟨hF__law_draw⟩ hp (L2N.takes_of rfl rfl rfl rfl) nodd (by rfl) (by rfl) (Or.inl rfl) (jl_cons jv_int jl_nil)) jv_int) (js_cons (js_par3 (noP_cons (by decide) noP_nil) (noP_cons (by decide) noP_nil) (noP_cons (by decide) noP_nil) rfl sc__law_small.nd rfl rfl rfl (by decide) (by decide) (by decide) rfl rfl rfl (jl_cons (jv_bin o_add jv_int (jv_c1 0 ⟨hF__law_draw⟩ hp (L2N.takes_of rfl rfl rfl rfl) nodd (by rfl) (by rfl) (Or.inl rfl) (jl_cons jv_int jl_nil))) (jl_cons (jv_c1 0 ⟨hF__law_draw⟩ hp (L2N.takes_of rfl rfl rfl rfl) nodd (by rfl) (by rfl) (Or.inl rfl) (jl_cons jv_int jl_nil)) (jl_cons (jv_c1 0 ⟨hF__law_draw⟩ hp (L2N.takes_of rfl rfl rfl rfl) nodd (by rfl) (by rfl) (Or.inl rfl) (jl_cons jv_int jl_nil)) jl_nil))).ja)
    (js_one (js_ret (jv_tup (jl_cons (jv_bin o_mul (jv_name 2 rfl (Or.inl rfl)) (jv_name 3 rfl (Or.inl rfl))) (jl_cons (jv_bin o_mul (jv_name 2 rfl (Or.inl rfl)) (jv_bin o_sub jv_int (jv_name 3 rfl (Or.inl rfl)))) (jl_cons (jv_name 1 rfl (Or.inl rfl)) (jl_cons jv_int jl_nil)))).ja)))) js_nil)
    (js_cons (js_set (noP_cons (by decide) noP_nil) sc__law_small.nd rfl (Or.inl rfl) (jv_bin o_add jv_int (jv_c1 0 ⟨hF__law_draw⟩ hp (L2N.takes_of rfl rfl rfl rfl) nodd (by rfl) (by rfl) (Or.inl rfl) (jl_cons jv_int jl_nil))))
    (js_one (js_ret (jv_tup (jl_cons (jv_c1 0 ⟨hF__law_draw⟩ hp (L2N.takes_of rfl rfl rfl rfl) nodd (by rfl) (by rfl) (Or.inl rfl) (jl_cons jv_int jl_nil)) (jl_cons (jv_c1 0 ⟨hF__law_draw⟩ hp (L2N.takes_of rfl rfl rfl rfl) nodd (by rfl) (by rfl) (Or.inl rfl) (jl_cons jv_int jl_nil)) (jl_cons (jv_name 1 rfl (Or.inl rfl)) (jl_cons (jv_bin o_add jv_int (jv_bin o_mul (jv_c1 0 ⟨hF__law_draw⟩ hp (L2N.takes_of rfl rfl rfl rfl) nodd (by rfl) (by rfl) (Or.inl rfl) (jl_cons jv_int jl_nil)) (jv_callTy c_int (by rfl) Z.f_int bt_int (jl_cons (jv_cmp (p_lt hp) (jv_name 1 rfl (Or.inl rfl)) jv_int) jl_nil).ja))) jl_nil)))).ja)))))
theorem ok__law_small (Z : Tx K mg) (hF__law_draw : FnC P w K mg base 1 "_law_draw" (spF1 K mg false 2 f__law_draw) ["_law_pen_here", "_law_many"] []) {f : Addr} {fd : FuncData} {kws : List (Str × V)} (G : FunD K "_law_small" "_law_small" (defArgs st__law_small) (defBody st__law_small) (defScope st__law_small) [] kws f fd) : FnG P w K mg base 2 f fd ["_law_pen_here"] (spF1 K mg false 1 f__law_small) :=
  fn1 (P := P) (w := w) (mg := mg) (base := base) (ro := false) (s := b__law_small) (N := N__law_small) (ps := ["_law_pen_here"]) rfl rfl G sc__law_small fun cdv A outer s0 H E p hr hgu => d__law_small Z hF__law_draw hr hgu
abbrev N__law_checks : List Str := ["_law_pen_here", "_law_most", "_law_size", "_law_way", "_law_found", "_law_k"]
theorem sc__law_checks : FnScope N__law_checks ["_law_pen_here", "_law_most"] (defScope st__law_checks) := ⟨rfl, rfl, rfl, by decide +kernel, rfl, by decide +kernel, by decide +kernel⟩
theorem d__law_checks (Z : Tx K mg) (hF__law_draw : FnC P w K mg base 1 "_law_draw" (spF1 K mg false 2 f__law_draw) ["_law_pen_here", "_law_many"] []) {f : Addr} {cdv : Value} {A : Around} {outer : List Env} {s0 : Shared} {H : Hp} {E : XK} {p : Addr} (hr : Room 1 (A.deeper (envOfC "_law_checks" (defScope st__law_checks) s0.heap.objs.size f cdv))) (hgu : A.guards = some []) : JSs (cxOf (L2N.CX P w) P w K mg base N__law_checks "_law_checks" (defScope st__law_checks) f cdv A outer s0 H E) [(0, p)] (WE0 E) (defBody st__law_checks) b__law_checks := by
  have hp : Pl (cxOf (L2N.CX P w) P w K mg base N__law_checks "_law_checks" (defScope st__law_checks) f cdv A outer s0 H E) 1 := ⟨hr, hgu⟩
  exact (js_cons (js_par3 (noP_cons (by decide) noP_nil) (noP_cons (by decide) noP_nil) (noP_cons (by decide) noP_nil) rfl sc__law_checks.nd rfl rfl rfl (by decide) (by decide) (by decide) rfl rfl rfl (jl_cons (jv_c1 0 ⟨hF__law_draw⟩ hp (L2N.takes_of rfl rfl rfl rfl) nodd (by rfl) (by rfl) (Or.inl rfl) (jl_cons (jv_bin o_add (jv_name 1 rfl (Or.inl rfl)) jv_int) jl_nil)) (jl_cons (jv_c1 0 ⟨hF__law_draw⟩ hp (L2N.takes_of rfl rfl rfl rfl) nodd (by rfl) (by rfl) (Or.inl rfl) (jl_cons jv_int jl_nil)) (jl_cons jv_str jl_nil))).ja)
    (js_cons (js_for (passes_of rfl) rfl (ji_range1 (by rfl) Z.f_range (jl_cons (jv_name 2 rfl (Or.inl rfl)) jl_nil).ja) (jg_name (noP_cons (by decide) noP_nil) sc__law_checks.nd rfl (Or.inl rfl)) ne_name
    (js_one (js_if (ofW (jw_and (jt_cmp p_gt (jv_name 3 rfl (Or.inl rfl)) jv_int) (jw_and (jt_cmp (o_ne hp.u64) (jv_name 4 rfl (Or.inl rfl)) jv_str) (jw_and1 (jt_cmp p_gt (jv_c1 0 ⟨hF__law_draw⟩ hp (L2N.takes_of rfl rfl rfl rfl) nodd (by rfl) (by rfl) (Or.inl rfl) (jl_cons (jv_bin o_add jv_int (jv_name 3 rfl (Or.inl rfl))) jl_nil)) jv_int))))) (js_one (js_set (noP_cons (by decide) noP_nil) sc__law_checks.nd rfl (Or.inl rfl) (jv_bin o_add (jv_name 4 rfl (Or.inl rfl)) (jv_ix (jv_name 4 rfl (Or.inl rfl)) (jv_neg jv_int))))) (js_one (js_set (noP_cons (by decide) noP_nil) sc__law_checks.nd rfl (Or.inl rfl) (jv_bin o_add (jv_name 4 rfl (Or.inl rfl)) (jv_ix jv_str (jv_c1 0 ⟨hF__law_draw⟩ hp (L2N.takes_of rfl rfl rfl rfl) nodd (by rfl) (by rfl) (Or.inl rfl) (jl_cons jv_int jl_nil)))))))))
    (js_one (js_ret (jv_name 4 rfl (Or.inl rfl))))))
theorem ok__law_checks (Z : Tx K mg) (hF__law_draw : FnC P w K mg base 1 "_law_draw" (spF1 K mg false 2 f__law_draw) ["_law_pen_here", "_law_many"] []) {f : Addr} {fd : FuncData} {kws : List (Str × V)} (G : FunD K "_law_checks" "_law_checks" (defArgs st__law_checks) (defBody st__law_checks) (defScope st__law_checks) [] kws f fd) : FnG P w K mg base 2 f fd ["_law_pen_here", "_law_most"] (spF1 K mg false 2 f__law_checks) :=
  fn1 (P := P) (w := w) (mg := mg) (base := base) (ro := false) (s := b__law_checks) (N := N__law_checks) (ps := ["_law_pen_here", "_law_most"]) rfl rfl G sc__law_checks fun cdv A outer s0 H E p hr hgu => d__law_checks Z hF__law_draw hr hgu
abbrev N_is_integer : List Str := ["value"]
theorem sc_is_integer : FnScope N_is_integer ["value"] (defScope st_is_integer) := ⟨rfl, rfl, rfl, by decide +kernel, rfl, by decide +kernel, by decide +kernel⟩
theorem d_is_integer (Z : Tx K mg)  {f : Addr} {cdv : Value} {A : Around} {outer : List Env} {s0 : Shared} {H : Hp} {E : XK} (hr : Room 0 (A.deeper (envOfC "is_integer" (defScope st_is_integer) s0.heap.objs.size f cdv))) (hgu : A.guards = some []) : JSs (cxOf (L2N.CX P w) P w K mg base N_is_integer "is_integer" (defScope st_is_integer) f cdv A outer s0 H E) [] (WE0 E) (defBody st_is_integer) b_is_integer := by
  have hp : Pl (cxOf (L2N.CX P w) P w K mg base N_is_integer "is_integer" (defScope st_is_integer) f cdv A outer s0 H E) 0 := ⟨hr, hgu⟩
  exact (js_one (js_ret (jv_and (jv_isiB Z.i_int (by rfl) Z.f_isinstance (by rfl) Z.f_int bt_int (jv_name 0 rfl (Or.inl rfl))) (jv_one (jv_not (jv_isiB Z.i_bool (by rfl) Z.f_isinstance (by rfl) Z.f_bool bt_bool (jv_name 0 rfl (Or.inl rfl))))))))
theorem ok_is_integer (Z : Tx K mg)  {f : Addr} {fd : FuncData} {kws : List (Str × V)} (G : FunD K "is_integer" "is_integer" (defArgs st_is_integer) (defBody st_is_integer) (defScope st_is_integer) [] kws f fd) : FnG P w K mg base 1 f fd ["value"] (spF0 K mg false 1 f_is_integer) :=
  fn0 (P := P) (w := w) (mg := mg) (base := base) (ro := false) (s := b_is_integer) (N := N_is_integer) (ps := ["value"]) rfl rfl G sc_is_integer fun cdv A outer s0 H E hr hgu => d_is_integer Z  hr hgu
abbrev N_is_between : List Str := ["value", "low", "high"]
theorem sc_is_between : FnScope N_is_between ["value", "low", "high"] (defScope st_is_between) := ⟨rfl, rfl, rfl, by decide +kernel, rfl, by decide +kernel, by decide +kernel⟩
theorem d_is_between (Z : Tx K mg) (hF_is_integer : FnC P w K mg base 1 "is_integer" (spF0 K mg false 1 f_is_integer) ["value"] []) {f : Addr} {cdv : Value} {A : Around} {outer : List Env} {s0 : Shared} {H : Hp} {E : XK} (hr : Room 1 (A.deeper (envOfC "is_between" (defScope st_is_between) s0.heap.objs.size f cdv))) (hgu : A.guards = some []) : JSs (cxOf (L2N.CX P w) P w K mg base N_is_between "is_between" (defScope st_is_between) f cdv A outer s0 H E) [] (WE0 E) (defBody st_is_between) b_is_between := by
  have hp : Pl (cxOf (L2N.CX P w) P w K mg base N_is_between "is_between" (defScope st_is_between) f cdv A outer s0 H E) 1 := ⟨hr, hgu⟩
  exact (js_one (js_ret (jv_and (jv_c0 ⟨hF_is_integer⟩ hp (L2N.takes_of rfl rfl rfl rfl) nodd (by rfl) (jl_cons (jv_name 0 rfl (Or.inl rfl)) jl_nil)) (jv_one (jv_chain p_le p_le (jv_name 1 rfl (Or.inl rfl)) (jv_name 0 rfl (Or.inl rfl)) (jv_name 2 rfl (Or.inl rfl)))))))
theorem ok_is_between (Z : Tx K mg) (hF_is_integer : FnC P w K mg base 1 "is_integer" (spF0 K mg false 1 f_is_integer) ["value"] []) {f : Addr} {fd : FuncData} {kws : List (Str × V)} (G : FunD K "is_between" "is_between" (defArgs st_is_between) (defBody st_is_between) (defScope st_is_between) [] kws f fd) : FnG P w K mg base 2 f fd ["value", "low", "high"] (spF0 K mg false 3 f_is_between) :=
  fn0 (P := P) (w := w) (mg := mg) (base := base) (ro := false) (s := b_is_between) (N := N_is_between) (ps := ["value", "low", "high"]) rfl rfl G sc_is_between fun cdv A outer s0 H E hr hgu => d_is_between Z hF_is_integer hr hgu
abbrev N_LimitsU_initU : List Str := ["self", "false_passes", "false_fails", "span", "settled", "bounds", "value", "low", "high"]
theorem sc_LimitsU_initU : FnScope N_LimitsU_initU ["self", "false_passes", "false_fails", "span", "settled"] (defScope st_LimitsU_initU) := ⟨rfl, rfl, rfl, by decide +kernel, rfl, by decide +kernel, by decide +kernel⟩
theorem d_LimitsU_initU (Z : Tx K mg) (hF_is_between : FnC P w K mg base 2 "is_between" (spF0 K mg false 3 f_is_between) ["value", "low", "high"] []) {f : Addr} {cdv : Value} {A : Around} {outer : List Env} {s0 : Shared} {H : Hp} {E : XK} {p : Addr} (hr : Room 2 (A.deeper (envOfC "Limits.__init__" (defScope st_LimitsU_initU) s0.heap.objs.size f cdv))) (hgu : A.guards = some []) : JSs (cxOf (L2N.CX P w) P w K mg base N_LimitsU_initU "Limits.__init__" (defScope st_LimitsU_initU) f cdv A outer s0 H E) [(0, p)] (WE0 E) (defBody st_LimitsU_initU) b_LimitsU_initU := by
  have hp : Pl (cxOf (L2N.CX P w) P w K mg base N_LimitsU_initU "Limits.__init__" (defScope st_LimitsU_initU) f cdv A outer s0 H E) 2 := ⟨hr, hgu⟩
  exact (js_cons (js_set (noP_cons (by decide) noP_nil) sc_LimitsU_initU.nd rfl (Or.inl rfl) (jv_tup (jl_cons (jv_tup (jl_cons (jv_name 1 rfl (Or.inl rfl)) (jl_cons jv_int (jl_cons (jv_gI (by rfl) Z.c_MOST_FALSE) jl_nil))).ja) (jl_cons (jv_tup (jl_cons (jv_name 2 rfl (Or.inl rfl)) (jl_cons jv_int (jl_cons (jv_gI (by rfl) Z.c_MOST_FALSE) jl_nil))).ja) (jl_cons (jv_tup (jl_cons (jv_name 3 rfl (Or.inl rfl)) (jl_cons jv_int (jl_cons (jv_gI (by rfl) Z.c_MOST_SPAN) jl_nil))).ja) jl_nil))).ja))
    (js_cons (js_for (passes_of rfl) rfl (ji_v (jv_bin o_add (jv_name 5 rfl (Or.inl rfl)) (jv_tup (jl_cons (jv_tup (jl_cons (jv_name 4 rfl (Or.inl rfl)) (jl_cons jv_int (jl_cons (jv_gI (by rfl) Z.c_MOST_SETTLED) jl_nil))).ja) jl_nil).ja))) (jg_tup rfl (jgs_cons (jg_name (noP_cons (by decide) noP_nil) sc_LimitsU_initU.nd rfl (Or.inl rfl)) (jgs_cons (jg_name (noP_cons (by decide) noP_nil) sc_LimitsU_initU.nd rfl (Or.inl rfl)) (jgs_cons (jg_name (noP_cons (by decide) noP_nil) sc_LimitsU_initU.nd rfl (Or.inl rfl)) jgs_nil)))) (ne_tup (nes_cons ne_name (nes_cons ne_name (nes_cons ne_name nes_nil))))
    (js_one (js_if (jt_not (jt_val (jv_c0 ⟨hF_is_between⟩ hp (L2N.takes_of rfl rfl rfl rfl) nodd (by rfl) (jl_cons (jv_name 6 rfl (Or.inl rfl)) (jl_cons (jv_name 7 rfl (Or.inl rfl)) (jl_cons (jv_name 8 rfl (Or.inl rfl)) jl_nil)))))) (js_one (js_raise rfl (L2N.takes_of rfl rfl rfl rfl) Z.x_NumberError (by rfl))) js_nil)))
    (js_cons (js_asg (jv_tup (jl_cons (jv_name 1 rfl (Or.inl rfl)) (jl_cons (jv_name 2 rfl (Or.inl rfl)) jl_nil)).ja) (jg_tup rfl (jgs_cons (jg_attr ⟨Z.k_Limits, Z.cl_Limits⟩ Z.n_Limits_most_passes rfl (Or.inl rfl)) (jgs_cons (jg_attr ⟨Z.k_Limits, Z.cl_Limits⟩ Z.n_Limits_most_fails rfl (Or.inl rfl)) jgs_nil))) (ne_tup (nes_cons ne_attr (nes_cons ne_attr nes_nil))))
    (js_one (js_asg (jv_tup (jl_cons (jv_name 3 rfl (Or.inl rfl)) (jl_cons (jv_name 4 rfl (Or.inl rfl)) jl_nil)).ja) (jg_tup rfl (jgs_cons (jg_attr ⟨Z.k_Limits, Z.cl_Limits⟩ Z.n_Limits_most_checks rfl (Or.inl rfl)) (jgs_cons (jg_attr ⟨Z.k_Limits, Z.cl_Limits⟩ Z.n_Limits_least_stay rfl (Or.inl rfl)) jgs_nil))) (ne_tup (nes_cons ne_attr (nes_cons ne_attr nes_nil))))))))
theorem ok_LimitsU_initU (Z : Tx K mg) (hF_is_between : FnC P w K mg base 2 "is_between" (spF0 K mg false 3 f_is_between) ["value", "low", "high"] []) {f : Addr} {fd : FuncData} {kws : List (Str × V)} (G : FunD K "__init__" "Limits.__init__" (defArgs st_LimitsU_initU) (defBody st_LimitsU_initU) (defScope st_LimitsU_initU) [] kws f fd) : FnG P w K mg base 3 f fd ["self", "false_passes", "false_fails", "span", "settled"] (spF1 K mg false 5 f_LimitsU_initU) :=
  fn1 (P := P) (w := w) (mg := mg) (base := base) (ro := false) (s := b_LimitsU_initU) (N := N_LimitsU_initU) (ps := ["self", "false_passes", "false_fails", "span", "settled"]) rfl rfl G sc_LimitsU_initU fun cdv A outer s0 H E p hr hgu => d_LimitsU_initU Z hF_is_between hr hgu
abbrev N__law_limits : List Str := ["_law_numbers_here"]
theorem sc__law_limits : FnScope N__law_limits ["_law_numbers_here"] (defScope st__law_limits) := ⟨rfl, rfl, rfl, by decide +kernel, rfl, by decide +kernel, by decide +kernel⟩
theorem d__law_limits (Z : Tx K mg) (hM_Limits_3_settled : ∃ f fd g, Mk K (He.ga K "Limits") f ∧ FnG P w K mg base 3 f fd ["self", "false_passes", "false_fails", "span", "settled"] (spF1 K mg false 5 f_LimitsU_initU) ∧ KBn K fd ["self", "false_passes", "false_fails", "span", "settled"] 4 ["settled"] g gV_Limits_3_settled) {f : Addr} {cdv : Value} {A : Around} {outer : List Env} {s0 : Shared} {H : Hp} {E : XK} (hr : Room 4 (A.deeper (envOfC "_law_limits" (defScope st__law_limits) s0.heap.objs.size f cdv))) (hgu : A.guards = some []) : JSs (cxOf (L2N.CX P w) P w K mg base N__law_limits "_law_limits" (defScope st__law_limits) f cdv A outer s0 H E) [] (WE0 E) (defBody st__law_limits) b__law_limits := by
  have hp : Pl (cxOf (L2N.CX P w) P w K mg base N__law_limits "_law_limits" (defScope st__law_limits) f cdv A outer s0 H E) 4 := ⟨hr, hgu⟩
  exact (js_one (js_ret (ofO (jo_make (C := He.ga K "Limits") ⟨⟨Z.k_Limits, Z.cl_Limits⟩, hM_Limits_3_settled⟩ (hp.room.mono (by decide)) hp.gu (L2N.takes_of rfl rfl rfl rfl) (by rfl) (jl_cons (jv_ix (jv_name 0 rfl (Or.inl rfl)) jv_int) (jl_cons (jv_ix (jv_name 0 rfl (Or.inl rfl)) jv_int) (jl_cons (jv_ix (jv_name 0 rfl (Or.inl rfl)) jv_int) jl_nil))) (jk_cons (jv_ix (jv_name 0 rfl (Or.inl rfl)) jv_int) jk_nil) rel_Limits_3_settled))))
theorem ok__law_limits (Z : Tx K mg) (hM_Limits_3_settled : ∃ f fd g, Mk K (He.ga K "Limits") f ∧ FnG P w K mg base 3 f fd ["self", "false_passes", "false_fails", "span", "settled"] (spF1 K mg false 5 f_LimitsU_initU) ∧ KBn K fd ["self", "false_passes", "false_fails", "span", "settled"] 4 ["settled"] g gV_Limits_3_settled) {f : Addr} {fd : FuncData} {kws : List (Str × V)} (G : FunD K "_law_limits" "_law_limits" (defArgs st__law_limits) (defBody st__law_limits) (defScope st__law_limits) [] kws f fd) : FnG P w K mg base 5 f fd ["_law_numbers_here"] (spF0 K mg false 1 f__law_limits) :=
  fn0 (P := P) (w := w) (mg := mg) (base := base) (ro := false) (s := b__law_limits) (N := N__law_limits) (ps := ["_law_numbers_here"]) rfl rfl G sc__law_limits fun cdv A outer s0 H E hr hgu => d__law_limits Z hM_Limits_3_settled hr hgu
abbrev N__law_flag : List Str := ["_law_state", "_law_check"]
theorem sc__law_flag : FnScope N__law_flag ["_law_state", "_law_check"] (defScope st__law_flag) := ⟨rfl, rfl, rfl, by decide +kernel, rfl, by decide +kernel, by decide +kernel⟩
theorem d__law_flag (Z : Tx K mg)  {f : Addr} {cdv : Value} {A : Around} {outer : List Env} {s0 : Shared} {H : Hp} {E : XK} (hr : Room 0 (A.deeper (envOfC "_law_flag" (defScope st__law_flag) s0.heap.objs.size f cdv))) (hgu : A.guards = some []) : JSs (cxOf (L2N.CX P w) P w K mg base N__law_flag "_law_flag" (defScope st__law_flag) f cdv A outer s0 H E) [] (WE0 E) (defBody st__law_flag) b__law_flag := by
  have hp : Pl (cxOf (L2N.CX P w) P w K mg base N__law_flag "_law_flag" (defScope st__law_flag) f cdv A outer s0 H E) 0 := ⟨hr, hgu⟩
  exact (js_one (js_ret (jv_dget hp (ofO (jo_disp (jps_cons jv_str jv_str (jps_cons jv_str jv_str (jps_cons jv_str jv_str (jps_cons jv_str jv_str jps_nil)))))) (jv_bin o_add (jv_name 0 rfl (Or.inl rfl)) (jv_name 1 rfl (Or.inl rfl))))))
theorem ok__law_flag (Z : Tx K mg)  {f : Addr} {fd : FuncData} {kws : List (Str × V)} (G : FunD K "_law_flag" "_law_flag" (defArgs st__law_flag) (defBody st__law_flag) (defScope st__law_flag) [] kws f fd) : FnG P w K mg base 1 f fd ["_law_state", "_law_check"] (spF0 K mg false 2 f__law_flag) :=
  fn0 (P := P) (w := w) (mg := mg) (base := base) (ro := false) (s := b__law_flag) (N := N__law_flag) (ps := ["_law_state", "_law_check"]) rfl rfl G sc__law_flag fun cdv A outer s0 H E hr hgu => d__law_flag Z  hr hgu
abbrev N__law_let : List Str := ["_law_numbers_here", "_law_flags"]
theorem sc__law_let : FnScope N__law_let ["_law_numbers_here", "_law_flags"] (defScope st__law_let) := ⟨rfl, rfl, rfl, by decide +kernel, rfl, by decide +kernel, by decide +kernel⟩
theorem d__law_let (Z : Tx K mg)  {f : Addr} {cdv : Value} {A : Around} {outer : List Env} {s0 : Shared} {H : Hp} {E : XK} (hr : Room 0 (A.deeper (envOfC "_law_let" (defScope st__law_let) s0.heap.objs.size f cdv))) (hgu : A.guards = some []) : JSs (cxOf (L2N.CX P w) P w K mg base N__law_let "_law_let" (defScope st__law_let) f cdv A outer s0 H E) [] (WE0 E) (defBody st__law_let) b__law_let := by
  have hp : Pl (cxOf (L2N.CX P w) P w K mg base N__law_let "_law_let" (defScope st__law_let) f cdv A outer s0 H E) 0 := ⟨hr, hgu⟩
  exact (js_one (js_ret (jv_and (jv_cmp p_le (jv_mt PySem.F.slot_str_count PySem.F.type_str_count m_count (jv_name 1 rfl (Or.inl rfl)) (jl_cons jv_str jl_nil).ja) (jv_ix (jv_name 0 rfl (Or.inl rfl)) jv_int)) (jv_one (jv_cmp p_le (jv_mt PySem.F.slot_str_count PySem.F.type_str_count m_count (jv_name 1 rfl (Or.inl rfl)) (jl_cons jv_str jl_nil).ja) (jv_ix (jv_name 0 rfl (Or.inl rfl)) jv_int))))))
theorem ok__law_let (Z : Tx K mg)  {f : Addr} {fd : FuncData} {kws : List (Str × V)} (G : FunD K "_law_let" "_law_let" (defArgs st__law_let) (defBody st__law_let) (defScope st__law_let) [] kws f fd) : FnG P w K mg base 1 f fd ["_law_numbers_here", "_law_flags"] (spF0 K mg false 2 f__law_let) :=
  fn0 (P := P) (w := w) (mg := mg) (base := base) (ro := false) (s := b__law_let) (N := N__law_let) (ps := ["_law_numbers_here", "_law_flags"]) rfl rfl G sc__law_let fun cdv A outer s0 H E hr hgu => d__law_let Z  hr hgu
abbrev N__law_allowed : List Str := ["_law_numbers_here", "_law_states", "_law_checks_here", "_law_flags", "_law_at", "_law_starts"]
theorem sc__law_allowed : FnScope N__law_allowed ["_law_numbers_here", "_law_states", "_law_checks_here"] (defScope st__law_allowed) := ⟨rfl, rfl, rfl, by decide +kernel, rfl, by decide +kernel, by decide +kernel⟩
theorem d__law_allowed (Z : Tx K mg) (hF__law_flag : FnC P w K mg base 1 "_law_flag" (spF0 K mg false 2 f__law_flag) ["_law_state", "_law_check"] []) (hF__law_let : FnC P w K mg base 1 "_law_let" (spF0 K mg false 2 f__law_let) ["_law_numbers_here", "_law_flags"] []) {f : Addr} {cdv : Value} {A : Around} {outer : List Env} {s0 : Shared} {H : Hp} {E : XK} (hr : Room 1 (A.deeper (envOfC "_law_allowed" (defScope st__law_allowed) s0.heap.objs.size f cdv))) (hgu : A.guards = some []) : JSs (cxOf (L2N.CX P w) P w K mg base N__law_allowed "_law_allowed" (defScope st__law_allowed) f cdv A outer s0 H E) [] (WE0 E) (defBody st__law_allowed) b__law_allowed := by
  have hp : Pl (cxOf (L2N.CX P w) P w K mg base N__law_allowed "_law_allowed" (defScope st__law_allowed) f cdv A outer s0 H E) 1 := ⟨hr, hgu⟩
  exact (js_cons (js_set noP_nil sc__law_allowed.nd rfl (Or.inl rfl) jv_str)
    (js_cons (js_for (passes_of rfl) rfl (ji_range1 (by rfl) Z.f_range (jl_cons (jv_callV1 c_len (by rfl) Z.f_len bt_len (jv_name 2 rfl (Or.inl rfl))) jl_nil).ja) (jg_name noP_nil sc__law_allowed.nd rfl (Or.inl rfl)) ne_name
    (js_one (js_set noP_nil sc__law_allowed.nd rfl (Or.inl rfl) (jv_bin o_add (jv_name 3 rfl (Or.inl rfl)) (jv_c0 ⟨hF__law_flag⟩ hp (L2N.takes_of rfl rfl rfl rfl) nodd (by rfl) (jl_cons (jv_ix (jv_name 1 rfl (Or.inr (Or.inl rfl))) (jv_name 4 rfl (Or.inl rfl))) (jl_cons (jv_ix (jv_name 2 rfl (Or.inl rfl)) (jv_name 4 rfl (Or.inl rfl))) jl_nil)))))))
    (js_cons (js_for (passes_of rfl) rfl (ji_range1 (by rfl) Z.f_range (jl_cons (jv_callV1 c_len (by rfl) Z.f_len bt_len (jv_name 3 rfl (Or.inl rfl))) jl_nil).ja) (jg_name noP_nil sc__law_allowed.nd rfl (Or.inl rfl)) ne_name
    (js_one (js_if (jt_not (jt_val (jv_c0 ⟨hF__law_let⟩ hp (L2N.takes_of rfl rfl rfl rfl) nodd (by rfl) (jl_cons (jv_name 0 rfl (Or.inl rfl)) (jl_cons (jv_slice (jv_name 3 rfl (Or.inl rfl)) (jp_some (jv_name 4 rfl (Or.inl rfl))) (jp_some (jv_bin o_add (jv_name 4 rfl (Or.inl rfl)) (jv_ix (jv_name 0 rfl (Or.inl rfl)) jv_int)))) jl_nil))))) (js_one (js_ret jv_bl)) js_nil)))
    (js_cons (js_setLc [("_law_at", 4)] hp rfl sc__law_allowed.nd noPs_nil (blkOk_by (by rfl)) noP_nil rfl rfl (sw_true rfl rfl rfl rfl) (ji_range2 (by rfl) Z.f_range (jl_cons jv_int (jl_cons (jv_callV1 c_len (by rfl) Z.f_len bt_len (jv_name 1 rfl (Or.inr (Or.inl rfl)))) jl_nil)).ja) (fun s1 H1 C1 cl1 fp1 hp => (jh_name noP_nil sc__law_allowed.nd rfl (Or.inl rfl) (by decide))) (fun s1 H1 C1 cl1 fp1 hp => (jts_one (jt_cmp (o_ne hp.u64) (jv_ix (jv_name 1 rfl (Or.inr (Or.inl rfl))) (jv_name 4 rfl (Or.inl rfl))) (jv_ix (jv_name 1 rfl (Or.inr (Or.inl rfl))) (jv_bin o_sub (jv_name 4 rfl (Or.inl rfl)) jv_int))))) (fun s1 H1 C1 cl1 fp1 hp => (jv_name 4 rfl (Or.inl rfl))))
    (js_cons (js_for (passes_of rfl) rfl (ji_range2 (by rfl) Z.f_range (jl_cons jv_int (jl_cons (jv_callV1 c_len (by rfl) Z.f_len bt_len (jv_name 5 rfl (Or.inl rfl))) jl_nil)).ja) (jg_name noP_nil sc__law_allowed.nd rfl (Or.inl rfl)) ne_name
    (js_one (js_if (jt_cmp (p_lt hp) (jv_bin o_sub (jv_ix (jv_name 5 rfl (Or.inl rfl)) (jv_name 4 rfl (Or.inl rfl))) (jv_ix (jv_name 5 rfl (Or.inl rfl)) (jv_bin o_sub (jv_name 4 rfl (Or.inl rfl)) jv_int))) (jv_ix (jv_name 0 rfl (Or.inl rfl)) jv_int)) (js_one (js_ret jv_bl)) js_nil)))
    (js_one (js_ret jv_bl)))))))
theorem ok__law_allowed (Z : Tx K mg) (hF__law_flag : FnC P w K mg base 1 "_law_flag" (spF0 K mg false 2 f__law_flag) ["_law_state", "_law_check"] []) (hF__law_let : FnC P w K mg base 1 "_law_let" (spF0 K mg false 2 f__law_let) ["_law_numbers_here", "_law_flags"] []) {f : Addr} {fd : FuncData} {kws : List (Str × V)} (G : FunD K "_law_allowed" "_law_allowed" (defArgs st__law_allowed) (defBody st__law_allowed) (defScope st__law_allowed) [] kws f fd) : FnG P w K mg base 2 f fd ["_law_numbers_here", "_law_states", "_law_checks_here"] (spF0 K mg false 3 f__law_allowed) :=
  fn0 (P := P) (w := w) (mg := mg) (base := base) (ro := false) (s := b__law_allowed) (N := N__law_allowed) (ps := ["_law_numbers_here", "_law_states", "_law_checks_here"]) rfl rfl G sc__law_allowed fun cdv A outer s0 H E hr hgu => d__law_allowed Z hF__law_flag hF__law_let hr hgu
abbrev N__law_log : List Str := ["_law_numbers_here", "_law_checks_here", "_law_found", "_law_at", "_law_wider", "_law_states"]
theorem sc__law_log : FnScope N__law_log ["_law_numbers_here", "_law_checks_here"] (defScope st__law_log) := ⟨rfl, rfl, rfl, by decide +kernel, rfl, by decide +kernel, by decide +kernel⟩
theorem d__law_log (Z : Tx K mg) (hF__law_allowed : FnC P w K mg base 2 "_law_allowed" (spF0 K mg false 3 f__law_allowed) ["_law_numbers_here", "_law_states", "_law_checks_here"] []) {f : Addr} {cdv : Value} {A : Around} {outer : List Env} {s0 : Shared} {H : Hp} {E : XK} (hr : Room 2 (A.deeper (envOfC "_law_log" (defScope st__law_log) s0.heap.objs.size f cdv))) (hgu : A.guards = some []) : JSs (cxOf (L2N.CX P w) P w K mg base N__law_log "_law_log" (defScope st__law_log) f cdv A outer s0 H E) [] (WE0 E) (defBody st__law_log) b__law_log := by
  have hp : Pl (cxOf (L2N.CX P w) P w K mg base N__law_log "_law_log" (defScope st__law_log) f cdv A outer s0 H E) 2 := ⟨hr, hgu⟩
  exact (js_cons (js_set noP_nil sc__law_log.nd rfl (Or.inl rfl) (ofO (jo_lst (jl_cons jv_str jl_nil).ja)))
    (js_cons (js_for (passes_of rfl) rfl (ji_range1 (by rfl) Z.f_range (jl_cons (jv_callV1 c_len (by rfl) Z.f_len bt_len (jv_name 1 rfl (Or.inr (Or.inl rfl)))) jl_nil).ja) (jg_name noP_nil sc__law_log.nd rfl (Or.inr rfl)) ne_name
    (js_cons (js_set noP_nil sc__law_log.nd rfl (Or.inl rfl) (jv_bin o_add (ofO (jo_lc [("_law_states", 5)] hp rfl sc__law_log.nd noPs_nil (blkOk_by (by rfl)) (ji_v (jv_name 2 rfl (Or.inl rfl))) (fun s1 H1 C1 cl1 fp1 hp => (jh_name noP_nil sc__law_log.nd rfl (Or.inl rfl) (by decide))) (fun s1 H1 C1 cl1 fp1 hp => jts_nil) (fun s1 H1 C1 cl1 fp1 hp => (jv_bin o_add (jv_name 5 rfl (Or.inl rfl)) jv_str)))) (ofO (jo_lc [("_law_states", 5)] hp rfl sc__law_log.nd noPs_nil (blkOk_by (by rfl)) (ji_v (jv_name 2 rfl (Or.inl rfl))) (fun s1 H1 C1 cl1 fp1 hp => (jh_name noP_nil sc__law_log.nd rfl (Or.inl rfl) (by decide))) (fun s1 H1 C1 cl1 fp1 hp => jts_nil) (fun s1 H1 C1 cl1 fp1 hp => (jv_bin o_add (jv_name 5 rfl (Or.inl rfl)) jv_str))))))
    (js_one (js_setLc [("_law_states", 5)] hp rfl sc__law_log.nd noPs_nil (blkOk_by (by rfl)) noP_nil rfl rfl (sw_true rfl rfl rfl rfl) (ji_v (jv_name 4 rfl (Or.inl rfl))) (fun s1 H1 C1 cl1 fp1 hp => (jh_name noP_nil sc__law_log.nd rfl (Or.inl rfl) (by decide))) (fun s1 H1 C1 cl1 fp1 hp => (jts_one (jt_val (jv_c0 ⟨hF__law_allowed⟩ hp Sr.takes0 nodd (by rfl) (jl_cons (jv_name 0 rfl (Or.inr (Or.inl rfl))) (jl_cons (jv_name 5 rfl (Or.inl rfl)) (jl_cons (jv_slice (jv_name 1 rfl (Or.inr (Or.inl rfl))) jp_none (jp_some (jv_bin o_add (jv_name 3 rfl (Or.inr (Or.inl rfl))) jv_int))) jl_nil))))))) (fun s1 H1 C1 cl1 fp1 hp => (jv_name 5 rfl (Or.inl rfl)))))))
    (js_one (js_ret (jv_name 2 rfl (Or.inl rfl))))))
theorem ok__law_log (Z : Tx K mg) (hF__law_allowed : FnC P w K mg base 2 "_law_allowed" (spF0 K mg false 3 f__law_allowed) ["_law_numbers_here", "_law_states", "_law_checks_here"] []) {f : Addr} {fd : FuncData} {kws : List (Str × V)} (G : FunD K "_law_log" "_law_log" (defArgs st__law_log) (defBody st__law_log) (defScope st__law_log) [] kws f fd) : FnG P w K mg base 3 f fd ["_law_numbers_here", "_law_checks_here"] (spF0 K mg false 2 f__law_log) :=
  fn0 (P := P) (w := w) (mg := mg) (base := base) (ro := false) (s := b__law_log) (N := N__law_log) (ps := ["_law_numbers_here", "_law_checks_here"]) rfl rfl G sc__law_log fun cdv A outer s0 H E hr hgu => d__law_log Z hF__law_allowed hr hgu
abbrev N__law_better : List Str := ["_law_one", "_law_other"]
theorem sc__law_better : FnScope N__law_better ["_law_one", "_law_other"] (defScope st__law_better) := ⟨rfl, rfl, rfl, by decide +kernel, rfl, by decide +kernel, by decide +kernel⟩
theorem d__law_better (Z : Tx K mg)  {f : Addr} {cdv : Value} {A : Around} {outer : List Env} {s0 : Shared} {H : Hp} {E : XK} (hr : Room 0 (A.deeper (envOfC "_law_better" (defScope st__law_better) s0.heap.objs.size f cdv))) (hgu : A.guards = some []) : JSs (cxOf (L2N.CX P w) P w K mg base N__law_better "_law_better" (defScope st__law_better) f cdv A outer s0 H E) [] (WE0 E) (defBody st__law_better) b__law_better := by
  have hp : Pl (cxOf (L2N.CX P w) P w K mg base N__law_better "_law_better" (defScope st__law_better) f cdv A outer s0 H E) 0 := ⟨hr, hgu⟩
  exact (js_cons (js_if (ofW (jw_or (jt_isN (jv_name 0 rfl (Or.inl rfl))) (jw_or (jt_cmp (p_lt hp) (jv_ix (jv_name 1 rfl (Or.inl rfl)) jv_int) (jv_ix (jv_name 0 rfl (Or.inl rfl)) jv_int)) (jw_or1 (ofW (jw_and (jt_cmp (o_eq hp.u64) (jv_ix (jv_name 1 rfl (Or.inl rfl)) jv_int) (jv_ix (jv_name 0 rfl (Or.inl rfl)) jv_int)) (jw_and1 (jt_cmp o_ltS (jv_ix (jv_name 1 rfl (Or.inl rfl)) jv_int) (jv_ix (jv_name 0 rfl (Or.inl rfl)) jv_int))))))))) (js_one (js_ret (jv_name 1 rfl (Or.inl rfl)))) js_nil)
    (js_one (js_ret (jv_name 0 rfl (Or.inl rfl)))))
theorem ok__law_better (Z : Tx K mg)  {f : Addr} {fd : FuncData} {kws : List (Str × V)} (G : FunD K "_law_better" "_law_better" (defArgs st__law_better) (defBody st__law_better) (defScope st__law_better) [] kws f fd) : FnG P w K mg base 1 f fd ["_law_one", "_law_other"] (spF0 K mg false 2 f__law_better) :=
  fn0 (P := P) (w := w) (mg := mg) (base := base) (ro := false) (s := b__law_better) (N := N__law_better) (ps := ["_law_one", "_law_other"]) rfl rfl G sc__law_better fun cdv A outer s0 H E hr hgu => d__law_better Z  hr hgu
abbrev N__law_due : List Str := ["_law_numbers_here", "_law_checks_here", "_law_best", "_law_states", "_law_many", "_law_at"]
theorem sc__law_due : FnScope N__law_due ["_law_numbers_here", "_law_checks_here"] (defScope st__law_due) := ⟨rfl, rfl, rfl, by decide +kernel, rfl, by decide +kernel, by decide +kernel⟩
theorem d__law_due (Z : Tx K mg) (hF__law_log : FnC P w K mg base 3 "_law_log" (spF0 K mg false 2 f__law_log) ["_law_numbers_here", "_law_checks_here"] []) (hF__law_flag : FnC P w K mg base 1 "_law_flag" (spF0 K mg false 2 f__law_flag) ["_law_state", "_law_check"] []) (hF__law_better : FnC P w K mg base 1 "_law_better" (spF0 K mg false 2 f__law_better) ["_law_one", "_law_other"] []) {f : Addr} {cdv : Value} {A : Around} {outer : List Env} {s0 : Shared} {H : Hp} {E : XK} (hr : Room 3 (A.deeper (envOfC "_law_due" (defScope st__law_due) s0.heap.objs.size f cdv))) (hgu : A.guards = some []) : JSs (cxOf (L2N.CX P w) P w K mg base N__law_due "_law_due" (defScope st__law_due) f cdv A outer s0 H E) [] (WE0 E) (defBody st__law_due) b__law_due := by
  have hp : Pl (cxOf (L2N.CX P w) P w K mg base N__law_due "_law_due" (defScope st__law_due) f cdv A outer s0 H E) 3 := ⟨hr, hgu⟩
  exact (js_cons (js_set noP_nil sc__law_due.nd rfl (Or.inl rfl) jv_non)
    (js_cons (js_for (passes_of rfl) rfl (ji_v (jv_c0 ⟨hF__law_log⟩ hp (L2N.takes_of rfl rfl rfl rfl) nodd (by rfl) (jl_cons (jv_name 0 rfl (Or.inl rfl)) (jl_cons (jv_name 1 rfl (Or.inr (Or.inl rfl))) jl_nil)))) (jg_name noP_nil sc__law_due.nd rfl (Or.inr rfl)) ne_name
    (js_cons (js_set noP_nil sc__law_due.nd rfl (Or.inl rfl) (jv_callV1 c_len (by rfl) Z.f_len bt_len (ofO (jo_lc [("_law_at", 5)] hp rfl sc__law_due.nd noPs_nil (blkOk_by (by rfl)) (ji_range1 (by rfl) Z.f_range (jl_cons (jv_callV1 c_len (by rfl) Z.f_len bt_len (jv_name 1 rfl (Or.inr (Or.inl rfl)))) jl_nil).ja) (fun s1 H1 C1 cl1 fp1 hp => (jh_name noP_nil sc__law_due.nd rfl (Or.inl rfl) (by decide))) (fun s1 H1 C1 cl1 fp1 hp => (jts_one (jt_cmp (o_ne hp.u64) (jv_c0 ⟨hF__law_flag⟩ hp Sr.takes0 nodd (by rfl) (jl_cons (jv_ix (jv_name 3 rfl (Or.inr (Or.inl rfl))) (jv_name 5 rfl (Or.inl rfl))) (jl_cons (jv_ix (jv_name 1 rfl (Or.inr (Or.inl rfl))) (jv_name 5 rfl (Or.inl rfl))) jl_nil))) jv_str))) (fun s1 H1 C1 cl1 fp1 hp => jv_int)))))
    (js_one (js_set noP_nil sc__law_due.nd rfl (Or.inl rfl) (jv_c0 ⟨hF__law_better⟩ hp (L2N.takes_of rfl rfl rfl rfl) nodd (by rfl) (jl_cons (jv_name 2 rfl (Or.inl rfl)) (jl_cons (jv_tup (jl_cons (jv_name 4 rfl (Or.inl rfl)) (jl_cons (jv_name 3 rfl (Or.inr (Or.inl rfl))) jl_nil)).ja) jl_nil)))))))
    (js_one (js_ret (jv_name 2 rfl (Or.inl rfl))))))
theorem ok__law_due (Z : Tx K mg) (hF__law_log : FnC P w K mg base 3 "_law_log" (spF0 K mg false 2 f__law_log) ["_law_numbers_here", "_law_checks_here"] []) (hF__law_flag : FnC P w K mg base 1 "_law_flag" (spF0 K mg false 2 f__law_flag) ["_law_state", "_law_check"] []) (hF__law_better : FnC P w K mg base 1 "_law_better" (spF0 K mg false 2 f__law_better) ["_law_one", "_law_other"] []) {f : Addr} {fd : FuncData} {kws : List (Str × V)} (G : FunD K "_law_due" "_law_due" (defArgs st__law_due) (defBody st__law_due) (defScope st__law_due) [] kws f fd) : FnG P w K mg base 4 f fd ["_law_numbers_here", "_law_checks_here"] (spF0 K mg false 2 f__law_due) :=
  fn0 (P := P) (w := w) (mg := mg) (base := base) (ro := false) (s := b__law_due) (N := N__law_due) (ps := ["_law_numbers_here", "_law_checks_here"]) rfl rfl G sc__law_due fun cdv A outer s0 H E hr hgu => d__law_due Z hF__law_log hF__law_flag hF__law_better hr hgu
abbrev N__law_same : List Str := ["_law_found", "_law_due_here"]
theorem sc__law_same : FnScope N__law_same ["_law_found", "_law_due_here"] (defScope st__law_same) := ⟨rfl, rfl, rfl, by decide +kernel, rfl, by decide +kernel, by decide +kernel⟩
theorem d__law_same (Z : Tx K mg)  {f : Addr} {cdv : Value} {A : Around} {outer : List Env} {s0 : Shared} {H : Hp} {E : XK} (hr : Room 0 (A.deeper (envOfC "_law_same" (defScope st__law_same) s0.heap.objs.size f cdv))) (hgu : A.guards = some []) : JSs (cxOf (L2N.CX P w) P w K mg base N__law_same "_law_same" (defScope st__law_same) f cdv A outer s0 H E) [] (WE0 E) (defBody st__law_same) b__law_same := by
  have hp : Pl (cxOf (L2N.CX P w) P w K mg base N__law_same "_law_same" (defScope st__law_same) f cdv A outer s0 H E) 0 := ⟨hr, hgu⟩
  exact (js_one (js_ret (jv_cmp (o_eq hp.u64) (jv_callV1 (c_reprB hp.gu hp.u100) (by rfl) Z.f_repr bt_repr (jv_name 0 rfl (Or.inl rfl))) (jv_callV1 (c_reprB hp.gu hp.u100) (by rfl) Z.f_repr bt_repr (jv_name 1 rfl (Or.inl rfl))))))
theorem ok__law_same (Z : Tx K mg)  {f : Addr} {fd : FuncData} {kws : List (Str × V)} (G : FunD K "_law_same" "_law_same" (defArgs st__law_same) (defBody st__law_same) (defScope st__law_same) [] kws f fd) : FnG P w K mg base 1 f fd ["_law_found", "_law_due_here"] (spF0 K mg false 2 f__law_same) :=
  fn0 (P := P) (w := w) (mg := mg) (base := base) (ro := false) (s := b__law_same) (N := N__law_same) (ps := ["_law_found", "_law_due_here"]) rfl rfl G sc__law_same fun cdv A outer s0 H E hr hgu => d__law_same Z  hr hgu
abbrev N_check_limits : List Str := ["value"]
theorem sc_check_limits : FnScope N_check_limits ["value"] (defScope st_check_limits) := ⟨rfl, rfl, rfl, by decide +kernel, rfl, by decide +kernel, by decide +kernel⟩
theorem d_check_limits (Z : Tx K mg)  {f : Addr} {cdv : Value} {A : Around} {outer : List Env} {s0 : Shared} {H : Hp} {E : XK} (hr : Room 0 (A.deeper (envOfC "check_limits" (defScope st_check_limits) s0.heap.objs.size f cdv))) (hgu : A.guards = some []) : JSs (cxOf (L2N.CX P w) P w K mg base N_check_limits "check_limits" (defScope st_check_limits) f cdv A outer s0 H E) [] (WE0 E) (defBody st_check_limits) b_check_limits := by
  have hp : Pl (cxOf (L2N.CX P w) P w K mg base N_check_limits "check_limits" (defScope st_check_limits) f cdv A outer s0 H E) 0 := ⟨hr, hgu⟩
  exact (js_one (js_if (jt_not (jt_val (jv_isiC (C := He.ga K "Limits") Z.i_Limits (by rfl) Z.f_isinstance (by rfl) Z.k_Limits (jv_name 0 rfl (Or.inl rfl))))) (js_one (js_raise rfl (L2N.takes_of rfl rfl rfl rfl) Z.x_LimitsError (by rfl))) js_nil))
theorem ok_check_limits (Z : Tx K mg)  {f : Addr} {fd : FuncData} {kws : List (Str × V)} (G : FunD K "check_limits" "check_limits" (defArgs st_check_limits) (defBody st_check_limits) (defScope st_check_limits) [] kws f fd) : FnG P w K mg base 1 f fd ["value"] (spF0 K mg false 1 f_check_limits) :=
  fn0 (P := P) (w := w) (mg := mg) (base := base) (ro := false) (s := b_check_limits) (N := N_check_limits) (ps := ["value"]) rfl rfl G sc_check_limits fun cdv A outer s0 H E hr hgu => d_check_limits Z  hr hgu
abbrev N_is_made_of : List Str := ["value", "signs", "sign"]
theorem sc_is_made_of : FnScope N_is_made_of ["value", "signs"] (defScope st_is_made_of) := ⟨rfl, rfl, rfl, by decide +kernel, rfl, by decide +kernel, by decide +kernel⟩
theorem d_is_made_of (Z : Tx K mg)  {f : Addr} {cdv : Value} {A : Around} {outer : List Env} {s0 : Shared} {H : Hp} {E : XK} (hr : Room 0 (A.deeper (envOfC "is_made_of" (defScope st_is_made_of) s0.heap.objs.size f cdv))) (hgu : A.guards = some []) : JSs (cxOf (L2N.CX P w) P w K mg base N_is_made_of "is_made_of" (defScope st_is_made_of) f cdv A outer s0 H E) [] (WE0 E) (defBody st_is_made_of) b_is_made_of := by
  have hp : Pl (cxOf (L2N.CX P w) P w K mg base N_is_made_of "is_made_of" (defScope st_is_made_of) f cdv A outer s0 H E) 0 := ⟨hr, hgu⟩
  exact (js_one (js_ret (jv_and (jv_isiB Z.i_str (by rfl) Z.f_isinstance (by rfl) Z.f_str bt_str (jv_name 0 rfl (Or.inl rfl))) (jv_one (jv_callV1 (c_all (by rfl)) (by rfl) Z.f_all bt_all (ofO (jo_lc [("sign", 2)] hp rfl sc_is_made_of.nd noPs_nil (blkOk_by (by rfl)) (ji_v (jv_name 0 rfl (Or.inl rfl))) (fun s1 H1 C1 cl1 fp1 hp => (jh_name noP_nil sc_is_made_of.nd rfl (Or.inl rfl) (by decide))) (fun s1 H1 C1 cl1 fp1 hp => jts_nil) (fun s1 H1 C1 cl1 fp1 hp => (jv_cmp (o_in hp) (jv_name 2 rfl (Or.inl rfl)) (jv_name 1 rfl (Or.inr (Or.inl rfl))))))))))))
theorem ok_is_made_of (Z : Tx K mg)  {f : Addr} {fd : FuncData} {kws : List (Str × V)} (G : FunD K "is_made_of" "is_made_of" (defArgs st_is_made_of) (defBody st_is_made_of) (defScope st_is_made_of) [] kws f fd) : FnG P w K mg base 1 f fd ["value", "signs"] (spF0 K mg false 2 f_is_made_of) :=
  fn0 (P := P) (w := w) (mg := mg) (base := base) (ro := false) (s := b_is_made_of) (N := N_is_made_of) (ps := ["value", "signs"]) rfl rfl G sc_is_made_of fun cdv A outer s0 H E hr hgu => d_is_made_of Z  hr hgu
abbrev N_check_checks : List Str := ["checks"]
theorem sc_check_checks : FnScope N_check_checks ["checks"] (defScope st_check_checks) := ⟨rfl, rfl, rfl, by decide +kernel, rfl, by decide +kernel, by decide +kernel⟩
theorem d_check_checks (Z : Tx K mg) (hF_is_made_of : FnC P w K mg base 1 "is_made_of" (spF0 K mg false 2 f_is_made_of) ["value", "signs"] []) {f : Addr} {cdv : Value} {A : Around} {outer : List Env} {s0 : Shared} {H : Hp} {E : XK} (hr : Room 1 (A.deeper (envOfC "check_checks" (defScope st_check_checks) s0.heap.objs.size f cdv))) (hgu : A.guards = some []) : JSs (cxOf (L2N.CX P w) P w K mg base N_check_checks "check_checks" (defScope st_check_checks) f cdv A outer s0 H E) [] (WE0 E) (defBody st_check_checks) b_check_checks := by
  have hp : Pl (cxOf (L2N.CX P w) P w K mg base N_check_checks "check_checks" (defScope st_check_checks) f cdv A outer s0 H E) 1 := ⟨hr, hgu⟩
  exact (js_one (js_if (ofW (jw_or (jt_not (jt_val (jv_c0 ⟨hF_is_made_of⟩ hp (L2N.takes_of rfl rfl rfl rfl) nodd (by rfl) (jl_cons (jv_name 0 rfl (Or.inl rfl)) (jl_cons (jv_bin o_add (jv_gS (by rfl) Z.c_PASS) (jv_gS (by rfl) Z.c_FAIL)) jl_nil))))) (jw_or1 (jt_cmp p_gt (jv_callV1 c_len (by rfl) Z.f_len bt_len (jv_name 0 rfl (Or.inl rfl))) (jv_gI (by rfl) Z.c_MOST_CHECKS))))) (js_one (js_raise rfl (L2N.takes_of rfl rfl rfl rfl) Z.x_ChecksError (by rfl))) js_nil))
theorem ok_check_checks (Z : Tx K mg) (hF_is_made_of : FnC P w K mg base 1 "is_made_of" (spF0 K mg false 2 f_is_made_of) ["value", "signs"] []) {f : Addr} {fd : FuncData} {kws : List (Str × V)} (G : FunD K "check_checks" "check_checks" (defArgs st_check_checks) (defBody st_check_checks) (defScope st_check_checks) [] kws f fd) : FnG P w K mg base 2 f fd ["checks"] (spF0 K mg false 1 f_check_checks) :=
  fn0 (P := P) (w := w) (mg := mg) (base := base) (ro := false) (s := b_check_checks) (N := N_check_checks) (ps := ["checks"]) rfl rfl G sc_check_checks fun cdv A outer s0 H E hr hgu => d_check_checks Z hF_is_made_of hr hgu
abbrev N_check_log : List Str := ["limits", "checks"]
theorem sc_check_log : FnScope N_check_log ["limits", "checks"] (defScope st_check_log) := ⟨rfl, rfl, rfl, by decide +kernel, rfl, by decide +kernel, by decide +kernel⟩
theorem d_check_log (Z : Tx K mg) (hF_check_limits : FnC P w K mg base 1 "check_limits" (spF0 K mg false 1 f_check_limits) ["value"] []) (hF_check_checks : FnC P w K mg base 2 "check_checks" (spF0 K mg false 1 f_check_checks) ["checks"] []) {f : Addr} {cdv : Value} {A : Around} {outer : List Env} {s0 : Shared} {H : Hp} {E : XK} (hr : Room 2 (A.deeper (envOfC "check_log" (defScope st_check_log) s0.heap.objs.size f cdv))) (hgu : A.guards = some []) : JSs (cxOf (L2N.CX P w) P w K mg base N_check_log "check_log" (defScope st_check_log) f cdv A outer s0 H E) [] (WE0 E) (defBody st_check_log) b_check_log := by
  have hp : Pl (cxOf (L2N.CX P w) P w K mg base N_check_log "check_log" (defScope st_check_log) f cdv A outer s0 H E) 2 := ⟨hr, hgu⟩
  exact (js_cons (js_expr (jv_c0 ⟨hF_check_limits⟩ hp (L2N.takes_of rfl rfl rfl rfl) nodd (by rfl) (jl_cons (jv_name 0 rfl (Or.inl rfl)) jl_nil)))
    (js_one (js_expr (jv_c0 ⟨hF_check_checks⟩ hp (L2N.takes_of rfl rfl rfl rfl) nodd (by rfl) (jl_cons (jv_name 1 rfl (Or.inl rfl)) jl_nil)))))
theorem ok_check_log (Z : Tx K mg) (hF_check_limits : FnC P w K mg base 1 "check_limits" (spF0 K mg false 1 f_check_limits) ["value"] []) (hF_check_checks : FnC P w K mg base 2 "check_checks" (spF0 K mg false 1 f_check_checks) ["checks"] []) {f : Addr} {fd : FuncData} {kws : List (Str × V)} (G : FunD K "check_log" "check_log" (defArgs st_check_log) (defBody st_check_log) (defScope st_check_log) [] kws f fd) : FnG P w K mg base 3 f fd ["limits", "checks"] (spF0 K mg false 2 f_check_log) :=
  fn0 (P := P) (w := w) (mg := mg) (base := base) (ro := false) (s := b_check_log) (N := N_check_log) (ps := ["limits", "checks"]) rfl rfl G sc_check_log fun cdv A outer s0 H E hr hgu => d_check_log Z hF_check_limits hF_check_checks hr hgu
abbrev N_spelled : List Str := ["row", "state", "age", "flags"]
theorem sc_spelled : FnScope N_spelled ["row", "state", "age", "flags"] (defScope st_spelled) := ⟨rfl, rfl, rfl, by decide +kernel, rfl, by decide +kernel, by decide +kernel⟩
theorem d_spelled (Z : Tx K mg)  {f : Addr} {cdv : Value} {A : Around} {outer : List Env} {s0 : Shared} {H : Hp} {E : XK} (hr : Room 0 (A.deeper (envOfC "spelled" (defScope st_spelled) s0.heap.objs.size f cdv))) (hgu : A.guards = some []) : JSs (cxOf (L2N.CX P w) P w K mg base N_spelled "spelled" (defScope st_spelled) f cdv A outer s0 H E) [] (WE0 E) (defBody st_spelled) b_spelled := by
  have hp : Pl (cxOf (L2N.CX P w) P w K mg base N_spelled "spelled" (defScope st_spelled) f cdv A outer s0 H E) 0 := ⟨hr, hgu⟩
  exact (js_one (js_ret (jv_js (jj_cons (jv_fmt2 Z.dg (jv_name 0 rfl (Or.inl rfl))) (jj_cons (jv_fmt (jv_name 1 rfl (Or.inl rfl))) (jj_cons (jv_fmt (jv_name 2 rfl (Or.inl rfl))) (jj_cons (jv_fmt (jv_name 3 rfl (Or.inl rfl))) jj_nil)))))))
theorem ok_spelled (Z : Tx K mg)  {f : Addr} {fd : FuncData} {kws : List (Str × V)} (G : FunD K "spelled" "spelled" (defArgs st_spelled) (defBody st_spelled) (defScope st_spelled) [] kws f fd) : FnG P w K mg base 1 f fd ["row", "state", "age", "flags"] (spF0 K mg false 4 f_spelled) :=
  fn0 (P := P) (w := w) (mg := mg) (base := base) (ro := false) (s := b_spelled) (N := N_spelled) (ps := ["row", "state", "age", "flags"]) rfl rfl G sc_spelled fun cdv A outer s0 H E hr hgu => d_spelled Z  hr hgu
abbrev N_beginnings : List Str := ["limits", "flags"]
theorem sc_beginnings : FnScope N_beginnings ["limits"] (defScope st_beginnings) := ⟨rfl, rfl, rfl, by decide +kernel, rfl, by decide +kernel, by decide +kernel⟩
theorem d_beginnings (Z : Tx K mg) (hP_span : ∃ pp ga fd, PropOf K (He.ga K "Limits") "span" pp ga ∧ FnOk P w K mg base CX0 1 ga fd ["self"] (getSp (He.ga K "Limits") "most_checks") ∧ Binds K fd ["self"] []) (hF_spelled : FnC P w K mg base 1 "spelled" (spF0 K mg false 4 f_spelled) ["row", "state", "age", "flags"] []) (hP_settled : ∃ pp ga fd, PropOf K (He.ga K "Limits") "settled" pp ga ∧ FnOk P w K mg base CX0 1 ga fd ["self"] (getSp (He.ga K "Limits") "least_stay") ∧ Binds K fd ["self"] []) {f : Addr} {cdv : Value} {A : Around} {outer : List Env} {s0 : Shared} {H : Hp} {E : XK} (hr : Room 2 (A.deeper (envOfC "beginnings" (defScope st_beginnings) s0.heap.objs.size f cdv))) (hgu : A.guards = some []) : JSs (cxOf (L2N.CX P w) P w K mg base N_beginnings "beginnings" (defScope st_beginnings) f cdv A outer s0 H E) [] (WE0 E) (defBody st_beginnings) b_beginnings := by
  have hp : Pl (cxOf (L2N.CX P w) P w K mg base N_beginnings "beginnings" (defScope st_beginnings) f cdv A outer s0 H E) 2 := ⟨hr, hgu⟩
  exact (js_cons (js_set noP_nil sc_beginnings.nd rfl (Or.inl rfl) (jv_bin o_mulA (jv_gS (by rfl) Z.c_NO_ERROR) (jv_bin o_sub (jv_propV ⟨⟨Z.k_Limits, Z.cl_Limits⟩, hP_span⟩ hp (jv_name 0 rfl (Or.inl rfl))) jv_int)))
    (js_one (js_ret (ofO (jo_lst (jl_cons (jv_c0 ⟨hF_spelled⟩ hp (L2N.takes_of rfl rfl rfl rfl) nodd (by rfl) (jl_cons jv_int (jl_cons (jv_gS (by rfl) Z.c_DOWN) (jl_cons (jv_propV ⟨⟨Z.k_Limits, Z.cl_Limits⟩, hP_settled⟩ hp (jv_name 0 rfl (Or.inl rfl))) (jl_cons (jv_name 1 rfl (Or.inl rfl)) jl_nil))))) (jl_cons (jv_c0 ⟨hF_spelled⟩ hp (L2N.takes_of rfl rfl rfl rfl) nodd (by rfl) (jl_cons jv_int (jl_cons (jv_gS (by rfl) Z.c_UP) (jl_cons (jv_propV ⟨⟨Z.k_Limits, Z.cl_Limits⟩, hP_settled⟩ hp (jv_name 0 rfl (Or.inl rfl))) (jl_cons (jv_name 1 rfl (Or.inl rfl)) jl_nil))))) jl_nil)).ja)))))
theorem ok_beginnings (Z : Tx K mg) (hP_span : ∃ pp ga fd, PropOf K (He.ga K "Limits") "span" pp ga ∧ FnOk P w K mg base CX0 1 ga fd ["self"] (getSp (He.ga K "Limits") "most_checks") ∧ Binds K fd ["self"] []) (hF_spelled : FnC P w K mg base 1 "spelled" (spF0 K mg false 4 f_spelled) ["row", "state", "age", "flags"] []) (hP_settled : ∃ pp ga fd, PropOf K (He.ga K "Limits") "settled" pp ga ∧ FnOk P w K mg base CX0 1 ga fd ["self"] (getSp (He.ga K "Limits") "least_stay") ∧ Binds K fd ["self"] []) {f : Addr} {fd : FuncData} {kws : List (Str × V)} (G : FunD K "beginnings" "beginnings" (defArgs st_beginnings) (defBody st_beginnings) (defScope st_beginnings) [] kws f fd) : FnG P w K mg base 3 f fd ["limits"] (spF0 K mg false 1 f_beginnings) :=
  fn0 (P := P) (w := w) (mg := mg) (base := base) (ro := false) (s := b_beginnings) (N := N_beginnings) (ps := ["limits"]) rfl rfl G sc_beginnings fun cdv A outer s0 H E hr hgu => d_beginnings Z hP_span hF_spelled hP_settled hr hgu
abbrev N_row_of : List Str := ["situation"]
theorem sc_row_of : FnScope N_row_of ["situation"] (defScope st_row_of) := ⟨rfl, rfl, rfl, by decide +kernel, rfl, by decide +kernel, by decide +kernel⟩
theorem d_row_of (Z : Tx K mg)  {f : Addr} {cdv : Value} {A : Around} {outer : List Env} {s0 : Shared} {H : Hp} {E : XK} (hr : Room 0 (A.deeper (envOfC "row_of" (defScope st_row_of) s0.heap.objs.size f cdv))) (hgu : A.guards = some []) : JSs (cxOf (L2N.CX P w) P w K mg base N_row_of "row_of" (defScope st_row_of) f cdv A outer s0 H E) [] (WE0 E) (defBody st_row_of) b_row_of := by
  have hp : Pl (cxOf (L2N.CX P w) P w K mg base N_row_of "row_of" (defScope st_row_of) f cdv A outer s0 H E) 0 := ⟨hr, hgu⟩
  exact (js_one (js_ret (jv_callTy c_intS (by rfl) Z.f_int bt_int (jl_cons (jv_slice (jv_name 0 rfl (Or.inl rfl)) jp_none (jp_some jv_int)) jl_nil).ja)))
theorem ok_row_of (Z : Tx K mg)  {f : Addr} {fd : FuncData} {kws : List (Str × V)} (G : FunD K "row_of" "row_of" (defArgs st_row_of) (defBody st_row_of) (defScope st_row_of) [] kws f fd) : FnG P w K mg base 1 f fd ["situation"] (spF0 K mg false 1 f_row_of) :=
  fn0 (P := P) (w := w) (mg := mg) (base := base) (ro := false) (s := b_row_of) (N := N_row_of) (ps := ["situation"]) rfl rfl G sc_row_of fun cdv A outer s0 H E hr hgu => d_row_of Z  hr hgu
abbrev N_flag_of : List Str := ["state", "check"]
theorem sc_flag_of : FnScope N_flag_of ["state", "check"] (defScope st_flag_of) := ⟨rfl, rfl, rfl, by decide +kernel, rfl, by decide +kernel, by decide +kernel⟩
theorem d_flag_of (Z : Tx K mg)  {f : Addr} {cdv : Value} {A : Around} {outer : List Env} {s0 : Shared} {H : Hp} {E : XK} (hr : Room 0 (A.deeper (envOfC "flag_of" (defScope st_flag_of) s0.heap.objs.size f cdv))) (hgu : A.guards = some []) : JSs (cxOf (L2N.CX P w) P w K mg base N_flag_of "flag_of" (defScope st_flag_of) f cdv A outer s0 H E) [] (WE0 E) (defBody st_flag_of) b_flag_of := by
  have hp : Pl (cxOf (L2N.CX P w) P w K mg base N_flag_of "flag_of" (defScope st_flag_of) f cdv A outer s0 H E) 0 := ⟨hr, hgu⟩
  exact (js_cons (js_if (jt_cmp (o_eq hp.u64) (jv_cmp (o_eq hp.u64) (jv_name 0 rfl (Or.inl rfl)) (jv_gS (by rfl) Z.c_UP)) (jv_cmp (o_eq hp.u64) (jv_name 1 rfl (Or.inl rfl)) (jv_gS (by rfl) Z.c_PASS))) (js_one (js_ret (jv_gS (by rfl) Z.c_NO_ERROR))) js_nil)
    (js_one (js_ret (jv_if (jt_cmp (o_eq hp.u64) (jv_name 1 rfl (Or.inl rfl)) (jv_gS (by rfl) Z.c_PASS)) (jv_gS (by rfl) Z.c_FALSE_PASS) (jv_gS (by rfl) Z.c_FALSE_FAIL)))))
theorem ok_flag_of (Z : Tx K mg)  {f : Addr} {fd : FuncData} {kws : List (Str × V)} (G : FunD K "flag_of" "flag_of" (defArgs st_flag_of) (defBody st_flag_of) (defScope st_flag_of) [] kws f fd) : FnG P w K mg base 1 f fd ["state", "check"] (spF0 K mg false 2 f_flag_of) :=
  fn0 (P := P) (w := w) (mg := mg) (base := base) (ro := false) (s := b_flag_of) (N := N_flag_of) (ps := ["state", "check"]) rfl rfl G sc_flag_of fun cdv A outer s0 H E hr hgu => d_flag_of Z  hr hgu
abbrev N_Limits_let : List Str := ["self", "flags"]
theorem sc_Limits_let : FnScope N_Limits_let ["self", "flags"] (defScope st_Limits_let) := ⟨rfl, rfl, rfl, by decide +kernel, rfl, by decide +kernel, by decide +kernel⟩
theorem d_Limits_let (Z : Tx K mg)  {f : Addr} {cdv : Value} {A : Around} {outer : List Env} {s0 : Shared} {H : Hp} {E : XK} (hr : Room 0 (A.deeper (envOfC "Limits.let" (defScope st_Limits_let) s0.heap.objs.size f cdv))) (hgu : A.guards = some []) : JSs (cxOf (L2N.CX P w) P w K mg base N_Limits_let "Limits.let" (defScope st_Limits_let) f cdv A outer s0 H E) [] (WE0 E) (defBody st_Limits_let) b_Limits_let := by
  have hp : Pl (cxOf (L2N.CX P w) P w K mg base N_Limits_let "Limits.let" (defScope st_Limits_let) f cdv A outer s0 H E) 0 := ⟨hr, hgu⟩
  exact (js_one (js_ret (jv_and (jv_cmp p_le (jv_mt PySem.F.slot_str_count PySem.F.type_str_count m_count (jv_name 1 rfl (Or.inl rfl)) (jl_cons (jv_gS (by rfl) Z.c_FALSE_PASS) jl_nil).ja) (jv_fldV ⟨Z.k_Limits, Z.cl_Limits⟩ Z.n_Limits_most_passes (jv_name 0 rfl (Or.inl rfl)))) (jv_one (jv_cmp p_le (jv_mt PySem.F.slot_str_count PySem.F.type_str_count m_count (jv_name 1 rfl (Or.inl rfl)) (jl_cons (jv_gS (by rfl) Z.c_FALSE_FAIL) jl_nil).ja) (jv_fldV ⟨Z.k_Limits, Z.cl_Limits⟩ Z.n_Limits_most_fails (jv_name 0 rfl (Or.inl rfl))))))))
theorem ok_Limits_let (Z : Tx K mg)  {f : Addr} {fd : FuncData} {kws : List (Str × V)} (G : FunD K "let" "Limits.let" (defArgs st_Limits_let) (defBody st_Limits_let) (defScope st_Limits_let) [] kws f fd) : FnG P w K mg base 1 f fd ["self", "flags"] (spF0 K mg false 2 f_Limits_let) :=
  fn0 (P := P) (w := w) (mg := mg) (base := base) (ro := false) (s := b_Limits_let) (N := N_Limits_let) (ps := ["self", "flags"]) rfl rfl G sc_Limits_let fun cdv A outer s0 H E hr hgu => d_Limits_let Z  hr hgu
abbrev N_steps_from : List Str := ["rule", "limits", "situation", "state", "age", "found", "row", "later", "stays", "side", "check", "flags", "grown"]
theorem sc_steps_from : FnScope N_steps_from ["rule", "limits", "situation"] (defScope st_steps_from) := ⟨rfl, rfl, rfl, by decide +kernel, rfl, by decide +kernel, by decide +kernel⟩
theorem d_steps_from (Z : Tx K mg) (hF_row_of : FnC P w K mg base 1 "row_of" (spF0 K mg false 1 f_row_of) ["situation"] []) (hP_rows : ∃ pp ga fd, PropOf K (He.ga K "Rule") "rows" pp ga ∧ FnOk P w K mg base CX0 1 ga fd ["self"] (getSp (He.ga K "Rule") "table") ∧ Binds K fd ["self"] []) (hF_flag_of : FnC P w K mg base 1 "flag_of" (spF0 K mg false 2 f_flag_of) ["state", "check"] []) (hO_Limits_let : ∃ fa fd, Meth K (He.ga K "Limits") "let" fa ∧ FnG P w K mg base 1 fa fd ["self", "flags"] (spF0 K mg false 2 f_Limits_let) ∧ Binds K fd ["self", "flags"] []) (hP_settled : ∃ pp ga fd, PropOf K (He.ga K "Limits") "settled" pp ga ∧ FnOk P w K mg base CX0 1 ga fd ["self"] (getSp (He.ga K "Limits") "least_stay") ∧ Binds K fd ["self"] []) (hF_spelled : FnC P w K mg base 1 "spelled" (spF0 K mg false 4 f_spelled) ["row", "state", "age", "flags"] []) {f : Addr} {cdv : Value} {A : Around} {outer : List Env} {s0 : Shared} {H : Hp} {E : XK} (hr : Room 2 (A.deeper (envOfC "steps_from" (defScope st_steps_from) s0.heap.objs.size f cdv))) (hgu : A.guards = some []) : JSs (cxOf (L2N.CX P w) P w K mg base N_steps_from "steps_from" (defScope st_steps_from) f cdv A outer s0 H E) [] (WE0 E) (defBody st_steps_from) b_steps_from := by
  have hp : Pl (cxOf (L2N.CX P w) P w K mg base N_steps_from "steps_from" (defScope st_steps_from) f cdv A outer s0 H E) 2 := ⟨hr, hgu⟩
  exact (js_cons (js_parM3 noP_nil noP_nil noP_nil rfl sc_steps_from.nd rfl rfl rfl (by decide) (by decide) (by decide) rfl rfl rfl (jm_cons (jv_ix (jv_name 2 rfl (Or.inl rfl)) jv_int) (jm_cons (jv_callTy c_intS (by rfl) Z.f_int bt_int (jl_cons (jv_ix (jv_name 2 rfl (Or.inl rfl)) jv_int) jl_nil).ja) (jm_consO (jo_lst jl_nil.ja) jm_nil))))
    (js_cons (js_set noP_nil sc_steps_from.nd rfl (Or.inl rfl) (jv_ix (jv_propV ⟨⟨Z.k_Rule, Z.cl_Rule⟩, hP_rows⟩ hp (jv_name 0 rfl (Or.inl rfl))) (jv_c0 ⟨hF_row_of⟩ hp (L2N.takes_of rfl rfl rfl rfl) nodd (by rfl) (jl_cons (jv_name 2 rfl (Or.inl rfl)) jl_nil))))
    (js_cons (js_for (passes_of rfl) rfl (ji_v (jv_tup (jl_cons (jv_gS (by rfl) Z.c_DOWN) (jl_cons (jv_gS (by rfl) Z.c_UP) jl_nil)).ja)) (jg_name noP_nil sc_steps_from.nd rfl (Or.inl rfl)) ne_name
    (js_cons (js_set noP_nil sc_steps_from.nd rfl (Or.inl rfl) (jv_cmp (o_eq hp.u64) (jv_name 7 rfl (Or.inl rfl)) (jv_name 3 rfl (Or.inl rfl))))
    (js_one (js_for (passes_of rfl) rfl (ji_v (jv_gT (by rfl) Z.kt_SIDES Z.ct_SIDES)) (jg_tup rfl (jgs_cons (jg_name noP_nil sc_steps_from.nd rfl (Or.inl rfl)) (jgs_cons (jg_name noP_nil sc_steps_from.nd rfl (Or.inl rfl)) jgs_nil))) (ne_tup (nes_cons ne_name (nes_cons ne_name nes_nil)))
    (js_cons (js_set noP_nil sc_steps_from.nd rfl (Or.inl rfl) (jv_bin o_add (jv_slice (jv_name 2 rfl (Or.inl rfl)) (jp_some (jv_gI (by rfl) Z.c_FLAGS_AT)) jp_none) (jv_c0 ⟨hF_flag_of⟩ hp (L2N.takes_of rfl rfl rfl rfl) nodd (by rfl) (jl_cons (jv_name 7 rfl (Or.inl rfl)) (jl_cons (jv_name 10 rfl (Or.inl rfl)) jl_nil)))))
    (js_one (js_if (ofW (jw_and (jt_val (jv_me ⟨⟨Z.k_Limits, Z.cl_Limits⟩, hO_Limits_let⟩ hp (L2N.takes_of rfl rfl rfl rfl) (jv_name 1 rfl (Or.inl rfl)) (jl_cons (jv_name 11 rfl (Or.inl rfl)) jl_nil))) (jw_and1 (ofW (jw_or (jt_val (jv_name 8 rfl (Or.inl rfl))) (jw_or1 (jt_cmp (o_eq hp.u64) (jv_name 4 rfl (Or.inl rfl)) (jv_propV ⟨⟨Z.k_Limits, Z.cl_Limits⟩, hP_settled⟩ hp (jv_name 1 rfl (Or.inl rfl)))))))))) (js_cons (js_set noP_nil sc_steps_from.nd rfl (Or.inl rfl) (jv_if (jt_val (jv_name 8 rfl (Or.inl rfl))) (jv_bin o_add (jv_name 4 rfl (Or.inl rfl)) (jv_callTy c_int (by rfl) Z.f_int bt_int (jl_cons (jv_cmp (p_lt hp) (jv_name 4 rfl (Or.inl rfl)) (jv_propV ⟨⟨Z.k_Limits, Z.cl_Limits⟩, hP_settled⟩ hp (jv_name 1 rfl (Or.inl rfl)))) jl_nil).ja)) jv_int))
    (js_one (js_append (i := 5) rfl (Or.inl rfl) (jv_tup (jl_cons (jv_name 7 rfl (Or.inl rfl)) (jl_cons (jv_name 10 rfl (Or.inl rfl)) (jl_cons (jv_c0 ⟨hF_spelled⟩ hp (L2N.takes_of rfl rfl rfl rfl) nodd (by rfl) (jl_cons (jv_ix (jv_name 6 rfl (Or.inl rfl)) (jv_name 9 rfl (Or.inl rfl))) (jl_cons (jv_name 7 rfl (Or.inl rfl)) (jl_cons (jv_name 12 rfl (Or.inl rfl)) (jl_cons (jv_slice (jv_name 11 rfl (Or.inl rfl)) (jp_some jv_int) jp_none) jl_nil))))) jl_nil))).ja)))) js_nil)))))))
    (js_one (js_ret (jv_name 5 rfl (Or.inl rfl)))))))
theorem ok_steps_from (Z : Tx K mg) (hF_row_of : FnC P w K mg base 1 "row_of" (spF0 K mg false 1 f_row_of) ["situation"] []) (hP_rows : ∃ pp ga fd, PropOf K (He.ga K "Rule") "rows" pp ga ∧ FnOk P w K mg base CX0 1 ga fd ["self"] (getSp (He.ga K "Rule") "table") ∧ Binds K fd ["self"] []) (hF_flag_of : FnC P w K mg base 1 "flag_of" (spF0 K mg false 2 f_flag_of) ["state", "check"] []) (hO_Limits_let : ∃ fa fd, Meth K (He.ga K "Limits") "let" fa ∧ FnG P w K mg base 1 fa fd ["self", "flags"] (spF0 K mg false 2 f_Limits_let) ∧ Binds K fd ["self", "flags"] []) (hP_settled : ∃ pp ga fd, PropOf K (He.ga K "Limits") "settled" pp ga ∧ FnOk P w K mg base CX0 1 ga fd ["self"] (getSp (He.ga K "Limits") "least_stay") ∧ Binds K fd ["self"] []) (hF_spelled : FnC P w K mg base 1 "spelled" (spF0 K mg false 4 f_spelled) ["row", "state", "age", "flags"] []) {f : Addr} {fd : FuncData} {kws : List (Str × V)} (G : FunD K "steps_from" "steps_from" (defArgs st_steps_from) (defBody st_steps_from) (defScope st_steps_from) [] kws f fd) : FnG P w K mg base 3 f fd ["rule", "limits", "situation"] (spF0 K mg false 3 f_steps_from) :=
  fn0 (P := P) (w := w) (mg := mg) (base := base) (ro := false) (s := b_steps_from) (N := N_steps_from) (ps := ["rule", "limits", "situation"]) rfl rfl G sc_steps_from fun cdv A outer s0 H E hr hgu => d_steps_from Z hF_row_of hP_rows hF_flag_of hO_Limits_let hP_settled hF_spelled hr hgu
abbrev N_is_row : List Str := ["value", "count"]
theorem sc_is_row : FnScope N_is_row ["value", "count"] (defScope st_is_row) := ⟨rfl, rfl, rfl, by decide +kernel, rfl, by decide +kernel, by decide +kernel⟩
theorem d_is_row (Z : Tx K mg) (hF_is_between : FnC P w K mg base 2 "is_between" (spF0 K mg false 3 f_is_between) ["value", "low", "high"] []) {f : Addr} {cdv : Value} {A : Around} {outer : List Env} {s0 : Shared} {H : Hp} {E : XK} (hr : Room 2 (A.deeper (envOfC "is_row" (defScope st_is_row) s0.heap.objs.size f cdv))) (hgu : A.guards = some []) : JSs (cxOf (L2N.CX P w) P w K mg base N_is_row "is_row" (defScope st_is_row) f cdv A outer s0 H E) [] (WE0 E) (defBody st_is_row) b_is_row := by
  have hp : Pl (cxOf (L2N.CX P w) P w K mg base N_is_row "is_row" (defScope st_is_row) f cdv A outer s0 H E) 2 := ⟨hr, hgu⟩
  exact (js_cons (js_if (ofW (jw_or (jt_not (jt_val (jv_isiB Z.i_tuple (by rfl) Z.f_isinstance (by rfl) Z.f_tuple bt_tuple (jv_name 0 rfl (Or.inl rfl))))) (jw_or (jt_cmp (o_ne hp.u64) (jv_callV1 c_len (by rfl) Z.f_len bt_len (jv_name 0 rfl (Or.inl rfl))) jv_int) (jw_or1 (jt_not (jt_val (jv_isiB Z.i_str (by rfl) Z.f_isinstance (by rfl) Z.f_str bt_str (jv_ix (jv_name 0 rfl (Or.inl rfl)) jv_int)))))))) (js_one (js_ret jv_bl)) js_nil)
    (js_one (js_ret (jv_and (jv_cmp (o_in hp) (jv_ix (jv_name 0 rfl (Or.inl rfl)) jv_int) (jv_tup (jl_cons (jv_gS (by rfl) Z.c_UP) (jl_cons (jv_gS (by rfl) Z.c_DOWN) jl_nil)).ja)) (jv_and (jv_c0 ⟨hF_is_between⟩ hp (L2N.takes_of rfl rfl rfl rfl) nodd (by rfl) (jl_cons (jv_ix (jv_name 0 rfl (Or.inl rfl)) jv_int) (jl_cons jv_int (jl_cons (jv_bin o_sub (jv_name 1 rfl (Or.inl rfl)) jv_int) jl_nil)))) (jv_one (jv_c0 ⟨hF_is_between⟩ hp (L2N.takes_of rfl rfl rfl rfl) nodd (by rfl) (jl_cons (jv_ix (jv_name 0 rfl (Or.inl rfl)) jv_int) (jl_cons jv_int (jl_cons (jv_bin o_sub (jv_name 1 rfl (Or.inl rfl)) jv_int) jl_nil))))))))))
theorem ok_is_row (Z : Tx K mg) (hF_is_between : FnC P w K mg base 2 "is_between" (spF0 K mg false 3 f_is_between) ["value", "low", "high"] []) {f : Addr} {fd : FuncData} {kws : List (Str × V)} (G : FunD K "is_row" "is_row" (defArgs st_is_row) (defBody st_is_row) (defScope st_is_row) [] kws f fd) : FnG P w K mg base 3 f fd ["value", "count"] (spF0 K mg false 2 f_is_row) :=
  fn0 (P := P) (w := w) (mg := mg) (base := base) (ro := false) (s := b_is_row) (N := N_is_row) (ps := ["value", "count"]) rfl rfl G sc_is_row fun cdv A outer s0 H E hr hgu => d_is_row Z hF_is_between hr hgu
abbrev N_is_table : List Str := ["value", "row"]
theorem sc_is_table : FnScope N_is_table ["value"] (defScope st_is_table) := ⟨rfl, rfl, rfl, by decide +kernel, rfl, by decide +kernel, by decide +kernel⟩
theorem d_is_table (Z : Tx K mg) (hF_is_row : FnC P w K mg base 3 "is_row" (spF0 K mg false 2 f_is_row) ["value", "count"] []) {f : Addr} {cdv : Value} {A : Around} {outer : List Env} {s0 : Shared} {H : Hp} {E : XK} (hr : Room 3 (A.deeper (envOfC "is_table" (defScope st_is_table) s0.heap.objs.size f cdv))) (hgu : A.guards = some []) : JSs (cxOf (L2N.CX P w) P w K mg base N_is_table "is_table" (defScope st_is_table) f cdv A outer s0 H E) [] (WE0 E) (defBody st_is_table) b_is_table := by
  have hp : Pl (cxOf (L2N.CX P w) P w K mg base N_is_table "is_table" (defScope st_is_table) f cdv A outer s0 H E) 3 := ⟨hr, hgu⟩
  exact (js_cons (js_if (ofW (jw_or (jt_not (jt_val (jv_isiB Z.i_tuple (by rfl) Z.f_isinstance (by rfl) Z.f_tuple bt_tuple (jv_name 0 rfl (Or.inr (Or.inl rfl)))))) (jw_or1 (jt_not (jt_chain p_le p_le jv_int (jv_callV1 c_len (by rfl) Z.f_len bt_len (jv_name 0 rfl (Or.inr (Or.inl rfl)))) (jv_gI (by rfl) Z.c_MOST_ROWS)))))) (js_one (js_ret jv_bl)) js_nil)
    (js_one (js_ret (jv_callV1 (c_all (by rfl)) (by rfl) Z.f_all bt_all (ofO (jo_lc [("row", 1)] hp rfl sc_is_table.nd noPs_nil (blkOk_by (by rfl)) (ji_v (jv_name 0 rfl (Or.inr (Or.inl rfl)))) (fun s1 H1 C1 cl1 fp1 hp => (jh_name noP_nil sc_is_table.nd rfl (Or.inl rfl) (by decide))) (fun s1 H1 C1 cl1 fp1 hp => jts_nil) (fun s1 H1 C1 cl1 fp1 hp => (jv_c0 ⟨hF_is_row⟩ hp Sr.takes0 nodd (by rfl) (jl_cons (jv_name 1 rfl (Or.inl rfl)) (jl_cons (jv_callV1 c_len (by rfl) Z.f_len bt_len (jv_name 0 rfl (Or.inr (Or.inl rfl)))) jl_nil))))))))))
theorem ok_is_table (Z : Tx K mg) (hF_is_row : FnC P w K mg base 3 "is_row" (spF0 K mg false 2 f_is_row) ["value", "count"] []) {f : Addr} {fd : FuncData} {kws : List (Str × V)} (G : FunD K "is_table" "is_table" (defArgs st_is_table) (defBody st_is_table) (defScope st_is_table) [] kws f fd) : FnG P w K mg base 4 f fd ["value"] (spF0 K mg false 1 f_is_table) :=
  fn0 (P := P) (w := w) (mg := mg) (base := base) (ro := false) (s := b_is_table) (N := N_is_table) (ps := ["value"]) rfl rfl G sc_is_table fun cdv A outer s0 H E hr hgu => d_is_table Z hF_is_row hr hgu
abbrev N_row_classes : List Str := ["rows", "found", "many", "numbers", "later", "at", "row", "key"]
theorem sc_row_classes : FnScope N_row_classes ["rows"] (defScope st_row_classes) := ⟨rfl, rfl, rfl, by decide +kernel, rfl, by decide +kernel, by decide +kernel⟩
theorem d_row_classes (Z : Tx K mg)  {f : Addr} {cdv : Value} {A : Around} {outer : List Env} {s0 : Shared} {H : Hp} {E : XK} (hr : Room 0 (A.deeper (envOfC "row_classes" (defScope st_row_classes) s0.heap.objs.size f cdv))) (hgu : A.guards = some []) : JSs (cxOf (L2N.CX P w) P w K mg base N_row_classes "row_classes" (defScope st_row_classes) f cdv A outer s0 H E) [] (WE0 E) (defBody st_row_classes) b_row_classes := by
  have hp : Pl (cxOf (L2N.CX P w) P w K mg base N_row_classes "row_classes" (defScope st_row_classes) f cdv A outer s0 H E) 0 := ⟨hr, hgu⟩
  exact (js_cons (js_setLc [("row", 6)] hp rfl sc_row_classes.nd noPs_nil (blkOk_by (by rfl)) noP_nil rfl rfl (sw_true rfl rfl rfl rfl) (ji_v (jv_name 0 rfl (Or.inl rfl))) (fun s1 H1 C1 cl1 fp1 hp => (jh_name noP_nil sc_row_classes.nd rfl (Or.inl rfl) (by decide))) (fun s1 H1 C1 cl1 fp1 hp => jts_nil) (fun s1 H1 C1 cl1 fp1 hp => (jv_callTy c_int (by rfl) Z.f_int bt_int (jl_cons (jv_cmp (o_eq hp.u64) (jv_ix (jv_name 6 rfl (Or.inl rfl)) jv_int) (jv_gS (by rfl) Z.c_UP)) jl_nil).ja)))
    (js_cons (js_set noP_nil sc_row_classes.nd rfl (Or.inl rfl) jv_int)
    (js_cons (js_while (passes_of rfl) (jt_cmp (p_lt hp) (jv_name 2 rfl (Or.inl rfl)) (jv_lenSet (by rfl) Z.f_len (by rfl) Z.f_set (ofV (jv_name 1 rfl (Or.inl rfl)))))
    (js_cons (js_set noP_nil sc_row_classes.nd rfl (Or.inl rfl) (jv_lenSet (by rfl) Z.f_len (by rfl) Z.f_set (ofV (jv_name 1 rfl (Or.inl rfl)))))
    (js_cons (js_setO noP_nil sc_row_classes.nd rfl (Or.inl rfl) jo_dnewT)
    (js_cons (js_setO noP_nil sc_row_classes.nd rfl (Or.inl rfl) (jo_lst jl_nil.ja))
    (js_cons (js_for (passes_of rfl) rfl (ji_enumT (by rfl) Z.f_enumerate (jl_cons (jv_name 0 rfl (Or.inl rfl)) jl_nil).ja) (jg_tup rfl (jgs_cons (jg_name noP_nil sc_row_classes.nd rfl (Or.inl rfl)) (jgs_cons (jg_name noP_nil sc_row_classes.nd rfl (Or.inl rfl)) jgs_nil))) (ne_tup (nes_cons ne_name (nes_cons ne_name nes_nil)))
    (js_cons (js_set noP_nil sc_row_classes.nd rfl (Or.inl rfl) (jv_tup (jl_cons (jv_ix (jv_name 1 rfl (Or.inl rfl)) (jv_name 5 rfl (Or.inl rfl))) (jl_cons (jv_ix (jv_name 1 rfl (Or.inl rfl)) (jv_ix (jv_name 6 rfl (Or.inl rfl)) jv_int)) (jl_cons (jv_ix (jv_name 1 rfl (Or.inl rfl)) (jv_ix (jv_name 6 rfl (Or.inl rfl)) jv_int)) jl_nil))).ja))
    (js_cons (js_if (jt_cmpR (o_dnot hp) (jv_name 7 rfl (Or.inl rfl)) (jb_name 3 rfl (Or.inl rfl))) (js_one (js_dput (i := 3) hp rfl (Or.inl rfl) (jv_callB1 c_lenA (by rfl) Z.f_len bt_len (jb_name 3 rfl (Or.inl rfl))) (jv_name 7 rfl (Or.inl rfl)))) js_nil)
    (js_one (js_append (i := 4) rfl (Or.inl rfl) (jv_dgetB hp (jb_name 3 rfl (Or.inl rfl)) (jv_name 7 rfl (Or.inl rfl))))))))
    (js_one (js_set noP_nil sc_row_classes.nd rfl (Or.inl rfl) (jv_name 4 rfl (Or.inl rfl)))))))))
    (js_one (js_ret (jv_name 1 rfl (Or.inl rfl)))))))
theorem ok_row_classes (Z : Tx K mg)  {f : Addr} {fd : FuncData} {kws : List (Str × V)} (G : FunD K "row_classes" "row_classes" (defArgs st_row_classes) (defBody st_row_classes) (defScope st_row_classes) [] kws f fd) : FnG P w K mg base 1 f fd ["rows"] (spF0 K mg false 1 f_row_classes) :=
  fn0 (P := P) (w := w) (mg := mg) (base := base) (ro := false) (s := b_row_classes) (N := N_row_classes) (ps := ["rows"]) rfl rfl G sc_row_classes fun cdv A outer s0 H E hr hgu => d_row_classes Z  hr hgu
abbrev N_reached : List Str := ["rows", "start", "found", "known", "at", "later"]
theorem sc_reached : FnScope N_reached ["rows", "start"] (defScope st_reached) := ⟨rfl, rfl, rfl, by decide +kernel, rfl, by decide +kernel, by decide +kernel⟩
theorem d_reached (Z : Tx K mg)  {f : Addr} {cdv : Value} {A : Around} {outer : List Env} {s0 : Shared} {H : Hp} {E : XK} (hr : Room 0 (A.deeper (envOfC "reached" (defScope st_reached) s0.heap.objs.size f cdv))) (hgu : A.guards = some []) : JSs (cxOf (L2N.CX P w) P w K mg base N_reached "reached" (defScope st_reached) f cdv A outer s0 H E) [] (WE0 E) (defBody st_reached) b_reached := by
  have hp : Pl (cxOf (L2N.CX P w) P w K mg base N_reached "reached" (defScope st_reached) f cdv A outer s0 H E) 0 := ⟨hr, hgu⟩
  exact (js_cons (js_setO noP_nil sc_reached.nd rfl (Or.inl rfl) (jo_lst (jl_cons (jv_name 1 rfl (Or.inl rfl)) jl_nil).ja))
    (js_cons (js_setO noP_nil sc_reached.nd rfl (Or.inl rfl) (jo_disp (jps_cons (jv_name 1 rfl (Or.inl rfl)) jv_bl jps_nil)))
    (js_cons (js_set noP_nil sc_reached.nd rfl (Or.inl rfl) jv_int)
    (js_cons (js_while (passes_of rfl) (jt_cmp (p_lt hp) (jv_name 4 rfl (Or.inl rfl)) (jv_callB1 c_len (by rfl) Z.f_len bt_len (jb_name 2 rfl (Or.inl rfl))))
    (js_cons (js_for (passes_of rfl) rfl (ji_v (jv_slice (jv_ix (jv_name 0 rfl (Or.inl rfl)) (jv_ixB (jb_name 2 rfl (Or.inl rfl)) (jv_name 4 rfl (Or.inl rfl)))) (jp_some jv_int) jp_none)) (jg_name noP_nil sc_reached.nd rfl (Or.inl rfl)) ne_name
    (js_one (js_if (jt_cmpR (o_dnot hp) (jv_name 5 rfl (Or.inl rfl)) (jb_name 3 rfl (Or.inl rfl))) (js_cons (js_dput (i := 3) hp rfl (Or.inl rfl) jv_bl (jv_name 5 rfl (Or.inl rfl)))
    (js_one (js_append (i := 2) rfl (Or.inl rfl) (jv_name 5 rfl (Or.inl rfl))))) js_nil)))
    (js_one (js_set noP_nil sc_reached.nd rfl (Or.inl rfl) (jv_bin o_add (jv_name 4 rfl (Or.inl rfl)) jv_int)))))
    (js_one (js_ret (jv_name 2 rfl (Or.inl rfl))))))))
theorem ok_reached (Z : Tx K mg)  {f : Addr} {fd : FuncData} {kws : List (Str × V)} (G : FunD K "reached" "reached" (defArgs st_reached) (defBody st_reached) (defScope st_reached) [] kws f fd) : FnG P w K mg base 1 f fd ["rows", "start"] (spF0 K mg false 2 f_reached) :=
  fn0 (P := P) (w := w) (mg := mg) (base := base) (ro := false) (s := b_reached) (N := N_reached) (ps := ["rows", "start"]) rfl rfl G sc_reached fun cdv A outer s0 H E hr hgu => d_reached Z  hr hgu
abbrev N_smallest : List Str := ["rows", "start", "number", "places", "order", "at", "status", "one", "other"]
theorem sc_smallest : FnScope N_smallest ["rows", "start"] (defScope st_smallest) := ⟨rfl, rfl, rfl, by decide +kernel, rfl, by decide +kernel, by decide +kernel⟩
theorem d_smallest (Z : Tx K mg) (hF_row_classes : FnC P w K mg base 1 "row_classes" (spF0 K mg false 1 f_row_classes) ["rows"] []) (hF_reached : FnC P w K mg base 1 "reached" (spF0 K mg false 2 f_reached) ["rows", "start"] []) {f : Addr} {cdv : Value} {A : Around} {outer : List Env} {s0 : Shared} {H : Hp} {E : XK} (hr : Room 1 (A.deeper (envOfC "smallest" (defScope st_smallest) s0.heap.objs.size f cdv))) (hgu : A.guards = some []) : JSs (cxOf (L2N.CX P w) P w K mg base N_smallest "smallest" (defScope st_smallest) f cdv A outer s0 H E) [] (WE0 E) (defBody st_smallest) b_smallest := by
  have hp : Pl (cxOf (L2N.CX P w) P w K mg base N_smallest "smallest" (defScope st_smallest) f cdv A outer s0 H E) 1 := ⟨hr, hgu⟩
  exact (js_cons (js_set noP_nil sc_smallest.nd rfl (Or.inr rfl) (jv_c0 ⟨hF_row_classes⟩ hp (L2N.takes_of rfl rfl rfl rfl) nodd (by rfl) (jl_cons (jv_name 0 rfl (Or.inl rfl)) jl_nil)))
    (js_cons (js_setO noP_nil sc_smallest.nd rfl (Or.inr rfl) jo_dnewK)
    (js_cons (js_setO noP_nil sc_smallest.nd rfl (Or.inl rfl) (jo_lst jl_nil.ja))
    (js_cons (js_for (passes_of rfl) rfl (ji_v (jv_c0 ⟨hF_reached⟩ hp (L2N.takes_of rfl rfl rfl rfl) nodd (by rfl) (jl_cons (jv_name 0 rfl (Or.inl rfl)) (jl_cons (jv_name 1 rfl (Or.inl rfl)) jl_nil)))) (jg_name noP_nil sc_smallest.nd rfl (Or.inl rfl)) ne_name
    (js_one (js_if (jt_cmpR (o_dnot hp) (jv_ix (jv_name 2 rfl (Or.inr (Or.inl rfl))) (jv_name 5 rfl (Or.inl rfl))) (jb_name 3 rfl (Or.inr (Or.inl rfl)))) (js_cons (js_dput (i := 3) hp rfl (Or.inr (Or.inl rfl)) (jv_callB1 c_len (by rfl) Z.f_len bt_len (jb_name 4 rfl (Or.inl rfl))) (jv_ix (jv_name 2 rfl (Or.inr (Or.inl rfl))) (jv_name 5 rfl (Or.inl rfl))))
    (js_one (js_append (i := 4) rfl (Or.inl rfl) (jv_ix (jv_name 0 rfl (Or.inl rfl)) (jv_name 5 rfl (Or.inl rfl)))))) js_nil)))
    (js_one (js_ret (jv_callT1 c_tuple (by rfl) Z.f_tuple bt_tuple (ofO (jo_lc [("status", 6), ("one", 7), ("other", 8)] hp rfl sc_smallest.nd noPs_nil (blkOk_by (by rfl)) (ji_v (jv_name 4 rfl (Or.inl rfl))) (fun s1 H1 C1 cl1 fp1 hp => (jh_tup rfl (jhs_cons (jh_name noP_nil sc_smallest.nd rfl (Or.inl rfl) (by decide)) (jhs_cons (jh_name noP_nil sc_smallest.nd rfl (Or.inl rfl) (by decide)) (jhs_cons (jh_name noP_nil sc_smallest.nd rfl (Or.inl rfl) (by decide)) jhs_nil))))) (fun s1 H1 C1 cl1 fp1 hp => jts_nil) (fun s1 H1 C1 cl1 fp1 hp => (jv_tup (jl_cons (jv_name 6 rfl (Or.inl rfl)) (jl_cons (jv_dgetB hp (jb_name 3 rfl (Or.inr (Or.inl rfl))) (jv_ix (jv_name 2 rfl (Or.inr (Or.inl rfl))) (jv_name 7 rfl (Or.inl rfl)))) (jl_cons (jv_dgetB hp (jb_name 3 rfl (Or.inr (Or.inl rfl))) (jv_ix (jv_name 2 rfl (Or.inr (Or.inl rfl))) (jv_name 8 rfl (Or.inl rfl)))) jl_nil))).ja)))))))))))
theorem ok_smallest (Z : Tx K mg) (hF_row_classes : FnC P w K mg base 1 "row_classes" (spF0 K mg false 1 f_row_classes) ["rows"] []) (hF_reached : FnC P w K mg base 1 "reached" (spF0 K mg false 2 f_reached) ["rows", "start"] []) {f : Addr} {fd : FuncData} {kws : List (Str × V)} (G : FunD K "smallest" "smallest" (defArgs st_smallest) (defBody st_smallest) (defScope st_smallest) [] kws f fd) : FnG P w K mg base 2 f fd ["rows", "start"] (spF0 K mg false 2 f_smallest) :=
  fn0 (P := P) (w := w) (mg := mg) (base := base) (ro := false) (s := b_smallest) (N := N_smallest) (ps := ["rows", "start"]) rfl rfl G sc_smallest fun cdv A outer s0 H E hr hgu => d_smallest Z hF_row_classes hF_reached hr hgu
abbrev N_RuleU_initU : List Str := ["self", "table"]
theorem sc_RuleU_initU : FnScope N_RuleU_initU ["self", "table"] (defScope st_RuleU_initU) := ⟨rfl, rfl, rfl, by decide +kernel, rfl, by decide +kernel, by decide +kernel⟩
theorem d_RuleU_initU (Z : Tx K mg) (hF_is_table : FnC P w K mg base 4 "is_table" (spF0 K mg false 1 f_is_table) ["value"] []) (hF_smallest : FnC P w K mg base 2 "smallest" (spF0 K mg false 2 f_smallest) ["rows", "start"] []) {f : Addr} {cdv : Value} {A : Around} {outer : List Env} {s0 : Shared} {H : Hp} {E : XK} {p : Addr} (hr : Room 4 (A.deeper (envOfC "Rule.__init__" (defScope st_RuleU_initU) s0.heap.objs.size f cdv))) (hgu : A.guards = some []) : JSs (cxOf (L2N.CX P w) P w K mg base N_RuleU_initU "Rule.__init__" (defScope st_RuleU_initU) f cdv A outer s0 H E) [(0, p)] (WE0 E) (defBody st_RuleU_initU) b_RuleU_initU := by
  have hp : Pl (cxOf (L2N.CX P w) P w K mg base N_RuleU_initU "Rule.__init__" (defScope st_RuleU_initU) f cdv A outer s0 H E) 4 := ⟨hr, hgu⟩
  exact (js_cons (js_if (jt_not (jt_val (jv_c0 ⟨hF_is_table⟩ hp (L2N.takes_of rfl rfl rfl rfl) nodd (by rfl) (jl_cons (jv_name 1 rfl (Or.inl rfl)) jl_nil)))) (js_one (js_raise rfl (L2N.takes_of rfl rfl rfl rfl) Z.x_TableError (by rfl))) js_nil)
    (js_one (js_asg (jv_c0 ⟨hF_smallest⟩ hp (L2N.takes_of rfl rfl rfl rfl) nodd (by rfl) (jl_cons (jv_name 1 rfl (Or.inl rfl)) (jl_cons jv_int jl_nil))) (jg_attr ⟨Z.k_Rule, Z.cl_Rule⟩ Z.n_Rule_table rfl (Or.inl rfl)) ne_attr)))
theorem ok_RuleU_initU (Z : Tx K mg) (hF_is_table : FnC P w K mg base 4 "is_table" (spF0 K mg false 1 f_is_table) ["value"] []) (hF_smallest : FnC P w K mg base 2 "smallest" (spF0 K mg false 2 f_smallest) ["rows", "start"] []) {f : Addr} {fd : FuncData} {kws : List (Str × V)} (G : FunD K "__init__" "Rule.__init__" (defArgs st_RuleU_initU) (defBody st_RuleU_initU) (defScope st_RuleU_initU) [] kws f fd) : FnG P w K mg base 5 f fd ["self", "table"] (spF1 K mg false 2 f_RuleU_initU) :=
  fn1 (P := P) (w := w) (mg := mg) (base := base) (ro := false) (s := b_RuleU_initU) (N := N_RuleU_initU) (ps := ["self", "table"]) rfl rfl G sc_RuleU_initU fun cdv A outer s0 H E p hr hgu => d_RuleU_initU Z hF_is_table hF_smallest hr hgu
abbrev N_some_rule : List Str := []
theorem sc_some_rule : FnScope N_some_rule [] (defScope st_some_rule) := ⟨rfl, rfl, rfl, by decide +kernel, rfl, by decide +kernel, by decide +kernel⟩
theorem d_some_rule (Z : Tx K mg) (hM_Rule_1_ : ∃ f fd g, Mk K (He.ga K "Rule") f ∧ FnG P w K mg base 5 f fd ["self", "table"] (spF1 K mg false 2 f_RuleU_initU) ∧ KBn K fd ["self", "table"] 2 [] g gV_Rule_1_) {f : Addr} {cdv : Value} {A : Around} {outer : List Env} {s0 : Shared} {H : Hp} {E : XK} (hr : Room 6 (A.deeper (envOfC "some_rule" (defScope st_some_rule) s0.heap.objs.size f cdv))) (hgu : A.guards = some []) : JSs (cxOf (L2N.CX P w) P w K mg base N_some_rule "some_rule" (defScope st_some_rule) f cdv A outer s0 H E) [] (WE0 E) (defBody st_some_rule) b_some_rule := by
  have hp : Pl (cxOf (L2N.CX P w) P w K mg base N_some_rule "some_rule" (defScope st_some_rule) f cdv A outer s0 H E) 6 := ⟨hr, hgu⟩
  exact (js_one (js_ret (ofO (jo_make (C := He.ga K "Rule") ⟨⟨Z.k_Rule, Z.cl_Rule⟩, hM_Rule_1_⟩ (hp.room.mono (by decide)) hp.gu (L2N.takes_of rfl rfl rfl rfl) (by rfl) (jl_cons (jv_tup (jl_cons (jv_tup (jl_cons (jv_gS (by rfl) Z.c_UP) (jl_cons jv_int (jl_cons jv_int jl_nil))).ja) jl_nil).ja) jl_nil) jk_nil rel_Rule_1_))))
theorem ok_some_rule (Z : Tx K mg) (hM_Rule_1_ : ∃ f fd g, Mk K (He.ga K "Rule") f ∧ FnG P w K mg base 5 f fd ["self", "table"] (spF1 K mg false 2 f_RuleU_initU) ∧ KBn K fd ["self", "table"] 2 [] g gV_Rule_1_) {f : Addr} {fd : FuncData} {kws : List (Str × V)} (G : FunD K "some_rule" "some_rule" (defArgs st_some_rule) (defBody st_some_rule) (defScope st_some_rule) [] kws f fd) : FnG P w K mg base 7 f fd [] (spF0 K mg false 0 f_some_rule) :=
  fn0 (P := P) (w := w) (mg := mg) (base := base) (ro := false) (s := b_some_rule) (N := N_some_rule) (ps := []) rfl rfl G sc_some_rule fun cdv A outer s0 H E hr hgu => d_some_rule Z hM_Rule_1_ hr hgu
abbrev N_next_situations : List Str := ["limits", "situation", "check", "is_first", "some", "its", "sign", "later"]
theorem sc_next_situations : FnScope N_next_situations ["limits", "situation", "check", "is_first"] (defScope st_next_situations) := ⟨rfl, rfl, rfl, by decide +kernel, rfl, by decide +kernel, by decide +kernel⟩
theorem d_next_situations (Z : Tx K mg) (hF_steps_from : FnC P w K mg base 3 "steps_from" (spF0 K mg false 3 f_steps_from) ["rule", "limits", "situation"] []) (hF_some_rule : FnC P w K mg base 7 "some_rule" (spF0 K mg false 0 f_some_rule) [] []) {f : Addr} {cdv : Value} {A : Around} {outer : List Env} {s0 : Shared} {H : Hp} {E : XK} (hr : Room 7 (A.deeper (envOfC "next_situations" (defScope st_next_situations) s0.heap.objs.size f cdv))) (hgu : A.guards = some []) : JSs (cxOf (L2N.CX P w) P w K mg base N_next_situations "next_situations" (defScope st_next_situations) f cdv A outer s0 H E) [] (WE0 E) (defBody st_next_situations) b_next_situations := by
  have hp : Pl (cxOf (L2N.CX P w) P w K mg base N_next_situations "next_situations" (defScope st_next_situations) f cdv A outer s0 H E) 7 := ⟨hr, hgu⟩
  exact (js_cons (js_set noP_nil sc_next_situations.nd rfl (Or.inl rfl) (jv_c0 ⟨hF_steps_from⟩ hp (L2N.takes_of rfl rfl rfl rfl) nodd (by rfl) (jl_cons (jv_c00 ⟨hF_some_rule⟩ hp (L2N.takes_of rfl rfl rfl rfl) nodd (by rfl)) (jl_cons (jv_name 0 rfl (Or.inl rfl)) (jl_cons (jv_name 1 rfl (Or.inr (Or.inl rfl))) jl_nil)))))
    (js_one (js_ret (ofO (jo_lc [("its", 5), ("sign", 6), ("later", 7)] hp rfl sc_next_situations.nd noPs_nil (blkOk_by (by rfl)) (ji_v (jv_name 4 rfl (Or.inl rfl))) (fun s1 H1 C1 cl1 fp1 hp => (jh_tup rfl (jhs_cons (jh_name noP_nil sc_next_situations.nd rfl (Or.inl rfl) (by decide)) (jhs_cons (jh_name noP_nil sc_next_situations.nd rfl (Or.inl rfl) (by decide)) (jhs_cons (jh_name noP_nil sc_next_situations.nd rfl (Or.inl rfl) (by decide)) jhs_nil))))) (fun s1 H1 C1 cl1 fp1 hp => (jts_one (ofW (jw_and (jt_cmp (o_eq hp.u64) (jv_name 6 rfl (Or.inl rfl)) (jv_name 2 rfl (Or.inr (Or.inl rfl)))) (jw_and1 (ofW (jw_or (jt_cmp (o_eq hp.u64) (jv_name 5 rfl (Or.inl rfl)) (jv_ix (jv_name 1 rfl (Or.inr (Or.inl rfl))) jv_int)) (jw_or1 (jt_not (jt_val (jv_name 3 rfl (Or.inr (Or.inl rfl))))))))))))) (fun s1 H1 C1 cl1 fp1 hp => (jv_tup (jl_cons (jv_name 5 rfl (Or.inl rfl)) (jl_cons (jv_name 7 rfl (Or.inl rfl)) jl_nil)).ja)))))))
theorem ok_next_situations (Z : Tx K mg) (hF_steps_from : FnC P w K mg base 3 "steps_from" (spF0 K mg false 3 f_steps_from) ["rule", "limits", "situation"] []) (hF_some_rule : FnC P w K mg base 7 "some_rule" (spF0 K mg false 0 f_some_rule) [] []) {f : Addr} {fd : FuncData} {kws : List (Str × V)} (G : FunD K "next_situations" "next_situations" (defArgs st_next_situations) (defBody st_next_situations) (defScope st_next_situations) [] kws f fd) : FnG P w K mg base 8 f fd ["limits", "situation", "check", "is_first"] (spF0 K mg false 4 f_next_situations) :=
  fn0 (P := P) (w := w) (mg := mg) (base := base) (ro := false) (s := b_next_situations) (N := N_next_situations) (ps := ["limits", "situation", "check", "is_first"]) rfl rfl G sc_next_situations fun cdv A outer s0 H E hr hgu => d_next_situations Z hF_steps_from hF_some_rule hr hgu
abbrev N_fewest_errors : List Str := ["limits", "checks", "best", "at", "check", "later_best", "situation", "errors", "states", "its", "later", "found", "least"]
theorem sc_fewest_errors : FnScope N_fewest_errors ["limits", "checks"] (defScope st_fewest_errors) := ⟨rfl, rfl, rfl, by decide +kernel, rfl, by decide +kernel, by decide +kernel⟩
theorem d_fewest_errors (Z : Tx K mg) (hF_check_log : FnC P w K mg base 3 "check_log" (spF0 K mg false 2 f_check_log) ["limits", "checks"] []) (hF_beginnings : FnC P w K mg base 3 "beginnings" (spF0 K mg false 1 f_beginnings) ["limits"] []) (hF_next_situations : FnC P w K mg base 8 "next_situations" (spF0 K mg false 4 f_next_situations) ["limits", "situation", "check", "is_first"] []) (hF_flag_of : FnC P w K mg base 1 "flag_of" (spF0 K mg false 2 f_flag_of) ["state", "check"] []) {f : Addr} {cdv : Value} {A : Around} {outer : List Env} {s0 : Shared} {H : Hp} {E : XK} (hr : Room 8 (A.deeper (envOfC "fewest_errors" (defScope st_fewest_errors) s0.heap.objs.size f cdv))) (hgu : A.guards = some []) : JSs (cxOf (L2N.CX P w) P w K mg base N_fewest_errors "fewest_errors" (defScope st_fewest_errors) f cdv A outer s0 H E) [] (WE0 E) (defBody st_fewest_errors) b_fewest_errors := by
  have hp : Pl (cxOf (L2N.CX P w) P w K mg base N_fewest_errors "fewest_errors" (defScope st_fewest_errors) f cdv A outer s0 H E) 8 := ⟨hr, hgu⟩
  exact (js_cons (js_expr (jv_c0 ⟨hF_check_log⟩ hp (L2N.takes_of rfl rfl rfl rfl) nodd (by rfl) (jl_cons (jv_name 0 rfl (Or.inl rfl)) (jl_cons (jv_name 1 rfl (Or.inl rfl)) jl_nil))))
    (js_cons (js_setDcO [("situation", 6)] hp rfl sc_fewest_errors.nd noPs_nil (blkOk_by (by rfl)) noP_nil rfl rfl (sw_trueD rfl rfl rfl rfl) (ji_v (jv_c0 ⟨hF_beginnings⟩ hp (L2N.takes_of rfl rfl rfl rfl) nodd (by rfl) (jl_cons (jv_name 0 rfl (Or.inl rfl)) jl_nil))) (fun s1 H1 C1 cl1 fp1 hp => (jh_name noP_nil sc_fewest_errors.nd rfl (Or.inl rfl) (by decide))) (fun s1 H1 C1 cl1 fp1 hp => jts_nil) (fun s1 H1 C1 cl1 fp1 hp => (jv_name 6 rfl (Or.inl rfl))) (fun s1 H1 C1 cl1 fp1 hp => (jv_tup (jl_cons jv_int (jl_cons jv_str jl_nil)).ja)))
    (js_cons (js_for (passes_of rfl) rfl (ji_enumA (by rfl) Z.f_enumerate (jl_cons (jv_name 1 rfl (Or.inl rfl)) jl_nil).ja) (jg_tup rfl (jgs_cons (jg_name noP_nil sc_fewest_errors.nd rfl (Or.inl rfl)) (jgs_cons (jg_name noP_nil sc_fewest_errors.nd rfl (Or.inl rfl)) jgs_nil))) (ne_tup (nes_cons ne_name (nes_cons ne_name nes_nil)))
    (js_cons (js_setO noP_nil sc_fewest_errors.nd rfl (Or.inl rfl) jo_dnewK)
    (js_cons (js_forI 2 (passes_of rfl) rfl rfl (Or.inl rfl) (fun p0 => (jg_tup rfl (jgs_cons (jg_name (noP_cons (by decide) noP_nil) sc_fewest_errors.nd rfl (Or.inl rfl)) (jgs_cons (jg_tup rfl (jgs_cons (jg_name (noP_cons (by decide) noP_nil) sc_fewest_errors.nd rfl (Or.inl rfl)) (jgs_cons (jg_name (noP_cons (by decide) noP_nil) sc_fewest_errors.nd rfl (Or.inl rfl)) jgs_nil))) jgs_nil)))) (ne_tup (nes_cons ne_name (nes_cons (ne_tup (nes_cons ne_name (nes_cons ne_name nes_nil))) nes_nil)))
    (fun p0 => (js_one (js_for (passes_of rfl) rfl (ji_v (jv_c0 ⟨hF_next_situations⟩ hp (L2N.takes_of rfl rfl rfl rfl) nodd (by rfl) (jl_cons (jv_name 0 rfl (Or.inl rfl)) (jl_cons (jv_name 6 rfl (Or.inl rfl)) (jl_cons (jv_name 4 rfl (Or.inl rfl)) (jl_cons (jv_cmp (o_eq hp.u64) (jv_name 3 rfl (Or.inl rfl)) jv_int) jl_nil)))))) (jg_tup rfl (jgs_cons (jg_name (noP_cons (by decide) noP_nil) sc_fewest_errors.nd rfl (Or.inl rfl)) (jgs_cons (jg_name (noP_cons (by decide) noP_nil) sc_fewest_errors.nd rfl (Or.inl rfl)) jgs_nil))) (ne_tup (nes_cons ne_name (nes_cons ne_name nes_nil)))
    (js_cons (js_set (noP_cons (by decide) noP_nil) sc_fewest_errors.nd rfl (Or.inl rfl) (jv_tup (jl_cons (jv_bin o_add (jv_name 7 rfl (Or.inl rfl)) (jv_callTy c_int (by rfl) Z.f_int bt_int (jl_cons (jv_cmp (o_ne hp.u64) (jv_c0 ⟨hF_flag_of⟩ hp (L2N.takes_of rfl rfl rfl rfl) nodd (by rfl) (jl_cons (jv_name 9 rfl (Or.inl rfl)) (jl_cons (jv_name 4 rfl (Or.inl rfl)) jl_nil))) (jv_gS (by rfl) Z.c_NO_ERROR)) jl_nil).ja)) (jl_cons (jv_bin o_add (jv_name 8 rfl (Or.inl rfl)) (jv_name 9 rfl (Or.inl rfl))) jl_nil)).ja))
    (js_one (js_if (ofW (jw_or (jt_cmpR (o_dnot hp) (jv_name 10 rfl (Or.inl rfl)) (jb_name 5 rfl (Or.inl rfl))) (jw_or1 (jt_cmp (o_ltIS hp.u0) (jv_name 11 rfl (Or.inl rfl)) (jv_dgetB hp (jb_name 5 rfl (Or.inl rfl)) (jv_name 10 rfl (Or.inl rfl))))))) (js_one (js_dput (i := 5) hp rfl (Or.inl rfl) (jv_name 11 rfl (Or.inl rfl)) (jv_name 10 rfl (Or.inl rfl)))) js_nil)))))))
    (js_one (js_move 2 5 noP_nil sc_fewest_errors.nd rfl (Or.inl rfl) rfl (Or.inl rfl))))))
    (js_cons (js_set noP_nil sc_fewest_errors.nd rfl (Or.inl rfl) jv_non)
    (js_cons (js_for (passes_of rfl) rfl (ji_v (ofO (jo_vals 2 rfl (by rfl) Z.f_list rfl (Or.inl rfl)))) (jg_name noP_nil sc_fewest_errors.nd rfl (Or.inl rfl)) ne_name
    (js_one (js_if (ofW (jw_or (jt_isN (jv_name 12 rfl (Or.inl rfl))) (jw_or1 (jt_cmp (o_ltIS hp.u0) (jv_name 11 rfl (Or.inl rfl)) (jv_name 12 rfl (Or.inl rfl)))))) (js_one (js_set noP_nil sc_fewest_errors.nd rfl (Or.inl rfl) (jv_name 11 rfl (Or.inl rfl)))) js_nil)))
    (js_one (js_ret (jv_name 12 rfl (Or.inl rfl)))))))))
theorem ok_fewest_errors (Z : Tx K mg) (hF_check_log : FnC P w K mg base 3 "check_log" (spF0 K mg false 2 f_check_log) ["limits", "checks"] []) (hF_beginnings : FnC P w K mg base 3 "beginnings" (spF0 K mg false 1 f_beginnings) ["limits"] []) (hF_next_situations : FnC P w K mg base 8 "next_situations" (spF0 K mg false 4 f_next_situations) ["limits", "situation", "check", "is_first"] []) (hF_flag_of : FnC P w K mg base 1 "flag_of" (spF0 K mg false 2 f_flag_of) ["state", "check"] []) {f : Addr} {fd : FuncData} {kws : List (Str × V)} (G : FunD K "fewest_errors" "fewest_errors" (defArgs st_fewest_errors) (defBody st_fewest_errors) (defScope st_fewest_errors) [] kws f fd) : FnG P w K mg base 9 f fd ["limits", "checks"] (spF0 K mg false 2 f_fewest_errors) :=
  fn0 (P := P) (w := w) (mg := mg) (base := base) (ro := false) (s := b_fewest_errors) (N := N_fewest_errors) (ps := ["limits", "checks"]) rfl rfl G sc_fewest_errors fun cdv A outer s0 H E hr hgu => d_fewest_errors Z hF_check_log hF_beginnings hF_next_situations hF_flag_of hr hgu
abbrev N__law_spelled : List Str := ["_law_row", "_law_state", "_law_age", "_law_flags"]
theorem sc__law_spelled : FnScope N__law_spelled ["_law_row", "_law_state", "_law_age", "_law_flags"] (defScope st__law_spelled) := ⟨rfl, rfl, rfl, by decide +kernel, rfl, by decide +kernel, by decide +kernel⟩
theorem d__law_spelled (Z : Tx K mg)  {f : Addr} {cdv : Value} {A : Around} {outer : List Env} {s0 : Shared} {H : Hp} {E : XK} (hr : Room 0 (A.deeper (envOfC "_law_spelled" (defScope st__law_spelled) s0.heap.objs.size f cdv))) (hgu : A.guards = some []) : JSs (cxOf (L2N.CX P w) P w K mg base N__law_spelled "_law_spelled" (defScope st__law_spelled) f cdv A outer s0 H E) [] (WE0 E) (defBody st__law_spelled) b__law_spelled := by
  have hp : Pl (cxOf (L2N.CX P w) P w K mg base N__law_spelled "_law_spelled" (defScope st__law_spelled) f cdv A outer s0 H E) 0 := ⟨hr, hgu⟩
  exact (js_one (js_ret (jv_bin o_add (jv_bin o_add (jv_bin o_add (jv_bin o_add (jv_bin o_mulA jv_str (jv_callTy c_int (by rfl) Z.f_int bt_int (jl_cons (jv_cmp (p_lt hp) (jv_name 0 rfl (Or.inl rfl)) jv_int) jl_nil).ja)) (jv_callT1 c_str (by rfl) Z.f_str bt_str (jv_name 0 rfl (Or.inl rfl)))) (jv_name 1 rfl (Or.inl rfl))) (jv_callT1 c_str (by rfl) Z.f_str bt_str (jv_name 2 rfl (Or.inl rfl)))) (jv_name 3 rfl (Or.inl rfl)))))
theorem ok__law_spelled (Z : Tx K mg)  {f : Addr} {fd : FuncData} {kws : List (Str × V)} (G : FunD K "_law_spelled" "_law_spelled" (defArgs st__law_spelled) (defBody st__law_spelled) (defScope st__law_spelled) [] kws f fd) : FnG P w K mg base 1 f fd ["_law_row", "_law_state", "_law_age", "_law_flags"] (spF0 K mg false 4 f__law_spelled) :=
  fn0 (P := P) (w := w) (mg := mg) (base := base) (ro := false) (s := b__law_spelled) (N := N__law_spelled) (ps := ["_law_row", "_law_state", "_law_age", "_law_flags"]) rfl rfl G sc__law_spelled fun cdv A outer s0 H E hr hgu => d__law_spelled Z  hr hgu
abbrev N__law_beginnings : List Str := ["_law_numbers_here", "_law_flags"]
theorem sc__law_beginnings : FnScope N__law_beginnings ["_law_numbers_here"] (defScope st__law_beginnings) := ⟨rfl, rfl, rfl, by decide +kernel, rfl, by decide +kernel, by decide +kernel⟩
theorem d__law_beginnings (Z : Tx K mg) (hF__law_spelled : FnC P w K mg base 1 "_law_spelled" (spF0 K mg false 4 f__law_spelled) ["_law_row", "_law_state", "_law_age", "_law_flags"] []) {f : Addr} {cdv : Value} {A : Around} {outer : List Env} {s0 : Shared} {H : Hp} {E : XK} (hr : Room 1 (A.deeper (envOfC "_law_beginnings" (defScope st__law_beginnings) s0.heap.objs.size f cdv))) (hgu : A.guards = some []) : JSs (cxOf (L2N.CX P w) P w K mg base N__law_beginnings "_law_beginnings" (defScope st__law_beginnings) f cdv A outer s0 H E) [] (WE0 E) (defBody st__law_beginnings) b__law_beginnings := by
  have hp : Pl (cxOf (L2N.CX P w) P w K mg base N__law_beginnings "_law_beginnings" (defScope st__law_beginnings) f cdv A outer s0 H E) 1 := ⟨hr, hgu⟩
  exact (js_cons (js_set noP_nil sc__law_beginnings.nd rfl (Or.inl rfl) (jv_bin o_mulA jv_str (jv_bin o_sub (jv_ix (jv_name 0 rfl (Or.inl rfl)) jv_int) jv_int)))
    (js_one (js_ret (ofO (jo_lst (jl_cons (jv_c0 ⟨hF__law_spelled⟩ hp (L2N.takes_of rfl rfl rfl rfl) nodd (by rfl) (jl_cons jv_int (jl_cons jv_str (jl_cons (jv_ix (jv_name 0 rfl (Or.inl rfl)) jv_int) (jl_cons (jv_name 1 rfl (Or.inl rfl)) jl_nil))))) (jl_cons (jv_c0 ⟨hF__law_spelled⟩ hp (L2N.takes_of rfl rfl rfl rfl) nodd (by rfl) (jl_cons jv_int (jl_cons jv_str (jl_cons (jv_ix (jv_name 0 rfl (Or.inl rfl)) jv_int) (jl_cons (jv_name 1 rfl (Or.inl rfl)) jl_nil))))) jl_nil)).ja)))))
theorem ok__law_beginnings (Z : Tx K mg) (hF__law_spelled : FnC P w K mg base 1 "_law_spelled" (spF0 K mg false 4 f__law_spelled) ["_law_row", "_law_state", "_law_age", "_law_flags"] []) {f : Addr} {fd : FuncData} {kws : List (Str × V)} (G : FunD K "_law_beginnings" "_law_beginnings" (defArgs st__law_beginnings) (defBody st__law_beginnings) (defScope st__law_beginnings) [] kws f fd) : FnG P w K mg base 2 f fd ["_law_numbers_here"] (spF0 K mg false 1 f__law_beginnings) :=
  fn0 (P := P) (w := w) (mg := mg) (base := base) (ro := false) (s := b__law_beginnings) (N := N__law_beginnings) (ps := ["_law_numbers_here"]) rfl rfl G sc__law_beginnings fun cdv A outer s0 H E hr hgu => d__law_beginnings Z hF__law_spelled hr hgu
abbrev N__law_steps : List Str := ["_law_rows", "_law_numbers_here", "_law_place", "_law_row", "_law_age", "_law_found", "_law_later", "_law_grown", "_law_check", "_law_marks", "_law_there"]
theorem sc__law_steps : FnScope N__law_steps ["_law_rows", "_law_numbers_here", "_law_place"] (defScope st__law_steps) := ⟨rfl, rfl, rfl, by decide +kernel, rfl, by decide +kernel, by decide +kernel⟩
theorem d__law_steps (Z : Tx K mg) (hF__law_flag : FnC P w K mg base 1 "_law_flag" (spF0 K mg false 2 f__law_flag) ["_law_state", "_law_check"] []) (hF__law_let : FnC P w K mg base 1 "_law_let" (spF0 K mg false 2 f__law_let) ["_law_numbers_here", "_law_flags"] []) (hF__law_spelled : FnC P w K mg base 1 "_law_spelled" (spF0 K mg false 4 f__law_spelled) ["_law_row", "_law_state", "_law_age", "_law_flags"] []) {f : Addr} {cdv : Value} {A : Around} {outer : List Env} {s0 : Shared} {H : Hp} {E : XK} (hr : Room 1 (A.deeper (envOfC "_law_steps" (defScope st__law_steps) s0.heap.objs.size f cdv))) (hgu : A.guards = some []) : JSs (cxOf (L2N.CX P w) P w K mg base N__law_steps "_law_steps" (defScope st__law_steps) f cdv A outer s0 H E) [] (WE0 E) (defBody st__law_steps) b__law_steps := by
  have hp : Pl (cxOf (L2N.CX P w) P w K mg base N__law_steps "_law_steps" (defScope st__law_steps) f cdv A outer s0 H E) 1 := ⟨hr, hgu⟩
  exact (js_cons (js_parM3 noP_nil noP_nil noP_nil rfl sc__law_steps.nd rfl rfl rfl (by decide) (by decide) (by decide) rfl rfl rfl (jm_cons (jv_ix (jv_name 0 rfl (Or.inl rfl)) (jv_callTy c_intS (by rfl) Z.f_int bt_int (jl_cons (jv_slice (jv_name 2 rfl (Or.inl rfl)) jp_none (jp_some jv_int)) jl_nil).ja)) (jm_cons (jv_callTy c_intS (by rfl) Z.f_int bt_int (jl_cons (jv_ix (jv_name 2 rfl (Or.inl rfl)) jv_int) jl_nil).ja) (jm_consO (jo_lst jl_nil.ja) jm_nil))))
    (js_cons (js_for (passes_of rfl) rfl (ji_v jv_str) (jg_name noP_nil sc__law_steps.nd rfl (Or.inl rfl)) ne_name
    (js_cons (js_set noP_nil sc__law_steps.nd rfl (Or.inl rfl) (jv_bin o_add (jv_name 4 rfl (Or.inl rfl)) (jv_callTy c_int (by rfl) Z.f_int bt_int (jl_cons (jv_cmp (p_lt hp) (jv_name 4 rfl (Or.inl rfl)) (jv_ix (jv_name 1 rfl (Or.inl rfl)) jv_int)) jl_nil).ja)))
    (js_cons (js_if (jt_cmp (o_ne hp.u64) (jv_name 6 rfl (Or.inl rfl)) (jv_ix (jv_name 2 rfl (Or.inl rfl)) jv_int)) (js_one (js_set noP_nil sc__law_steps.nd rfl (Or.inl rfl) (jv_if (jt_cmp (o_eq hp.u64) (jv_name 4 rfl (Or.inl rfl)) (jv_ix (jv_name 1 rfl (Or.inl rfl)) jv_int)) jv_int jv_int))) js_nil)
    (js_one (js_for (passes_of rfl) rfl (ji_v jv_str) (jg_name noP_nil sc__law_steps.nd rfl (Or.inl rfl)) ne_name
    (js_cons (js_set noP_nil sc__law_steps.nd rfl (Or.inl rfl) (jv_bin o_add (jv_slice (jv_name 2 rfl (Or.inl rfl)) (jp_some jv_int) jp_none) (jv_c0 ⟨hF__law_flag⟩ hp (L2N.takes_of rfl rfl rfl rfl) nodd (by rfl) (jl_cons (jv_name 6 rfl (Or.inl rfl)) (jl_cons (jv_name 8 rfl (Or.inl rfl)) jl_nil)))))
    (js_one (js_if (ofW (jw_and (jt_cmp p_gt (jv_name 7 rfl (Or.inl rfl)) jv_int) (jw_and1 (jt_val (jv_c0 ⟨hF__law_let⟩ hp (L2N.takes_of rfl rfl rfl rfl) nodd (by rfl) (jl_cons (jv_name 1 rfl (Or.inl rfl)) (jl_cons (jv_name 9 rfl (Or.inl rfl)) jl_nil))))))) (js_cons (js_set noP_nil sc__law_steps.nd rfl (Or.inl rfl) (jv_ix (jv_name 3 rfl (Or.inl rfl)) (jv_bin o_add jv_int (jv_callTy c_int (by rfl) Z.f_int bt_int (jl_cons (jv_cmp (o_eq hp.u64) (jv_name 8 rfl (Or.inl rfl)) jv_str) jl_nil).ja))))
    (js_one (js_append (i := 5) rfl (Or.inl rfl) (jv_tup (jl_cons (jv_name 6 rfl (Or.inl rfl)) (jl_cons (jv_name 8 rfl (Or.inl rfl)) (jl_cons (jv_c0 ⟨hF__law_spelled⟩ hp (L2N.takes_of rfl rfl rfl rfl) nodd (by rfl) (jl_cons (jv_name 10 rfl (Or.inl rfl)) (jl_cons (jv_name 6 rfl (Or.inl rfl)) (jl_cons (jv_name 7 rfl (Or.inl rfl)) (jl_cons (jv_slice (jv_name 9 rfl (Or.inl rfl)) (jp_some jv_int) jp_none) jl_nil))))) jl_nil))).ja)))) js_nil))))))))
    (js_one (js_ret (jv_callTy1 c_tuple (by rfl) Z.f_tuple bt_tuple (jb_name 5 rfl (Or.inl rfl)))))))
theorem ok__law_steps (Z : Tx K mg) (hF__law_flag : FnC P w K mg base 1 "_law_flag" (spF0 K mg false 2 f__law_flag) ["_law_state", "_law_check"] []) (hF__law_let : FnC P w K mg base 1 "_law_let" (spF0 K mg false 2 f__law_let) ["_law_numbers_here", "_law_flags"] []) (hF__law_spelled : FnC P w K mg base 1 "_law_spelled" (spF0 K mg false 4 f__law_spelled) ["_law_row", "_law_state", "_law_age", "_law_flags"] []) {f : Addr} {fd : FuncData} {kws : List (Str × V)} (G : FunD K "_law_steps" "_law_steps" (defArgs st__law_steps) (defBody st__law_steps) (defScope st__law_steps) [] kws f fd) : FnG P w K mg base 2 f fd ["_law_rows", "_law_numbers_here", "_law_place"] (spF0 K mg false 3 f__law_steps) :=
  fn0 (P := P) (w := w) (mg := mg) (base := base) (ro := false) (s := b__law_steps) (N := N__law_steps) (ps := ["_law_rows", "_law_numbers_here", "_law_place"]) rfl rfl G sc__law_steps fun cdv A outer s0 H E hr hgu => d__law_steps Z hF__law_flag hF__law_let hF__law_spelled hr hgu
abbrev N__law_log_steps : List Str := ["_law_numbers_here", "_law_place", "_law_check", "_law_is_first", "_law_found", "_law_its", "_law_sign", "_law_there"]
theorem sc__law_log_steps : FnScope N__law_log_steps ["_law_numbers_here", "_law_place", "_law_check", "_law_is_first"] (defScope st__law_log_steps) := ⟨rfl, rfl, rfl, by decide +kernel, rfl, by decide +kernel, by decide +kernel⟩
theorem d__law_log_steps (Z : Tx K mg) (hF__law_steps : FnC P w K mg base 2 "_law_steps" (spF0 K mg false 3 f__law_steps) ["_law_rows", "_law_numbers_here", "_law_place"] []) {f : Addr} {cdv : Value} {A : Around} {outer : List Env} {s0 : Shared} {H : Hp} {E : XK} (hr : Room 2 (A.deeper (envOfC "_law_log_steps" (defScope st__law_log_steps) s0.heap.objs.size f cdv))) (hgu : A.guards = some []) : JSs (cxOf (L2N.CX P w) P w K mg base N__law_log_steps "_law_log_steps" (defScope st__law_log_steps) f cdv A outer s0 H E) [] (WE0 E) (defBody st__law_log_steps) b__law_log_steps := by
  have hp : Pl (cxOf (L2N.CX P w) P w K mg base N__law_log_steps "_law_log_steps" (defScope st__law_log_steps) f cdv A outer s0 H E) 2 := ⟨hr, hgu⟩
  exact (js_cons (js_setO noP_nil sc__law_log_steps.nd rfl (Or.inl rfl) (jo_lst jl_nil.ja))
    (js_cons (js_for (passes_of rfl) rfl (ji_v (jv_c0 ⟨hF__law_steps⟩ hp (L2N.takes_of rfl rfl rfl rfl) nodd (by rfl) (jl_cons (jv_tup (jl_cons (jv_tup (jl_cons jv_str (jl_cons jv_int (jl_cons jv_int jl_nil))).ja) jl_nil).ja) (jl_cons (jv_name 0 rfl (Or.inl rfl)) (jl_cons (jv_name 1 rfl (Or.inl rfl)) jl_nil))))) (jg_tup rfl (jgs_cons (jg_name noP_nil sc__law_log_steps.nd rfl (Or.inl rfl)) (jgs_cons (jg_name noP_nil sc__law_log_steps.nd rfl (Or.inl rfl)) (jgs_cons (jg_name noP_nil sc__law_log_steps.nd rfl (Or.inl rfl)) jgs_nil)))) (ne_tup (nes_cons ne_name (nes_cons ne_name (nes_cons ne_name nes_nil))))
    (js_one (js_if (ofW (jw_and (jt_cmp (o_eq hp.u64) (jv_name 6 rfl (Or.inl rfl)) (jv_name 2 rfl (Or.inl rfl))) (jw_and1 (ofW (jw_or (jt_not (jt_val (jv_name 3 rfl (Or.inl rfl)))) (jw_or1 (jt_cmp (o_eq hp.u64) (jv_name 5 rfl (Or.inl rfl)) (jv_ix (jv_name 1 rfl (Or.inl rfl)) jv_int)))))))) (js_one (js_append (i := 4) rfl (Or.inl rfl) (jv_tup (jl_cons (jv_name 5 rfl (Or.inl rfl)) (jl_cons (jv_name 7 rfl (Or.inl rfl)) jl_nil)).ja))) js_nil)))
    (js_one (js_ret (jv_name 4 rfl (Or.inl rfl))))))
theorem ok__law_log_steps (Z : Tx K mg) (hF__law_steps : FnC P w K mg base 2 "_law_steps" (spF0 K mg false 3 f__law_steps) ["_law_rows", "_law_numbers_here", "_law_place"] []) {f : Addr} {fd : FuncData} {kws : List (Str × V)} (G : FunD K "_law_log_steps" "_law_log_steps" (defArgs st__law_log_steps) (defBody st__law_log_steps) (defScope st__law_log_steps) [] kws f fd) : FnG P w K mg base 3 f fd ["_law_numbers_here", "_law_place", "_law_check", "_law_is_first"] (spF0 K mg false 4 f__law_log_steps) :=
  fn0 (P := P) (w := w) (mg := mg) (base := base) (ro := false) (s := b__law_log_steps) (N := N__law_log_steps) (ps := ["_law_numbers_here", "_law_place", "_law_check", "_law_is_first"]) rfl rfl G sc__law_log_steps fun cdv A outer s0 H E hr hgu => d__law_log_steps Z hF__law_steps hr hgu
abbrev N__law_long : List Str := ["_law_numbers_here", "_law_checks_here", "_law_best", "_law_found", "_law_place", "_law_at", "_law_further", "_law_its", "_law_there", "_law_many"]
theorem sc__law_long : FnScope N__law_long ["_law_numbers_here", "_law_checks_here"] (defScope st__law_long) := ⟨rfl, rfl, rfl, by decide +kernel, rfl, by decide +kernel, by decide +kernel⟩
theorem d__law_long (Z : Tx K mg) (hF__law_beginnings : FnC P w K mg base 2 "_law_beginnings" (spF0 K mg false 1 f__law_beginnings) ["_law_numbers_here"] []) (hF__law_log_steps : FnC P w K mg base 3 "_law_log_steps" (spF0 K mg false 4 f__law_log_steps) ["_law_numbers_here", "_law_place", "_law_check", "_law_is_first"] []) (hF__law_flag : FnC P w K mg base 1 "_law_flag" (spF0 K mg false 2 f__law_flag) ["_law_state", "_law_check"] []) (hF__law_better : FnC P w K mg base 1 "_law_better" (spF0 K mg false 2 f__law_better) ["_law_one", "_law_other"] []) {f : Addr} {cdv : Value} {A : Around} {outer : List Env} {s0 : Shared} {H : Hp} {E : XK} (hr : Room 3 (A.deeper (envOfC "_law_long" (defScope st__law_long) s0.heap.objs.size f cdv))) (hgu : A.guards = some []) : JSs (cxOf (L2N.CX P w) P w K mg base N__law_long "_law_long" (defScope st__law_long) f cdv A outer s0 H E) [] (WE0 E) (defBody st__law_long) b__law_long := by
  have hp : Pl (cxOf (L2N.CX P w) P w K mg base N__law_long "_law_long" (defScope st__law_long) f cdv A outer s0 H E) 3 := ⟨hr, hgu⟩
  exact (js_cons (js_parM2 noP_nil noP_nil rfl sc__law_long.nd rfl rfl (by decide) rfl rfl (jm_consO jo_dnewK (jm_cons jv_non jm_nil)))
    (js_cons (js_for (passes_of rfl) rfl (ji_v (jv_c0 ⟨hF__law_beginnings⟩ hp (L2N.takes_of rfl rfl rfl rfl) nodd (by rfl) (jl_cons (jv_name 0 rfl (Or.inl rfl)) jl_nil))) (jg_name noP_nil sc__law_long.nd rfl (Or.inl rfl)) ne_name
    (js_one (js_dput (i := 2) hp rfl (Or.inl rfl) (jv_tup (jl_cons jv_int (jl_cons jv_str jl_nil)).ja) (jv_name 4 rfl (Or.inl rfl)))))
    (js_cons (js_for (passes_of rfl) rfl (ji_range1 (by rfl) Z.f_range (jl_cons (jv_callV1 c_len (by rfl) Z.f_len bt_len (jv_name 1 rfl (Or.inl rfl))) jl_nil).ja) (jg_name noP_nil sc__law_long.nd rfl (Or.inl rfl)) ne_name
    (js_cons (js_setO noP_nil sc__law_long.nd rfl (Or.inl rfl) jo_dnewK)
    (js_cons (js_for (passes_of rfl) rfl (ji_keys 2 rfl (Or.inl rfl)) (jg_name noP_nil sc__law_long.nd rfl (Or.inl rfl)) ne_name
    (js_one (js_for (passes_of rfl) rfl (ji_v (jv_c0 ⟨hF__law_log_steps⟩ hp (L2N.takes_of rfl rfl rfl rfl) nodd (by rfl) (jl_cons (jv_name 0 rfl (Or.inl rfl)) (jl_cons (jv_name 4 rfl (Or.inl rfl)) (jl_cons (jv_ix (jv_name 1 rfl (Or.inl rfl)) (jv_name 5 rfl (Or.inl rfl))) (jl_cons (jv_cmp (o_eq hp.u64) (jv_name 5 rfl (Or.inl rfl)) jv_int) jl_nil)))))) (jg_tup rfl (jgs_cons (jg_name noP_nil sc__law_long.nd rfl (Or.inl rfl)) (jgs_cons (jg_name noP_nil sc__law_long.nd rfl (Or.inl rfl)) jgs_nil))) (ne_tup (nes_cons ne_name (nes_cons ne_name nes_nil)))
    (js_cons (js_set noP_nil sc__law_long.nd rfl (Or.inl rfl) (jv_bin o_add (jv_ix (jv_dgetB hp (jb_name 2 rfl (Or.inl rfl)) (jv_name 4 rfl (Or.inl rfl))) jv_int) (jv_callTy c_int (by rfl) Z.f_int bt_int (jl_cons (jv_cmp (o_ne hp.u64) (jv_c0 ⟨hF__law_flag⟩ hp (L2N.takes_of rfl rfl rfl rfl) nodd (by rfl) (jl_cons (jv_name 7 rfl (Or.inl rfl)) (jl_cons (jv_ix (jv_name 1 rfl (Or.inl rfl)) (jv_name 5 rfl (Or.inl rfl))) jl_nil))) jv_str) jl_nil).ja)))
    (js_one (js_dput (i := 6) hp rfl (Or.inl rfl) (jv_c0 ⟨hF__law_better⟩ hp (L2N.takes_of rfl rfl rfl rfl) nodd (by rfl) (jl_cons (jv_dget2B hp (jb_name 6 rfl (Or.inl rfl)) (jv_name 8 rfl (Or.inl rfl)) jv_non ⟨by rfl, by rfl, by rfl, by rfl⟩) (jl_cons (jv_tup (jl_cons (jv_name 9 rfl (Or.inl rfl)) (jl_cons (jv_bin o_add (jv_ix (jv_dgetB hp (jb_name 2 rfl (Or.inl rfl)) (jv_name 4 rfl (Or.inl rfl))) jv_int) (jv_name 7 rfl (Or.inl rfl))) jl_nil)).ja) jl_nil))) (jv_name 8 rfl (Or.inl rfl))))))))
    (js_one (js_move 2 6 noP_nil sc__law_long.nd rfl (Or.inl rfl) rfl (Or.inl rfl))))))
    (js_cons (js_for (passes_of rfl) rfl (ji_keys 2 rfl (Or.inl rfl)) (jg_name noP_nil sc__law_long.nd rfl (Or.inl rfl)) ne_name
    (js_one (js_set noP_nil sc__law_long.nd rfl (Or.inl rfl) (jv_c0 ⟨hF__law_better⟩ hp (L2N.takes_of rfl rfl rfl rfl) nodd (by rfl) (jl_cons (jv_name 3 rfl (Or.inl rfl)) (jl_cons (jv_dgetB hp (jb_name 2 rfl (Or.inl rfl)) (jv_name 4 rfl (Or.inl rfl))) jl_nil))))))
    (js_one (js_ret (jv_name 3 rfl (Or.inl rfl))))))))
theorem ok__law_long (Z : Tx K mg) (hF__law_beginnings : FnC P w K mg base 2 "_law_beginnings" (spF0 K mg false 1 f__law_beginnings) ["_law_numbers_here"] []) (hF__law_log_steps : FnC P w K mg base 3 "_law_log_steps" (spF0 K mg false 4 f__law_log_steps) ["_law_numbers_here", "_law_place", "_law_check", "_law_is_first"] []) (hF__law_flag : FnC P w K mg base 1 "_law_flag" (spF0 K mg false 2 f__law_flag) ["_law_state", "_law_check"] []) (hF__law_better : FnC P w K mg base 1 "_law_better" (spF0 K mg false 2 f__law_better) ["_law_one", "_law_other"] []) {f : Addr} {fd : FuncData} {kws : List (Str × V)} (G : FunD K "_law_long" "_law_long" (defArgs st__law_long) (defBody st__law_long) (defScope st__law_long) [] kws f fd) : FnG P w K mg base 4 f fd ["_law_numbers_here", "_law_checks_here"] (spF0 K mg false 2 f__law_long) :=
  fn0 (P := P) (w := w) (mg := mg) (base := base) (ro := false) (s := b__law_long) (N := N__law_long) (ps := ["_law_numbers_here", "_law_checks_here"]) rfl rfl G sc__law_long fun cdv A outer s0 H E hr hgu => d__law_long Z hF__law_beginnings hF__law_log_steps hF__law_flag hF__law_better hr hgu
abbrev N_law : List Str := ["_law_script", "_law_k", "_law_pen_here", "_law_turn", "_law_numbers_here", "_law_checks_here", "_law_limits_here", "_law_due_here"]
theorem sc_law : FnScope N_law ["_law_script"] (defScope st_law) := ⟨rfl, rfl, rfl, by decide +kernel, rfl, by decide +kernel, by decide +kernel⟩
theorem d_law (Z : Tx K mg) (hF__law_pen : FnC P w K mg base 1 "_law_pen" (spF0 K mg true 1 f__law_pen) ["_law_cell"] []) (hF__law_cell_at : FnC P w K mg base 1 "_law_cell_at" (spF0 K mg false 2 f__law_cell_at) ["_law_script", "_law_k"] []) (hF__law_pick : FnC P w K mg base 2 "_law_pick" (spF1 K mg false 2 f__law_pick) ["_law_pen_here", "_law_values"] []) (hF__law_numbers : FnC P w K mg base 2 "_law_numbers" (spF1 K mg false 2 f__law_numbers) ["_law_pen_here", "_law_most"] []) (hF__law_small : FnC P w K mg base 2 "_law_small" (spF1 K mg false 1 f__law_small) ["_law_pen_here"] []) (hF__law_checks : FnC P w K mg base 2 "_law_checks" (spF1 K mg false 2 f__law_checks) ["_law_pen_here", "_law_most"] []) (hF__law_limits : FnC P w K mg base 5 "_law_limits" (spF0 K mg false 1 f__law_limits) ["_law_numbers_here"] []) (hF__law_due : FnC P w K mg base 4 "_law_due" (spF0 K mg false 2 f__law_due) ["_law_numbers_here", "_law_checks_here"] []) (hF__law_same : FnC P w K mg base 1 "_law_same" (spF0 K mg false 2 f__law_same) ["_law_found", "_law_due_here"] []) (hF_fewest_errors : FnC P w K mg base 9 "fewest_errors" (spF0 K mg false 2 f_fewest_errors) ["limits", "checks"] []) (hF__law_long : FnC P w K mg base 4 "_law_long" (spF0 K mg false 2 f__law_long) ["_law_numbers_here", "_law_checks_here"] []) {f : Addr} {cdv : Value} {A : Around} {outer : List Env} {s0 : Shared} {H : Hp} {E : XK} (hr : Room 9 (A.deeper (envOfC "law" (defScope st_law) s0.heap.objs.size f cdv))) (hgu : A.guards = some []) : JSs (cxOf (L2N.CX P w) P w K mg base N_law "law" (defScope st_law) f cdv A outer s0 H E) [] (WE0 E) (defBody st_law) b_law := by
  have hp : Pl (cxOf (L2N.CX P w) P w K mg base N_law "law" (defScope st_law) f cdv A outer s0 H E) 9 := ⟨hr, hgu⟩
  exact (js_cons (js_for (passes_of rfl) rfl (ji_range1 (by rfl) Z.f_range (jl_cons (jv_callB (c_max (by rfl)) (by rfl) Z.f_max bt_max (jl_cons jv_int (jl_cons (jv_callB (c_min (by rfl)) (by rfl) Z.f_min bt_min (jl_cons (jv_callV1 c_len (by rfl) Z.f_len bt_len (jv_name 0 rfl (Or.inl rfl))) (jl_cons jv_int jl_nil)).ja) jl_nil)).ja) jl_nil).ja) (jg_name noP_nil sc_law.nd rfl (Or.inl rfl)) ne_name
    (js_cons (js_setO noP_nil sc_law.nd rfl (Or.inl rfl) (jo_c0 ⟨hF__law_pen⟩ hp (L2N.takes_of rfl rfl rfl rfl) nodd (by rfl) (jl_cons (jv_c0 ⟨hF__law_cell_at⟩ hp (L2N.takes_of rfl rfl rfl rfl) nodd (by rfl) (jl_cons (jv_name 0 rfl (Or.inl rfl)) (jl_cons (jv_name 1 rfl (Or.inl rfl)) jl_nil))) jl_nil)))
    (js_cons (js_for (passes_of rfl) rfl (ji_range1 (by rfl) Z.f_range (jl_cons jv_int jl_nil).ja) (jg_name noP_nil sc_law.nd rfl (Or.inl rfl)) ne_name
    (js_cons (js_set noP_nil sc_law.nd rfl (Or.inl rfl) (jv_c1 2 ⟨hF__law_pick⟩ hp (L2N.takes_of rfl rfl rfl rfl) nodd (by rfl) (by rfl) (Or.inl rfl) (jl_cons (ofO (jo_lst (jl_cons (jv_c1 2 ⟨hF__law_numbers⟩ hp (L2N.takes_of rfl rfl rfl rfl) nodd (by rfl) (by rfl) (Or.inl rfl) (jl_cons jv_int jl_nil)) (jl_cons (jv_c1 2 ⟨hF__law_small⟩ hp (L2N.takes_of rfl rfl rfl rfl) nodd (by rfl) (by rfl) (Or.inl rfl) jl_nil) (jl_cons (jv_tup (jl_cons jv_int (jl_cons jv_int (jl_cons jv_int (jl_cons jv_int jl_nil)))).ja) (jl_cons (jv_tup (jl_cons jv_int (jl_cons jv_int (jl_cons jv_int (jl_cons jv_int jl_nil)))).ja) jl_nil)))).ja)) jl_nil)))
    (js_cons (js_par noP_nil noP_nil rfl sc_law.nd rfl rfl (by decide) rfl rfl (jl_cons (jv_c1 2 ⟨hF__law_checks⟩ hp (L2N.takes_of rfl rfl rfl rfl) nodd (by rfl) (by rfl) (Or.inl rfl) (jl_cons jv_int jl_nil)) (jl_cons (jv_c0 ⟨hF__law_limits⟩ hp (L2N.takes_of rfl rfl rfl rfl) nodd (by rfl) (jl_cons (jv_name 4 rfl (Or.inl rfl)) jl_nil)) jl_nil)).ja)
    (js_cons (js_set noP_nil sc_law.nd rfl (Or.inl rfl) (jv_c0 ⟨hF__law_due⟩ hp (L2N.takes_of rfl rfl rfl rfl) nodd (by rfl) (jl_cons (jv_name 4 rfl (Or.inl rfl)) (jl_cons (jv_name 5 rfl (Or.inl rfl)) jl_nil))))
    (js_one (js_if (jt_not (jt_val (jv_c0 ⟨hF__law_same⟩ hp (L2N.takes_of rfl rfl rfl rfl) nodd (by rfl) (jl_cons (ofO (jo_lst (jl_cons (jv_c0 ⟨hF_fewest_errors⟩ hp (L2N.takes_of rfl rfl rfl rfl) nodd (by rfl) (jl_cons (jv_name 6 rfl (Or.inl rfl)) (jl_cons (jv_name 5 rfl (Or.inl rfl)) jl_nil))) (jl_cons (jv_c0 ⟨hF_fewest_errors⟩ hp (L2N.takes_of rfl rfl rfl rfl) nodd (by rfl) (jl_cons (jv_name 6 rfl (Or.inl rfl)) (jl_cons (jv_name 5 rfl (Or.inl rfl)) jl_nil))) jl_nil)).ja)) (jl_cons (ofO (jo_lst (jl_cons (jv_name 7 rfl (Or.inl rfl)) (jl_cons (jv_name 7 rfl (Or.inl rfl)) jl_nil)).ja)) jl_nil))))) (js_one (js_ret jv_bl)) js_nil))))))
    (js_cons (js_par noP_nil noP_nil rfl sc_law.nd rfl rfl (by decide) rfl rfl (jl_cons (jv_c1 2 ⟨hF__law_pick⟩ hp (L2N.takes_of rfl rfl rfl rfl) nodd (by rfl) (by rfl) (Or.inl rfl) (jl_cons (ofO (jo_lst (jl_cons (jv_c1 2 ⟨hF__law_small⟩ hp (L2N.takes_of rfl rfl rfl rfl) nodd (by rfl) (by rfl) (Or.inl rfl) jl_nil) (jl_cons (jv_tup (jl_cons jv_int (jl_cons jv_int (jl_cons jv_int (jl_cons jv_int jl_nil)))).ja) jl_nil)).ja)) jl_nil)) (jl_cons (jv_c1 2 ⟨hF__law_checks⟩ hp (L2N.takes_of rfl rfl rfl rfl) nodd (by rfl) (by rfl) (Or.inl rfl) (jl_cons jv_int jl_nil)) jl_nil)).ja)
    (js_one (js_if (jt_not (jt_val (jv_c0 ⟨hF__law_same⟩ hp (L2N.takes_of rfl rfl rfl rfl) nodd (by rfl) (jl_cons (jv_c0 ⟨hF_fewest_errors⟩ hp (L2N.takes_of rfl rfl rfl rfl) nodd (by rfl) (jl_cons (jv_c0 ⟨hF__law_limits⟩ hp (L2N.takes_of rfl rfl rfl rfl) nodd (by rfl) (jl_cons (jv_name 4 rfl (Or.inl rfl)) jl_nil)) (jl_cons (jv_name 5 rfl (Or.inl rfl)) jl_nil))) (jl_cons (jv_c0 ⟨hF__law_long⟩ hp (L2N.takes_of rfl rfl rfl rfl) nodd (by rfl) (jl_cons (jv_name 4 rfl (Or.inl rfl)) (jl_cons (jv_name 5 rfl (Or.inl rfl)) jl_nil))) jl_nil))))) (js_one (js_ret jv_bl)) js_nil))))))
    (js_one (js_ret jv_bl)))
theorem ok_law (Z : Tx K mg) (hF__law_pen : FnC P w K mg base 1 "_law_pen" (spF0 K mg true 1 f__law_pen) ["_law_cell"] []) (hF__law_cell_at : FnC P w K mg base 1 "_law_cell_at" (spF0 K mg false 2 f__law_cell_at) ["_law_script", "_law_k"] []) (hF__law_pick : FnC P w K mg base 2 "_law_pick" (spF1 K mg false 2 f__law_pick) ["_law_pen_here", "_law_values"] []) (hF__law_numbers : FnC P w K mg base 2 "_law_numbers" (spF1 K mg false 2 f__law_numbers) ["_law_pen_here", "_law_most"] []) (hF__law_small : FnC P w K mg base 2 "_law_small" (spF1 K mg false 1 f__law_small) ["_law_pen_here"] []) (hF__law_checks : FnC P w K mg base 2 "_law_checks" (spF1 K mg false 2 f__law_checks) ["_law_pen_here", "_law_most"] []) (hF__law_limits : FnC P w K mg base 5 "_law_limits" (spF0 K mg false 1 f__law_limits) ["_law_numbers_here"] []) (hF__law_due : FnC P w K mg base 4 "_law_due" (spF0 K mg false 2 f__law_due) ["_law_numbers_here", "_law_checks_here"] []) (hF__law_same : FnC P w K mg base 1 "_law_same" (spF0 K mg false 2 f__law_same) ["_law_found", "_law_due_here"] []) (hF_fewest_errors : FnC P w K mg base 9 "fewest_errors" (spF0 K mg false 2 f_fewest_errors) ["limits", "checks"] []) (hF__law_long : FnC P w K mg base 4 "_law_long" (spF0 K mg false 2 f__law_long) ["_law_numbers_here", "_law_checks_here"] []) {f : Addr} {fd : FuncData} {kws : List (Str × V)} (G : FunD K "law" "law" (defArgs st_law) (defBody st_law) (defScope st_law) [] kws f fd) : FnG P w K mg base 10 f fd ["_law_script"] (spF0 K mg false 1 f_law) :=
  fn0 (P := P) (w := w) (mg := mg) (base := base) (ro := false) (s := b_law) (N := N_law) (ps := ["_law_script"]) rfl rfl G sc_law fun cdv A outer s0 H E hr hgu => d_law Z hF__law_pen hF__law_cell_at hF__law_pick hF__law_numbers hF__law_small hF__law_checks hF__law_limits hF__law_due hF__law_same hF_fewest_errors hF__law_long hr hgu
end
end Lw
namespace Lw
open PySem hiding start
open PySem.Spec L2 Sr
open PyProof.Rows hiding St
section
variable [TabL] {P : Program} {w : World} {K : PySem.W.Frag} {h : Heap} {mg : Str → Option Value}
theorem tx_mk (X : K.In h) (G : h.Ns mainGlobals mg) (c : SaysZ fa fn ex K) : Tx K mg := by
  have hx : (cliB K "Rule" && (cliB K "Limits" && (ownB K (.type "int") isl_int && (ownB K (.type "bool") isl_bool && (noKd K "Limits" && (ownB K (.ref (He.ga K "Limits")) isl_Limits && (ownB K (.type "str") isl_str && (ownB K (.type "tuple") isl_tuple && (ckV K (.ct [.ct [.int 1, .str "+"], .ct [.int 2, .str "-"]]) (.ref (He.ga K "SIDES")) && (noDg K && (propB K "Limits" "span" && (propB K "Limits" "settled" && (propB K "Rule" "rows"))))))))))))) = true := c.all.2.2
  simp only [Bool.and_eq_true] at hx
  obtain ⟨hx0, hx1, hx2, hx3, hx4, hx5, hx6, hx7, hx8, hx9, hx10, hx11, hx12⟩ := hx
  have hI_int : ∀ q ∈ isl_int, ClI K mg q.1 (He.ga K q.1) := by
    intro q hq
    simp only [isl_int, List.mem_cons, List.not_mem_nil, or_false] at hq
    rcases hq with rfl | rfl
    · exact cliB_ok ⟨He.glo_ok X G (c.fact 28), He.cls_ok (c.fact 29)⟩ hx0
    · exact cliB_ok ⟨He.glo_ok X G (c.fact 30), He.cls_ok (c.fact 31)⟩ hx1
  have hI_bool : ∀ q ∈ isl_bool, ClI K mg q.1 (He.ga K q.1) := by
    intro q hq
    simp only [isl_bool, List.mem_cons, List.not_mem_nil, or_false] at hq
    rcases hq with rfl | rfl
    · exact cliB_ok ⟨He.glo_ok X G (c.fact 28), He.cls_ok (c.fact 29)⟩ hx0
    · exact cliB_ok ⟨He.glo_ok X G (c.fact 30), He.cls_ok (c.fact 31)⟩ hx1
  have hI_Limits : ∀ q ∈ isl_Limits, ClI K mg q.1 (He.ga K q.1) := by
    intro q hq
    simp only [isl_Limits, List.mem_cons, List.not_mem_nil, or_false] at hq
    rcases hq with rfl | rfl
    · exact cliB_ok ⟨He.glo_ok X G (c.fact 28), He.cls_ok (c.fact 29)⟩ hx0
    · exact cliB_ok ⟨He.glo_ok X G (c.fact 30), He.cls_ok (c.fact 31)⟩ hx1
  have hI_str : ∀ q ∈ isl_str, ClI K mg q.1 (He.ga K q.1) := by
    intro q hq
    simp only [isl_str, List.mem_cons, List.not_mem_nil, or_false] at hq
    rcases hq with rfl | rfl
    · exact cliB_ok ⟨He.glo_ok X G (c.fact 28), He.cls_ok (c.fact 29)⟩ hx0
    · exact cliB_ok ⟨He.glo_ok X G (c.fact 30), He.cls_ok (c.fact 31)⟩ hx1
  have hI_tuple : ∀ q ∈ isl_tuple, ClI K mg q.1 (He.ga K q.1) := by
    intro q hq
    simp only [isl_tuple, List.mem_cons, List.not_mem_nil, or_false] at hq
    rcases hq with rfl | rfl
    · exact cliB_ok ⟨He.glo_ok X G (c.fact 28), He.cls_ok (c.fact 29)⟩ hx0
    · exact cliB_ok ⟨He.glo_ok X G (c.fact 30), He.cls_ok (c.fact 31)⟩ hx1
  exact ⟨He.free_ok X G (c.fact 0), He.free_ok X G (c.fact 1), He.free_ok X G (c.fact 2), He.free_ok X G (c.fact 3), He.free_ok X G (c.fact 4), He.free_ok X G (c.fact 5), He.free_ok X G (c.fact 6), He.int_ok X G (c.fact 7), He.int_ok X G (c.fact 8), He.int_ok X G (c.fact 9), He.free_ok X G (c.fact 10), He.free_ok X G (c.fact 11), He.free_ok X G (c.fact 12), He.str_ok X G (c.fact 13), He.str_ok X G (c.fact 14), He.int_ok X G (c.fact 15), He.str_ok X G (c.fact 16), He.str_ok X G (c.fact 17), He.str_ok X G (c.fact 18), He.str_ok X G (c.fact 19), He.str_ok X G (c.fact 20), He.int_ok X G (c.fact 21), He.free_ok X G (c.fact 22), He.int_ok X G (c.fact 23), He.free_ok X G (c.fact 24), He.free_ok X G (c.fact 25), He.free_ok X G (c.fact 26), He.glo_ok X G (c.fact 27), He.glo_ok X G (c.fact 28), He.cls_ok (c.fact 29), He.glo_ok X G (c.fact 30), He.cls_ok (c.fact 31), He.glo_ok X G (c.fact 32), He.glo_ok X G (c.fact 33), He.glo_ok X G (c.fact 34), He.glo_ok X G (c.fact 35), He.noat_ok (c.fact 36), He.noat_ok (c.fact 37), He.noat_ok (c.fact 38), He.noat_ok (c.fact 39), He.noat_ok (c.fact 40), isi_of tInt_ok (ownB_ok hx2 hI_int), isi_of tBool_ok (ownB_ok hx3 hI_bool), isi_of (noKd_ok hx4) (ownB_ok hx5 hI_Limits), isi_of tStr_ok (ownB_ok hx6 hI_str), isi_of tTuple_ok (ownB_ok hx7 hI_tuple), rai_of (He.glo_ok X G (c.fact 32)) (c.fact 41), rai_of (He.glo_ok X G (c.fact 33)) (c.fact 42), rai_of (He.glo_ok X G (c.fact 34)) (c.fact 43), rai_of (He.glo_ok X G (c.fact 35)) (c.fact 44), hx8, hx9⟩
theorem all_mk {fl : Addr} (X : K.In h) (G : h.Ns mainGlobals mg) (hl : mg "law" = some (.ref fl)) (c : SaysZ fa fn ex K) (hPw : P = TabL.P ∧ w = TabL.w) : ∃ fd : FuncData, (∀ (s : Shared) (v : Value), BindsTo s fd ⟨[v], []⟩ [("_law_script", v)]) ∧ ∀ base : Heap, FnG P w K mg base 10 fl fd ["_law_script"] (spF0 K mg false 1 f_law) := by
  have Z : Tx K mg := tx_mk X G c
  have hx : (cliB K "Rule" && (cliB K "Limits" && (ownB K (.type "int") isl_int && (ownB K (.type "bool") isl_bool && (noKd K "Limits" && (ownB K (.ref (He.ga K "Limits")) isl_Limits && (ownB K (.type "str") isl_str && (ownB K (.type "tuple") isl_tuple && (ckV K (.ct [.ct [.int 1, .str "+"], .ct [.int 2, .str "-"]]) (.ref (He.ga K "SIDES")) && (noDg K && (propB K "Limits" "span" && (propB K "Limits" "settled" && (propB K "Rule" "rows"))))))))))))) = true := c.all.2.2
  simp only [Bool.and_eq_true] at hx
  obtain ⟨hx0, hx1, hx2, hx3, hx4, hx5, hx6, hx7, hx8, hx9, hx10, hx11, hx12⟩ := hx
  obtain ⟨fd__law_pen, G__law_pen⟩ := c.def_ 0 (d := dz__law_pen)
  obtain ⟨fd__law_cell_at, G__law_cell_at⟩ := c.def_ 1 (d := dz__law_cell_at)
  obtain ⟨fd__law_draw, G__law_draw⟩ := c.def_ 2 (d := dz__law_draw)
  obtain ⟨fd__law_pick, G__law_pick⟩ := c.def_ 3 (d := dz__law_pick)
  obtain ⟨fd__law_numbers, G__law_numbers⟩ := c.def_ 4 (d := dz__law_numbers)
  obtain ⟨fd__law_small, G__law_small⟩ := c.def_ 5 (d := dz__law_small)
  obtain ⟨fd__law_checks, G__law_checks⟩ := c.def_ 6 (d := dz__law_checks)
  obtain ⟨fd_is_integer, G_is_integer⟩ := c.def_ 7 (d := dz_is_integer)
  obtain ⟨fd_is_between, G_is_between⟩ := c.def_ 8 (d := dz_is_between)
  obtain ⟨fd_LimitsU_initU, G_LimitsU_initU⟩ := c.def_ 9 (d := dz_LimitsU_initU)
  obtain ⟨fd__law_limits, G__law_limits⟩ := c.def_ 10 (d := dz__law_limits)
  obtain ⟨fd__law_flag, G__law_flag⟩ := c.def_ 11 (d := dz__law_flag)
  obtain ⟨fd__law_let, G__law_let⟩ := c.def_ 12 (d := dz__law_let)
  obtain ⟨fd__law_allowed, G__law_allowed⟩ := c.def_ 13 (d := dz__law_allowed)
  obtain ⟨fd__law_log, G__law_log⟩ := c.def_ 14 (d := dz__law_log)
  obtain ⟨fd__law_better, G__law_better⟩ := c.def_ 15 (d := dz__law_better)
  obtain ⟨fd__law_due, G__law_due⟩ := c.def_ 16 (d := dz__law_due)
  obtain ⟨fd__law_same, G__law_same⟩ := c.def_ 17 (d := dz__law_same)
  obtain ⟨fd_check_limits, G_check_limits⟩ := c.def_ 18 (d := dz_check_limits)
  obtain ⟨fd_is_made_of, G_is_made_of⟩ := c.def_ 19 (d := dz_is_made_of)
  obtain ⟨fd_check_checks, G_check_checks⟩ := c.def_ 20 (d := dz_check_checks)
  obtain ⟨fd_check_log, G_check_log⟩ := c.def_ 21 (d := dz_check_log)
  obtain ⟨fd_spelled, G_spelled⟩ := c.def_ 22 (d := dz_spelled)
  obtain ⟨fd_beginnings, G_beginnings⟩ := c.def_ 23 (d := dz_beginnings)
  obtain ⟨fd_row_of, G_row_of⟩ := c.def_ 24 (d := dz_row_of)
  obtain ⟨fd_flag_of, G_flag_of⟩ := c.def_ 25 (d := dz_flag_of)
  obtain ⟨fd_Limits_let, G_Limits_let⟩ := c.def_ 26 (d := dz_Limits_let)
  obtain ⟨fd_steps_from, G_steps_from⟩ := c.def_ 27 (d := dz_steps_from)
  obtain ⟨fd_is_row, G_is_row⟩ := c.def_ 28 (d := dz_is_row)
  obtain ⟨fd_is_table, G_is_table⟩ := c.def_ 29 (d := dz_is_table)
  obtain ⟨fd_row_classes, G_row_classes⟩ := c.def_ 30 (d := dz_row_classes)
  obtain ⟨fd_reached, G_reached⟩ := c.def_ 31 (d := dz_reached)
  obtain ⟨fd_smallest, G_smallest⟩ := c.def_ 32 (d := dz_smallest)
  obtain ⟨fd_RuleU_initU, G_RuleU_initU⟩ := c.def_ 33 (d := dz_RuleU_initU)
  obtain ⟨fd_some_rule, G_some_rule⟩ := c.def_ 34 (d := dz_some_rule)
  obtain ⟨fd_next_situations, G_next_situations⟩ := c.def_ 35 (d := dz_next_situations)
  obtain ⟨fd_fewest_errors, G_fewest_errors⟩ := c.def_ 36 (d := dz_fewest_errors)
  obtain ⟨fd__law_spelled, G__law_spelled⟩ := c.def_ 37 (d := dz__law_spelled)
  obtain ⟨fd__law_beginnings, G__law_beginnings⟩ := c.def_ 38 (d := dz__law_beginnings)
  obtain ⟨fd__law_steps, G__law_steps⟩ := c.def_ 39 (d := dz__law_steps)
  obtain ⟨fd__law_log_steps, G__law_log_steps⟩ := c.def_ 40 (d := dz__law_log_steps)
  obtain ⟨fd__law_long, G__law_long⟩ := c.def_ 41 (d := dz__law_long)
  obtain ⟨fd_law, G_law⟩ := c.def_ 42 (d := dz_law)
  obtain ⟨fd_Limits_span, G_Limits_span⟩ := c.def_ 43 (d := dz_Limits_span)
  obtain ⟨fd_Limits_settled, G_Limits_settled⟩ := c.def_ 44 (d := dz_Limits_settled)
  obtain ⟨fd_Rule_rows, G_Rule_rows⟩ := c.def_ 45 (d := dz_Rule_rows)
  have e := hl.symm.trans (He.glo_ok X G (c.fact 87))
  cases e
  refine ⟨fd_law, fun s v => FunD.bindsA (ps := ["_law_script"]) G_law (fun _ _ _ _ _ _ us hl => match us, hl with | [_], _ => rfl) s [v] rfl, fun base => ?_⟩
  have hP_span : ∃ pp ga fd, PropOf K (He.ga K "Limits") "span" pp ga ∧ FnOk P w K mg base CX0 1 ga fd ["self"] (getSp (He.ga K "Limits") "most_checks") ∧ Binds K fd ["self"] [] := ⟨_, _, fd_Limits_span, propB_ok hx10, fn_get G_Limits_span Z.cl_Limits Z.n_Limits_most_checks ⟨rfl, rfl, rfl, by decide +kernel, rfl, by decide +kernel, by decide +kernel⟩ rfl, G_Limits_span.bindsN fun _ _ _ _ _ _ us hl => match us, hl with | [_], _ => rfl⟩
  have hP_settled : ∃ pp ga fd, PropOf K (He.ga K "Limits") "settled" pp ga ∧ FnOk P w K mg base CX0 1 ga fd ["self"] (getSp (He.ga K "Limits") "least_stay") ∧ Binds K fd ["self"] [] := ⟨_, _, fd_Limits_settled, propB_ok hx11, fn_get G_Limits_settled Z.cl_Limits Z.n_Limits_least_stay ⟨rfl, rfl, rfl, by decide +kernel, rfl, by decide +kernel, by decide +kernel⟩ rfl, G_Limits_settled.bindsN fun _ _ _ _ _ _ us hl => match us, hl with | [_], _ => rfl⟩
  have hP_rows : ∃ pp ga fd, PropOf K (He.ga K "Rule") "rows" pp ga ∧ FnOk P w K mg base CX0 1 ga fd ["self"] (getSp (He.ga K "Rule") "table") ∧ Binds K fd ["self"] [] := ⟨_, _, fd_Rule_rows, propB_ok hx12, fn_get G_Rule_rows Z.cl_Rule Z.n_Rule_table ⟨rfl, rfl, rfl, by decide +kernel, rfl, by decide +kernel, by decide +kernel⟩ rfl, G_Rule_rows.bindsN fun _ _ _ _ _ _ us hl => match us, hl with | [_], _ => rfl⟩
  have hG__law_pen : FnG P w K mg base 1 _ fd__law_pen ["_law_cell"] (spF0 K mg true 1 f__law_pen) := ok__law_pen Z  G__law_pen
  have hF__law_pen : FnC P w K mg base 1 "_law_pen" (spF0 K mg true 1 f__law_pen) ["_law_cell"] [] := ⟨_, _, [], hG__law_pen, He.glo_ok X G (c.fact 48), G__law_pen.kp, G__law_pen.bindsN fun _ _ _ _ _ _ us hl => (match us, hl with | [_], _ => rfl), .nil⟩
  have hG__law_cell_at : FnG P w K mg base 1 _ fd__law_cell_at ["_law_script", "_law_k"] (spF0 K mg false 2 f__law_cell_at) := ok__law_cell_at Z  G__law_cell_at
  have hF__law_cell_at : FnC P w K mg base 1 "_law_cell_at" (spF0 K mg false 2 f__law_cell_at) ["_law_script", "_law_k"] [] := ⟨_, _, [], hG__law_cell_at, He.glo_ok X G (c.fact 49), G__law_cell_at.kp, G__law_cell_at.bindsN fun _ _ _ _ _ _ us hl => (match us, hl with | [_, _], _ => rfl), .nil⟩
  have hG__law_draw : FnG P w K mg base 1 _ fd__law_draw ["_law_pen_here", "_law_many"] (spF1 K mg false 2 f__law_draw) := ok__law_draw Z  G__law_draw
  have hF__law_draw : FnC P w K mg base 1 "_law_draw" (spF1 K mg false 2 f__law_draw) ["_law_pen_here", "_law_many"] [] := ⟨_, _, [], hG__law_draw, He.glo_ok X G (c.fact 50), G__law_draw.kp, G__law_draw.bindsN fun _ _ _ _ _ _ us hl => (match us, hl with | [_, _], _ => rfl), .nil⟩
  have hG__law_pick : FnG P w K mg base 2 _ fd__law_pick ["_law_pen_here", "_law_values"] (spF1 K mg false 2 f__law_pick) := ok__law_pick Z hF__law_draw G__law_pick
  have hF__law_pick : FnC P w K mg base 2 "_law_pick" (spF1 K mg false 2 f__law_pick) ["_law_pen_here", "_law_values"] [] := ⟨_, _, [], hG__law_pick, He.glo_ok X G (c.fact 51), G__law_pick.kp, G__law_pick.bindsN fun _ _ _ _ _ _ us hl => (match us, hl with | [_, _], _ => rfl), .nil⟩
  have hG__law_numbers : FnG P w K mg base 2 _ fd__law_numbers ["_law_pen_here", "_law_most"] (spF1 K mg false 2 f__law_numbers) := ok__law_numbers Z hF__law_draw G__law_numbers
  have hF__law_numbers : FnC P w K mg base 2 "_law_numbers" (spF1 K mg false 2 f__law_numbers) ["_law_pen_here", "_law_most"] [] := ⟨_, _, [], hG__law_numbers, He.glo_ok X G (c.fact 52), G__law_numbers.kp, G__law_numbers.bindsN fun _ _ _ _ _ _ us hl => (match us, hl with | [_, _], _ => rfl), .nil⟩
  have hG__law_small : FnG P w K mg base 2 _ fd__law_small ["_law_pen_here"] (spF1 K mg false 1 f__law_small) := ok__law_small Z hF__law_draw G__law_small
  have hF__law_small : FnC P w K mg base 2 "_law_small" (spF1 K mg false 1 f__law_small) ["_law_pen_here"] [] := ⟨_, _, [], hG__law_small, He.glo_ok X G (c.fact 53), G__law_small.kp, G__law_small.bindsN fun _ _ _ _ _ _ us hl => (match us, hl with | [_], _ => rfl), .nil⟩
  have hG__law_checks : FnG P w K mg base 2 _ fd__law_checks ["_law_pen_here", "_law_most"] (spF1 K mg false 2 f__law_checks) := ok__law_checks Z hF__law_draw G__law_checks
  have hF__law_checks : FnC P w K mg base 2 "_law_checks" (spF1 K mg false 2 f__law_checks) ["_law_pen_here", "_law_most"] [] := ⟨_, _, [], hG__law_checks, He.glo_ok X G (c.fact 54), G__law_checks.kp, G__law_checks.bindsN fun _ _ _ _ _ _ us hl => (match us, hl with | [_, _], _ => rfl), .nil⟩
  have hG_is_integer : FnG P w K mg base 1 _ fd_is_integer ["value"] (spF0 K mg false 1 f_is_integer) := ok_is_integer Z  G_is_integer
  have hF_is_integer : FnC P w K mg base 1 "is_integer" (spF0 K mg false 1 f_is_integer) ["value"] [] := ⟨_, _, [], hG_is_integer, He.glo_ok X G (c.fact 55), G_is_integer.kp, G_is_integer.bindsN fun _ _ _ _ _ _ us hl => (match us, hl with | [_], _ => rfl), .nil⟩
  have hG_is_between : FnG P w K mg base 2 _ fd_is_between ["value", "low", "high"] (spF0 K mg false 3 f_is_between) := ok_is_between Z hF_is_integer G_is_between
  have hF_is_between : FnC P w K mg base 2 "is_between" (spF0 K mg false 3 f_is_between) ["value", "low", "high"] [] := ⟨_, _, [], hG_is_between, He.glo_ok X G (c.fact 56), G_is_between.kp, G_is_between.bindsN fun _ _ _ _ _ _ us hl => (match us, hl with | [_, _, _], _ => rfl), .nil⟩
  have hG_LimitsU_initU : FnG P w K mg base 3 _ fd_LimitsU_initU ["self", "false_passes", "false_fails", "span", "settled"] (spF1 K mg false 5 f_LimitsU_initU) := ok_LimitsU_initU Z hF_is_between G_LimitsU_initU
  obtain ⟨mv_Limits_3_settled, kb_Limits_3_settled⟩ := G_LimitsU_initU.kbinds0 (ps := ["self", "false_passes", "false_fails", "span", "settled"]) 4 ["settled"] [] (fun us mv ws => us ++ ws) (by decide) (fun q hq => by cases hq) (fun r1 r2 r3 => r1.append r3) (fun D doc pm an cdv ct us mv ws l1 l2 l3 => match us, mv, ws, l1, l2, l3 with | [_, _, _, _], [], [_], _, _, _ => rfl)
  have hM_Limits_3_settled : ∃ f fd g, Mk K (He.ga K "Limits") f ∧ FnG P w K mg base 3 f fd ["self", "false_passes", "false_fails", "span", "settled"] (spF1 K mg false 5 f_LimitsU_initU) ∧ KBn K fd ["self", "false_passes", "false_fails", "span", "settled"] 4 ["settled"] g gV_Limits_3_settled := ⟨_, _, _, He.mkr_ok (c.fact 46), hG_LimitsU_initU, kb_Limits_3_settled⟩
  have hG__law_limits : FnG P w K mg base 5 _ fd__law_limits ["_law_numbers_here"] (spF0 K mg false 1 f__law_limits) := ok__law_limits Z hM_Limits_3_settled G__law_limits
  have hF__law_limits : FnC P w K mg base 5 "_law_limits" (spF0 K mg false 1 f__law_limits) ["_law_numbers_here"] [] := ⟨_, _, [], hG__law_limits, He.glo_ok X G (c.fact 57), G__law_limits.kp, G__law_limits.bindsN fun _ _ _ _ _ _ us hl => (match us, hl with | [_], _ => rfl), .nil⟩
  have hG__law_flag : FnG P w K mg base 1 _ fd__law_flag ["_law_state", "_law_check"] (spF0 K mg false 2 f__law_flag) := ok__law_flag Z  G__law_flag
  have hF__law_flag : FnC P w K mg base 1 "_law_flag" (spF0 K mg false 2 f__law_flag) ["_law_state", "_law_check"] [] := ⟨_, _, [], hG__law_flag, He.glo_ok X G (c.fact 58), G__law_flag.kp, G__law_flag.bindsN fun _ _ _ _ _ _ us hl => (match us, hl with | [_, _], _ => rfl), .nil⟩
  have hG__law_let : FnG P w K mg base 1 _ fd__law_let ["_law_numbers_here", "_law_flags"] (spF0 K mg false 2 f__law_let) := ok__law_let Z  G__law_let
  have hF__law_let : FnC P w K mg base 1 "_law_let" (spF0 K mg false 2 f__law_let) ["_law_numbers_here", "_law_flags"] [] := ⟨_, _, [], hG__law_let, He.glo_ok X G (c.fact 59), G__law_let.kp, G__law_let.bindsN fun _ _ _ _ _ _ us hl => (match us, hl with | [_, _], _ => rfl), .nil⟩
  have hG__law_allowed : FnG P w K mg base 2 _ fd__law_allowed ["_law_numbers_here", "_law_states", "_law_checks_here"] (spF0 K mg false 3 f__law_allowed) := ok__law_allowed Z hF__law_flag hF__law_let G__law_allowed
  have hF__law_allowed : FnC P w K mg base 2 "_law_allowed" (spF0 K mg false 3 f__law_allowed) ["_law_numbers_here", "_law_states", "_law_checks_here"] [] := ⟨_, _, [], hG__law_allowed, He.glo_ok X G (c.fact 60), G__law_allowed.kp, G__law_allowed.bindsN fun _ _ _ _ _ _ us hl => (match us, hl with | [_, _, _], _ => rfl), .nil⟩
  have hG__law_log : FnG P w K mg base 3 _ fd__law_log ["_law_numbers_here", "_law_checks_here"] (spF0 K mg false 2 f__law_log) := ok__law_log Z hF__law_allowed G__law_log
  have hF__law_log : FnC P w K mg base 3 "_law_log" (spF0 K mg false 2 f__law_log) ["_law_numbers_here", "_law_checks_here"] [] := ⟨_, _, [], hG__law_log, He.glo_ok X G (c.fact 61), G__law_log.kp, G__law_log.bindsN fun _ _ _ _ _ _ us hl => (match us, hl with | [_, _], _ => rfl), .nil⟩
  have hG__law_better : FnG P w K mg base 1 _ fd__law_better ["_law_one", "_law_other"] (spF0 K mg false 2 f__law_better) := ok__law_better Z  G__law_better
  have hF__law_better : FnC P w K mg base 1 "_law_better" (spF0 K mg false 2 f__law_better) ["_law_one", "_law_other"] [] := ⟨_, _, [], hG__law_better, He.glo_ok X G (c.fact 62), G__law_better.kp, G__law_better.bindsN fun _ _ _ _ _ _ us hl => (match us, hl with | [_, _], _ => rfl), .nil⟩
  have hG__law_due : FnG P w K mg base 4 _ fd__law_due ["_law_numbers_here", "_law_checks_here"] (spF0 K mg false 2 f__law_due) := ok__law_due Z hF__law_log hF__law_flag hF__law_better G__law_due
  have hF__law_due : FnC P w K mg base 4 "_law_due" (spF0 K mg false 2 f__law_due) ["_law_numbers_here", "_law_checks_here"] [] := ⟨_, _, [], hG__law_due, He.glo_ok X G (c.fact 63), G__law_due.kp, G__law_due.bindsN fun _ _ _ _ _ _ us hl => (match us, hl with | [_, _], _ => rfl), .nil⟩
  have hG__law_same : FnG P w K mg base 1 _ fd__law_same ["_law_found", "_law_due_here"] (spF0 K mg false 2 f__law_same) := ok__law_same Z  G__law_same
  have hF__law_same : FnC P w K mg base 1 "_law_same" (spF0 K mg false 2 f__law_same) ["_law_found", "_law_due_here"] [] := ⟨_, _, [], hG__law_same, He.glo_ok X G (c.fact 64), G__law_same.kp, G__law_same.bindsN fun _ _ _ _ _ _ us hl => (match us, hl with | [_, _], _ => rfl), .nil⟩
  have hG_check_limits : FnG P w K mg base 1 _ fd_check_limits ["value"] (spF0 K mg false 1 f_check_limits) := ok_check_limits Z  G_check_limits
  have hF_check_limits : FnC P w K mg base 1 "check_limits" (spF0 K mg false 1 f_check_limits) ["value"] [] := ⟨_, _, [], hG_check_limits, He.glo_ok X G (c.fact 65), G_check_limits.kp, G_check_limits.bindsN fun _ _ _ _ _ _ us hl => (match us, hl with | [_], _ => rfl), .nil⟩
  have hG_is_made_of : FnG P w K mg base 1 _ fd_is_made_of ["value", "signs"] (spF0 K mg false 2 f_is_made_of) := ok_is_made_of Z  G_is_made_of
  have hF_is_made_of : FnC P w K mg base 1 "is_made_of" (spF0 K mg false 2 f_is_made_of) ["value", "signs"] [] := ⟨_, _, [], hG_is_made_of, He.glo_ok X G (c.fact 66), G_is_made_of.kp, G_is_made_of.bindsN fun _ _ _ _ _ _ us hl => (match us, hl with | [_, _], _ => rfl), .nil⟩
  have hG_check_checks : FnG P w K mg base 2 _ fd_check_checks ["checks"] (spF0 K mg false 1 f_check_checks) := ok_check_checks Z hF_is_made_of G_check_checks
  have hF_check_checks : FnC P w K mg base 2 "check_checks" (spF0 K mg false 1 f_check_checks) ["checks"] [] := ⟨_, _, [], hG_check_checks, He.glo_ok X G (c.fact 67), G_check_checks.kp, G_check_checks.bindsN fun _ _ _ _ _ _ us hl => (match us, hl with | [_], _ => rfl), .nil⟩
  have hG_check_log : FnG P w K mg base 3 _ fd_check_log ["limits", "checks"] (spF0 K mg false 2 f_check_log) := ok_check_log Z hF_check_limits hF_check_checks G_check_log
  have hF_check_log : FnC P w K mg base 3 "check_log" (spF0 K mg false 2 f_check_log) ["limits", "checks"] [] := ⟨_, _, [], hG_check_log, He.glo_ok X G (c.fact 68), G_check_log.kp, G_check_log.bindsN fun _ _ _ _ _ _ us hl => (match us, hl with | [_, _], _ => rfl), .nil⟩
  have hG_spelled : FnG P w K mg base 1 _ fd_spelled ["row", "state", "age", "flags"] (spF0 K mg false 4 f_spelled) := ok_spelled Z  G_spelled
  have hF_spelled : FnC P w K mg base 1 "spelled" (spF0 K mg false 4 f_spelled) ["row", "state", "age", "flags"] [] := ⟨_, _, [], hG_spelled, He.glo_ok X G (c.fact 69), G_spelled.kp, G_spelled.bindsN fun _ _ _ _ _ _ us hl => (match us, hl with | [_, _, _, _], _ => rfl), .nil⟩
  have hG_beginnings : FnG P w K mg base 3 _ fd_beginnings ["limits"] (spF0 K mg false 1 f_beginnings) := ok_beginnings Z hP_span hF_spelled hP_settled G_beginnings
  have hF_beginnings : FnC P w K mg base 3 "beginnings" (spF0 K mg false 1 f_beginnings) ["limits"] [] := ⟨_, _, [], hG_beginnings, He.glo_ok X G (c.fact 70), G_beginnings.kp, G_beginnings.bindsN fun _ _ _ _ _ _ us hl => (match us, hl with | [_], _ => rfl), .nil⟩
  have hG_row_of : FnG P w K mg base 1 _ fd_row_of ["situation"] (spF0 K mg false 1 f_row_of) := ok_row_of Z  G_row_of
  have hF_row_of : FnC P w K mg base 1 "row_of" (spF0 K mg false 1 f_row_of) ["situation"] [] := ⟨_, _, [], hG_row_of, He.glo_ok X G (c.fact 71), G_row_of.kp, G_row_of.bindsN fun _ _ _ _ _ _ us hl => (match us, hl with | [_], _ => rfl), .nil⟩
  have hG_flag_of : FnG P w K mg base 1 _ fd_flag_of ["state", "check"] (spF0 K mg false 2 f_flag_of) := ok_flag_of Z  G_flag_of
  have hF_flag_of : FnC P w K mg base 1 "flag_of" (spF0 K mg false 2 f_flag_of) ["state", "check"] [] := ⟨_, _, [], hG_flag_of, He.glo_ok X G (c.fact 72), G_flag_of.kp, G_flag_of.bindsN fun _ _ _ _ _ _ us hl => (match us, hl with | [_, _], _ => rfl), .nil⟩
  have hG_Limits_let : FnG P w K mg base 1 _ fd_Limits_let ["self", "flags"] (spF0 K mg false 2 f_Limits_let) := ok_Limits_let Z  G_Limits_let
  have hO_Limits_let : ∃ fa fd, Meth K (He.ga K "Limits") "let" fa ∧ FnG P w K mg base 1 fa fd ["self", "flags"] (spF0 K mg false 2 f_Limits_let) ∧ Binds K fd ["self", "flags"] [] := ⟨_, _, He.meth_ok (c.fact 45), hG_Limits_let, G_Limits_let.bindsN fun _ _ _ _ _ _ us hl => (match us, hl with | [_, _], _ => rfl)⟩
  have hG_steps_from : FnG P w K mg base 3 _ fd_steps_from ["rule", "limits", "situation"] (spF0 K mg false 3 f_steps_from) := ok_steps_from Z hF_row_of hP_rows hF_flag_of hO_Limits_let hP_settled hF_spelled G_steps_from
  have hF_steps_from : FnC P w K mg base 3 "steps_from" (spF0 K mg false 3 f_steps_from) ["rule", "limits", "situation"] [] := ⟨_, _, [], hG_steps_from, He.glo_ok X G (c.fact 73), G_steps_from.kp, G_steps_from.bindsN fun _ _ _ _ _ _ us hl => (match us, hl with | [_, _, _], _ => rfl), .nil⟩
  have hG_is_row : FnG P w K mg base 3 _ fd_is_row ["value", "count"] (spF0 K mg false 2 f_is_row) := ok_is_row Z hF_is_between G_is_row
  have hF_is_row : FnC P w K mg base 3 "is_row" (spF0 K mg false 2 f_is_row) ["value", "count"] [] := ⟨_, _, [], hG_is_row, He.glo_ok X G (c.fact 74), G_is_row.kp, G_is_row.bindsN fun _ _ _ _ _ _ us hl => (match us, hl with | [_, _], _ => rfl), .nil⟩
  have hG_is_table : FnG P w K mg base 4 _ fd_is_table ["value"] (spF0 K mg false 1 f_is_table) := ok_is_table Z hF_is_row G_is_table
  have hF_is_table : FnC P w K mg base 4 "is_table" (spF0 K mg false 1 f_is_table) ["value"] [] := ⟨_, _, [], hG_is_table, He.glo_ok X G (c.fact 75), G_is_table.kp, G_is_table.bindsN fun _ _ _ _ _ _ us hl => (match us, hl with | [_], _ => rfl), .nil⟩
  have hG_row_classes : FnG P w K mg base 1 _ fd_row_classes ["rows"] (spF0 K mg false 1 f_row_classes) := ok_row_classes Z  G_row_classes
  have hF_row_classes : FnC P w K mg base 1 "row_classes" (spF0 K mg false 1 f_row_classes) ["rows"] [] := ⟨_, _, [], hG_row_classes, He.glo_ok X G (c.fact 76), G_row_classes.kp, G_row_classes.bindsN fun _ _ _ _ _ _ us hl => (match us, hl with | [_], _ => rfl), .nil⟩
  have hG_reached : FnG P w K mg base 1 _ fd_reached ["rows", "start"] (spF0 K mg false 2 f_reached) := ok_reached Z  G_reached
  have hF_reached : FnC P w K mg base 1 "reached" (spF0 K mg false 2 f_reached) ["rows", "start"] [] := ⟨_, _, [], hG_reached, He.glo_ok X G (c.fact 77), G_reached.kp, G_reached.bindsN fun _ _ _ _ _ _ us hl => (match us, hl with | [_, _], _ => rfl), .nil⟩
  have hG_smallest : FnG P w K mg base 2 _ fd_smallest ["rows", "start"] (spF0 K mg false 2 f_smallest) := ok_smallest Z hF_row_classes hF_reached G_smallest
  have hF_smallest : FnC P w K mg base 2 "smallest" (spF0 K mg false 2 f_smallest) ["rows", "start"] [] := ⟨_, _, [], hG_smallest, He.glo_ok X G (c.fact 78), G_smallest.kp, G_smallest.bindsN fun _ _ _ _ _ _ us hl => (match us, hl with | [_, _], _ => rfl), .nil⟩
  have hG_RuleU_initU : FnG P w K mg base 5 _ fd_RuleU_initU ["self", "table"] (spF1 K mg false 2 f_RuleU_initU) := ok_RuleU_initU Z hF_is_table hF_smallest G_RuleU_initU
  have hM_Rule_1_ : ∃ f fd g, Mk K (He.ga K "Rule") f ∧ FnG P w K mg base 5 f fd ["self", "table"] (spF1 K mg false 2 f_RuleU_initU) ∧ KBn K fd ["self", "table"] 2 [] g gV_Rule_1_ := ⟨_, _, _, He.mkr_ok (c.fact 47), hG_RuleU_initU, kbn0 (G_RuleU_initU.bindsN fun _ _ _ _ _ _ us hl => match us, hl with | [_, _], _ => rfl)⟩
  have hG_some_rule : FnG P w K mg base 7 _ fd_some_rule [] (spF0 K mg false 0 f_some_rule) := ok_some_rule Z hM_Rule_1_ G_some_rule
  have hF_some_rule : FnC P w K mg base 7 "some_rule" (spF0 K mg false 0 f_some_rule) [] [] := ⟨_, _, [], hG_some_rule, He.glo_ok X G (c.fact 79), G_some_rule.kp, G_some_rule.bindsN fun _ _ _ _ _ _ us hl => (match us, hl with | [], _ => rfl), .nil⟩
  have hG_next_situations : FnG P w K mg base 8 _ fd_next_situations ["limits", "situation", "check", "is_first"] (spF0 K mg false 4 f_next_situations) := ok_next_situations Z hF_steps_from hF_some_rule G_next_situations
  have hF_next_situations : FnC P w K mg base 8 "next_situations" (spF0 K mg false 4 f_next_situations) ["limits", "situation", "check", "is_first"] [] := ⟨_, _, [], hG_next_situations, He.glo_ok X G (c.fact 80), G_next_situations.kp, G_next_situations.bindsN fun _ _ _ _ _ _ us hl => (match us, hl with | [_, _, _, _], _ => rfl), .nil⟩
  have hG_fewest_errors : FnG P w K mg base 9 _ fd_fewest_errors ["limits", "checks"] (spF0 K mg false 2 f_fewest_errors) := ok_fewest_errors Z hF_check_log hF_beginnings hF_next_situations hF_flag_of G_fewest_errors
  have hF_fewest_errors : FnC P w K mg base 9 "fewest_errors" (spF0 K mg false 2 f_fewest_errors) ["limits", "checks"] [] := ⟨_, _, [], hG_fewest_errors, He.glo_ok X G (c.fact 81), G_fewest_errors.kp, G_fewest_errors.bindsN fun _ _ _ _ _ _ us hl => (match us, hl with | [_, _], _ => rfl), .nil⟩
  have hG__law_spelled : FnG P w K mg base 1 _ fd__law_spelled ["_law_row", "_law_state", "_law_age", "_law_flags"] (spF0 K mg false 4 f__law_spelled) := ok__law_spelled Z  G__law_spelled
  have hF__law_spelled : FnC P w K mg base 1 "_law_spelled" (spF0 K mg false 4 f__law_spelled) ["_law_row", "_law_state", "_law_age", "_law_flags"] [] := ⟨_, _, [], hG__law_spelled, He.glo_ok X G (c.fact 82), G__law_spelled.kp, G__law_spelled.bindsN fun _ _ _ _ _ _ us hl => (match us, hl with | [_, _, _, _], _ => rfl), .nil⟩
  have hG__law_beginnings : FnG P w K mg base 2 _ fd__law_beginnings ["_law_numbers_here"] (spF0 K mg false 1 f__law_beginnings) := ok__law_beginnings Z hF__law_spelled G__law_beginnings
  have hF__law_beginnings : FnC P w K mg base 2 "_law_beginnings" (spF0 K mg false 1 f__law_beginnings) ["_law_numbers_here"] [] := ⟨_, _, [], hG__law_beginnings, He.glo_ok X G (c.fact 83), G__law_beginnings.kp, G__law_beginnings.bindsN fun _ _ _ _ _ _ us hl => (match us, hl with | [_], _ => rfl), .nil⟩
  have hG__law_steps : FnG P w K mg base 2 _ fd__law_steps ["_law_rows", "_law_numbers_here", "_law_place"] (spF0 K mg false 3 f__law_steps) := ok__law_steps Z hF__law_flag hF__law_let hF__law_spelled G__law_steps
  have hF__law_steps : FnC P w K mg base 2 "_law_steps" (spF0 K mg false 3 f__law_steps) ["_law_rows", "_law_numbers_here", "_law_place"] [] := ⟨_, _, [], hG__law_steps, He.glo_ok X G (c.fact 84), G__law_steps.kp, G__law_steps.bindsN fun _ _ _ _ _ _ us hl => (match us, hl with | [_, _, _], _ => rfl), .nil⟩
  have hG__law_log_steps : FnG P w K mg base 3 _ fd__law_log_steps ["_law_numbers_here", "_law_place", "_law_check", "_law_is_first"] (spF0 K mg false 4 f__law_log_steps) := ok__law_log_steps Z hF__law_steps G__law_log_steps
  have hF__law_log_steps : FnC P w K mg base 3 "_law_log_steps" (spF0 K mg false 4 f__law_log_steps) ["_law_numbers_here", "_law_place", "_law_check", "_law_is_first"] [] := ⟨_, _, [], hG__law_log_steps, He.glo_ok X G (c.fact 85), G__law_log_steps.kp, G__law_log_steps.bindsN fun _ _ _ _ _ _ us hl => (match us, hl with | [_, _, _, _], _ => rfl), .nil⟩
  have hG__law_long : FnG P w K mg base 4 _ fd__law_long ["_law_numbers_here", "_law_checks_here"] (spF0 K mg false 2 f__law_long) := ok__law_long Z hF__law_beginnings hF__law_log_steps hF__law_flag hF__law_better G__law_long
  have hF__law_long : FnC P w K mg base 4 "_law_long" (spF0 K mg false 2 f__law_long) ["_law_numbers_here", "_law_checks_here"] [] := ⟨_, _, [], hG__law_long, He.glo_ok X G (c.fact 86), G__law_long.kp, G__law_long.bindsN fun _ _ _ _ _ _ us hl => (match us, hl with | [_, _], _ => rfl), .nil⟩
  exact ok_law Z hF__law_pen hF__law_cell_at hF__law_pick hF__law_numbers hF__law_small hF__law_checks hF__law_limits hF__law_due hF__law_same hF_fewest_errors hF__law_long G_law
end
end Lw
namespace Lw
open PySem hiding start
open PySem.Spec L2 Sr
open PyProof.Rows hiding St
theorem ob_eq (s : PySem.W.SharedT) : ob s = hk.obs s.abs := obsL_eq (HandSHeadRun.getT_eq s)
end Lw
namespace Lw
open PySem hiding start
open L2 Sr
open Hi (rep)
theorem t_reached1 (a b c j : Sl) (l : List Nat) (x : Nat) (hl : l.length < 16777216) : turn (gN 5) l_reached_1 (.int (x : Nat)) [a, b, .own (.lst (nats l)), .own (.dk (kn ik l)), c, j] = .ok .nx [a, b, .own (.lst (nats (Tb.addN l x))), .own (.dk (kn ik (Tb.addN l x))), c, .val (.int (x : Nat))] := by
  have hv := kn_val ik_inj x l
  have hk : dKey (.int (x : Int)) = some (ik x) := rfl
  unfold Tb.addN
  by_cases h : x ∈ l
  · rw [if_pos h] at hv ⊢
    simp [l_reached_1, gDnot, gDat, hk, hv, mkF0, mkF1, fin0, fin1, st0, st1, bnd, Sr.ret, opt, mN, mNB, mB, der, m1, m2, m2b, m2r, mT, asB, mChain, mAnd, mOr, mNot, mAndV, mOrV, mNotV, mIf, mNil, mCons, mTup, mLst, mIsN, mNotN, Sr.isNon, mCal, mCal1, mIsi, mFldB, gFld, mC0, mC1, ap0, ap1, chkO, chkL, putL, mMk, apM, skp, sq, sDrop, sRet, sRetO, sIf, sSet, sSetO, sAsg, sPar, gN, gsN, gsC, gT, gA, sApp, sPutI, sNever, mItems, dItems, mRng, mRng2, gRng, gRng2, sFor, turn, gI, gI0, gLt, gLe, gGt, gGe, gAdd, gAddI, gAddS, gAddT, gAddL, Sr.gSub, gMul, gMulI, gDiv, gMod, gPow, gNeg, gEq, gNe, dEq, eqS, gLen, gInt1, gMax2, gMin2, gAbs, gIx, gLtT, dInts, putD, gIsi, dKind, tInt, tOnly, List.map_cons, List.map_nil, List.length_cons, List.length_nil, List.cons_append, List.nil_append, List.getElem?_cons_zero, List.getElem?_cons_succ, List.set_cons_zero, List.set_cons_succ, List.replicate, Option.some_or, Option.none_or, Option.map_some, Option.map_none, Option.bind_some, Option.bind_none]
  · rw [if_neg h] at hv ⊢
    have hp := kn_put ik_inj h
    have hn : nats l ++ [.int (x : Int)] = nats (l ++ [x]) := by unfold nats; simp
    simp [l_reached_1, gDnot, gDat, hk, hv, sPutD, chkD, isDct, putDD, gPutD, hp, hn, kn_len, nats_len, hl, sizeLine, mkF0, mkF1, fin0, fin1, st0, st1, bnd, Sr.ret, opt, mN, mNB, mB, der, m1, m2, m2b, m2r, mT, asB, mChain, mAnd, mOr, mNot, mAndV, mOrV, mNotV, mIf, mNil, mCons, mTup, mLst, mIsN, mNotN, Sr.isNon, mCal, mCal1, mIsi, mFldB, gFld, mC0, mC1, ap0, ap1, chkO, chkL, putL, mMk, apM, skp, sq, sDrop, sRet, sRetO, sIf, sSet, sSetO, sAsg, sPar, gN, gsN, gsC, gT, gA, sApp, sPutI, sNever, mItems, dItems, mRng, mRng2, gRng, gRng2, sFor, turn, gI, gI0, gLt, gLe, gGt, gGe, gAdd, gAddI, gAddS, gAddT, gAddL, Sr.gSub, gMul, gMulI, gDiv, gMod, gPow, gNeg, gEq, gNe, dEq, eqS, gLen, gInt1, gMax2, gMin2, gAbs, gIx, gLtT, dInts, putD, gIsi, dKind, tInt, tOnly, List.map_cons, List.map_nil, List.length_cons, List.length_nil, List.cons_append, List.nil_append, List.getElem?_cons_zero, List.getElem?_cons_succ, List.set_cons_zero, List.set_cons_succ, List.replicate, Option.some_or, Option.none_or, Option.map_some, Option.map_none, Option.bind_some, Option.bind_none]
theorem b_reached2 (t : Tb.Tab) (s : Nat) (ok : Tb.Ok t) (ht : t.length ≤ 100000) (q q' : Tb.RS) (I : Tb.RI t s q) (h : Tb.rStep t q = some q') (j5 : Sl) :
    ∃ k5, l_reached_2 [.val (encT t), .val (.int (s : Nat)), .own (.lst (nats q.1)), .own (.dk (kn ik q.1)), .val (.int (q.2 : Nat)), j5] = .ok .nx [.val (encT t), .val (.int (s : Nat)), .own (.lst (nats q'.1)), .own (.dk (kn ik q'.1)), .val (.int (q'.2 : Nat)), k5] := by
  obtain ⟨l, a⟩ := q
  unfold Tb.rStep at h
  dsimp only at h
  split at h
  · rename_i ha
    cases h
    have hx : l.getD a 0 < t.length := I.lt _ (Tb.getD_mem ha)
    have hlen := Tb.pigeon t.length l I.nd I.lt
    have g1 := ix_nats ha
    have g2 := ix_tab (t := t) hx
    have hcut : gSl (encR (Tb.row t (l.getD a 0))) (some 1) none = some (.tup [.int ((Tb.row t (l.getD a 0)).2.1 : Nat), .int ((Tb.row t (l.getD a 0)).2.2 : Nat)]) := rfl
    generalize l.getD a 0 = x at *
    generalize Tb.row t x = r at *
    have l2 : (Tb.addN l r.2.1).length ≤ l.length + 1 := by unfold Tb.addN; split <;> simp
    have t1 := t_reached1 (.val (encT t)) (.val (.int (s : Nat))) (.val (.int (a : Nat))) j5 l r.2.1 (by omega)
    have t2 := t_reached1 (.val (encT t)) (.val (.int (s : Nat))) (.val (.int (a : Nat))) (.val (.int (r.2.1 : Nat))) (Tb.addN l r.2.1) r.2.2 (by omega)
    have hf : forL (gN 5) l_reached_1 [.int (r.2.1 : Nat), .int (r.2.2 : Nat)] [.val (encT t), .val (.int (s : Nat)), .own (.lst (nats l)), .own (.dk (kn ik l)), .val (.int (a : Nat)), j5] = .ok .nx [.val (encT t), .val (.int (s : Nat)), .own (.lst (nats (Tb.addN (Tb.addN l r.2.1) r.2.2))), .own (.dk (kn ik (Tb.addN (Tb.addN l r.2.1) r.2.2))), .val (.int (a : Nat)), .val (.int (r.2.2 : Nat))] := by
      rw [forL_cons_nx t1, forL_cons_nx t2]; rfl
    exact ⟨_, by simp [l_reached_2, mSl, mPart, mNoP, asI, g1, g2, hcut, hf, sFor, mItems, dItems, bnd, m2, m2b, mNB, mN, der, opt, Sr.ret, sq, sSet, gAdd, gAddI, gI0]; rfl⟩
  · cases h
theorem s_reached (t : Tb.Tab) (s : Nat) (ok : Tb.Ok t) (hs : s < t.length) (ht : t.length ≤ 100000) : f_reached .non [encT t, .int (s : Nat)] = .ok (.lst (nats (Tb.reach t s))) .non := by
  have W := whl_iter (c := (mT (m2 gLt (mN 4) (mCal1 gLen (mNB 2))))) (b := l_reached_2) (Tb.rStep t) (fun q e => Tb.RI t s q ∧ ∃ j5, e = [.val (encT t), .val (.int (s : Nat)), .own (.lst (nats q.1)), .own (.dk (kn ik q.1)), .val (.int (q.2 : Nat)), j5])
    (fun q e hr hd => by
      obtain ⟨I, j5, rfl⟩ := hr
      obtain ⟨l, a⟩ := q
      unfold Tb.rStep at hd
      dsimp only at hd
      split at hd
      · cases hd
      · rename_i hn
        simp [mT, m2, mCal1, mN, mNB, der, bnd, opt, gLen, gLt, gI0, asB, nats_len, hn])
    (fun q q' e hr hd => by
      obtain ⟨I, j5, rfl⟩ := hr
      obtain ⟨k5, hb⟩ := b_reached2 t s ok ht q q' I hd j5
      refine ⟨?_, _, hb, (Tb.ri_step ok I hd).1, _, rfl⟩
      unfold Tb.rStep at hd
      split at hd
      · rename_i hn
        simp [mT, m2, mCal1, mN, mNB, der, bnd, opt, gLen, gLt, gI0, asB, nats_len, hn]
      · cases hd)
    t.length wF ([s], 0) [.val (encT t), .val (.int (s : Nat)), .own (.lst (nats [s])), .own (.dk (kn ik [s])), .val (.int ((0 : Nat) : Int)), .no] (by unfold wF; omega) ⟨Tb.ri_start hs, .no, rfl⟩ (Tb.reach_done ok hs)
  obtain ⟨e', h1, _, j5, rfl⟩ := W
  have hd : mDisp [((mN 1), (ret (.bl true)))] [.val (encT t), .val (.int (s : Nat)), .own (.lst (nats [s])), .no, .no, .no] = .ok (.dk (kn ik [s])) [.val (encT t), .val (.int (s : Nat)), .own (.lst (nats [s])), .no, .no, .no] := rfl
  have e0 : b_reached (st0 6 [encT t, .int (s : Nat)]) = sq (sWhile (mT (m2 gLt (mN 4) (mCal1 gLen (mNB 2)))) l_reached_2) (sRet (mN 2)) [.val (encT t), .val (.int (s : Nat)), .own (.lst (nats [s])), .own (.dk (kn ik [s])), .val (.int ((0 : Nat) : Int)), .no] := by
    simp [b_reached, st0, sq, sSetO, sSet, bnd, mLst, mCons, mNil, mN, Sr.ret, opt, hd, nats, sizeLine, List.replicate]
    rfl
  unfold f_reached mkF0
  rw [e0]
  unfold sWhile
  rw [sq_nx h1]
  simp [sRet, mN, bnd, Sr.ret, fin0]
  rfl
theorem s_f0 (t : Tb.Tab) (ht : t.length ≤ 4000) (x1 x2 x3 x4 x5 x6 x7 : Sl) : ∃ y6, mLc [6] (mItems (mN 0)) (gN 6) t_row_classes_1 e_row_classes_1 [.val (encT t), x1, x2, x3, x4, x5, x6, x7] = .ok (.lst (nats (Tb.f0 t))) [.val (encT t), x1, x2, x3, x4, x5, y6, x7] := by
  have h := mLc_map (m := mItems (mN 0)) (w := gN 6) (t := t_row_classes_1) (el := e_row_classes_1) (vs := [6]) (e := [.val (encT t), x1, x2, x3, x4, x5, x6, x7]) (e1 := [.val (encT t), x1, x2, x3, x4, x5, x6, x7]) (xs := t) encR (fun r => .int ((if r.1 then 1 else 0 : Nat) : Int)) (by simp [mItems, mN, bnd, opt, encT, dItems]) (by omega) (fun r hr => by
    refine ⟨[.val (encT t), x1, x2, x3, x4, x5, .val (encR r), x7], [.val (encT t), x1, x2, x3, x4, x5, .val (encR r), x7], [.val (encT t), x1, x2, x3, x4, x5, .val (encR r), x7], rfl, rfl, ?_, rfl⟩
    obtain ⟨b, p, f⟩ := r
    cases b <;> rfl)
  have e : (t.map fun r => D.int ((if r.1 then 1 else 0 : Nat) : Int)) = nats (Tb.f0 t) := by unfold nats Tb.f0; rw [List.map_map]; rfl
  rw [e] at h
  obtain ⟨y, hy⟩ : ∃ y, rst [6] [.val (encT t), x1, x2, x3, x4, x5, x6, x7] (wipE [6] [.val (encT t), x1, x2, x3, x4, x5, x6, x7]) = [.val (encT t), x1, x2, x3, x4, x5, y, x7] := by cases x6 <;> exact ⟨_, rfl⟩
  exact ⟨y, by rw [h, hy]⟩
theorem ded_snoc (pre : List Tb.K3) (k : Tb.K3) : Tb.ded (pre ++ [k]) = Tb.addN (Tb.ded pre) k := by unfold Tb.ded; rw [List.foldl_append]; rfl
def lat (pre : List Tb.K3) : List Nat := pre.map fun k => (Tb.ded pre).idxOf k
theorem lat_snoc (pre : List Tb.K3) (k : Tb.K3) : lat (pre ++ [k]) = lat pre ++ [(Tb.ded (pre ++ [k])).idxOf k] := by
  unfold lat
  rw [List.map_append]
  congr 1
  refine List.map_congr_left fun x hx => ?_
  rw [ded_snoc]
  obtain ⟨r, e⟩ := Tb.addN_pre (l := Tb.ded pre) (x := k)
  rw [e]
  exact Tb.idxOf_pre (Tb.mem_ded.mpr hx)
theorem t_class1 (t : Tb.Tab) (f : List Nat) (hf : f.length = t.length) (ok : Tb.Ok t) (ht : t.length ≤ 4000) (x2 j5 j6 j7 : Sl) (pre : List Tb.K3) (hl : pre.length ≤ 4000) (r : Tb.Row) (i : Nat) (hi : i < t.length) (hr : r ∈ t) :
    ∃ k5 k6 k7, turn (gT 2 (gsC (gN 5) (gsC (gN 6) gsN))) l_row_classes_1 (.tup [.int (i : Nat), encR r]) [.val (encT t), .val (.lst (nats f)), x2, .own (.dt (dix ik3 (Tb.ded pre))), .own (.lst (nats (lat pre))), j5, j6, j7] =
      .ok .nx [.val (encT t), .val (.lst (nats f)), x2, .own (.dt (dix ik3 (Tb.ded (pre ++ [(f.getD i 0, f.getD r.2.1 0, f.getD r.2.2 0)])))), .own (.lst (nats (lat (pre ++ [(f.getD i 0, f.getD r.2.1 0, f.getD r.2.2 0)])))), k5, k6, k7] := by
  have hrr := ok r hr
  have g0 := ix_nats (l := f) (i := i) (by omega)
  have g1 := ix_nats (l := f) (i := r.2.1) (by omega)
  have g2 := ix_nats (l := f) (i := r.2.2) (by omega)
  have q1 : gIx (encR r) (.int 1) = some (.int (r.2.1 : Nat)) := rfl
  have q2 : gIx (encR r) (.int 2) = some (.int (r.2.2 : Nat)) := rfl
  generalize f.getD i 0 = a at *
  generalize f.getD r.2.1 0 = b at *
  generalize f.getD r.2.2 0 = c at *
  have hk : dKeyL [.int (a : Nat), .int (b : Nat), .int (c : Nat)] = some (ik3 (a, b, c)) := rfl
  have hv := dix_val ik3_inj (x := (a, b, c)) (l := Tb.ded pre)
  have hdl : (Tb.ded pre).length ≤ 4000 := by
    have H : ∀ (ks l : List Tb.K3), (ks.foldl Tb.addN l).length ≤ l.length + ks.length := by
      intro ks
      induction ks with
      | nil => intro l; simp
      | cons k ks ih =>
        intro l
        have := ih (Tb.addN l k)
        have h2 : (Tb.addN l k).length ≤ l.length + 1 := by unfold Tb.addN; split <;> simp
        rw [List.foldl_cons, List.length_cons]; omega
    have := H pre []
    unfold Tb.ded
    simp at this
    omega
  have hll : (nats (lat pre)).length < 16777216 := by rw [nats_len]; unfold lat; rw [List.length_map]; omega
  rw [lat_snoc, ded_snoc]
  have hn : ∀ m : Nat, nats (lat pre) ++ [.int (m : Int)] = nats (lat pre ++ [m]) := fun m => by unfold nats; simp
  unfold Tb.addN
  by_cases h : (a, b, c) ∈ Tb.ded pre
  · rw [if_pos h] at hv ⊢
    exact ⟨_, _, _, by simp [l_row_classes_1, q1, q2, g0, g1, g2, gDnot, gDat, gDg, hk, hv, hll, hn, sizeLine, mkF0, mkF1, fin0, fin1, st0, st1, bnd, Sr.ret, opt, mN, mNB, mB, der, m1, m2, m2b, m2r, mT, asB, mChain, mAnd, mOr, mNot, mAndV, mOrV, mNotV, mIf, mNil, mCons, mTup, mLst, mIsN, mNotN, Sr.isNon, mCal, mCal1, mIsi, mFldB, gFld, mC0, mC1, ap0, ap1, chkO, chkL, putL, mMk, apM, skp, sq, sDrop, sRet, sRetO, sIf, sSet, sSetO, sAsg, sPar, gN, gsN, gsC, gT, gA, sApp, sPutI, sNever, mItems, dItems, mRng, mRng2, gRng, gRng2, sFor, turn, gI, gI0, gLt, gLe, gGt, gGe, gAdd, gAddI, gAddS, gAddT, gAddL, Sr.gSub, gMul, gMulI, gDiv, gMod, gPow, gNeg, gEq, gNe, dEq, eqS, gLen, gInt1, gMax2, gMin2, gAbs, gLtT, dInts, putD, gIsi, dKind, tInt, tOnly, List.map_cons, List.map_nil, List.length_cons, List.length_nil, List.cons_append, List.nil_append, List.getElem?_cons_zero, List.getElem?_cons_succ, List.set_cons_zero, List.set_cons_succ, List.replicate, Option.some_or, Option.none_or, Option.map_some, Option.map_none, Option.bind_some, Option.bind_none]; exact ⟨rfl, rfl, rfl⟩⟩
  · rw [if_neg h] at hv ⊢
    have hp := dix_put ik3_inj h
    have hlen := dix_len (enc := ik3) (l := Tb.ded pre)
    have hv2 := dix_val ik3_inj (x := (a, b, c)) (l := Tb.ded pre ++ [(a, b, c)])
    rw [if_pos (by simp)] at hv2
    have hsz : (Tb.ded pre).length < 16777216 := by omega
    exact ⟨_, _, _, by simp [l_row_classes_1, q1, q2, g0, g1, g2, gDnot, gDat, gDg, hk, hv, hv2, hll, hn, sPutD, chkD, isDct, putDD, gPutD, gLenA, gLenT, hp, hlen, hsz, sizeLine, mkF0, mkF1, fin0, fin1, st0, st1, bnd, Sr.ret, opt, mN, mNB, mB, der, m1, m2, m2b, m2r, mT, asB, mChain, mAnd, mOr, mNot, mAndV, mOrV, mNotV, mIf, mNil, mCons, mTup, mLst, mIsN, mNotN, Sr.isNon, mCal, mCal1, mIsi, mFldB, gFld, mC0, mC1, ap0, ap1, chkO, chkL, putL, mMk, apM, skp, sq, sDrop, sRet, sRetO, sIf, sSet, sSetO, sAsg, sPar, gN, gsN, gsC, gT, gA, sApp, sPutI, sNever, mItems, dItems, mRng, mRng2, gRng, gRng2, sFor, turn, gI, gI0, gLt, gLe, gGt, gGe, gAdd, gAddI, gAddS, gAddT, gAddL, Sr.gSub, gMul, gMulI, gDiv, gMod, gPow, gNeg, gEq, gNe, dEq, eqS, gLen, gInt1, gMax2, gMin2, gAbs, gLtT, dInts, putD, gIsi, dKind, tInt, tOnly, List.map_cons, List.map_nil, List.length_cons, List.length_nil, List.cons_append, List.nil_append, List.getElem?_cons_zero, List.getElem?_cons_succ, List.set_cons_zero, List.set_cons_succ, List.replicate, Option.some_or, Option.none_or, Option.map_some, Option.map_none, Option.bind_some, Option.bind_none]; exact ⟨rfl, rfl, rfl⟩⟩
theorem fold_snoc {A B : Type} (g : B → A) (l : List B) : ∀ (acc : List A), l.foldl (fun pre q => pre ++ [g q]) acc = acc ++ l.map g := by
  induction l with
  | nil => intro acc; simp
  | cons q l ih => intro acc; rw [List.foldl_cons, ih]; simp
theorem s_inner (t : Tb.Tab) (f : List Nat) (hf : f.length = t.length) (ok : Tb.Ok t) (ht : t.length ≤ 4000) (x2 j5 j6 j7 : Sl) :
    ∃ k5 k6 k7, forL (gT 2 (gsC (gN 5) (gsC (gN 6) gsN))) l_row_classes_1 (enumL (t.map encR)) [.val (encT t), .val (.lst (nats f)), x2, .own (.dt []), .own (.lst []), j5, j6, j7] =
      .ok .nx [.val (encT t), .val (.lst (nats f)), x2, .own (.dt (dix ik3 (Tb.ded (Tb.keys t f)))), .own (.lst (nats (Tb.renum (Tb.keys t f)))), k5, k6, k7] := by
  have H := forL_map (w := gT 2 (gsC (gN 5) (gsC (gN 6) gsN))) (b := l_row_classes_1) (fun (q : Tb.Row × Nat) => .tup [.int (q.2 : Nat), encR q.1])
    (fun (pre : List Tb.K3) e => ∃ j5 j6 j7, e = [.val (encT t), .val (.lst (nats f)), x2, .own (.dt (dix ik3 (Tb.ded pre))), .own (.lst (nats (lat pre))), j5, j6, j7])
    (fun pre q => pre ++ [(f.getD q.2 0, f.getD q.1.2.1 0, f.getD q.1.2.2 0)]) [] t.zipIdx [.val (encT t), .val (.lst (nats f)), x2, .own (.dt []), .own (.lst []), j5, j6, j7]
    (by
      rintro pre ⟨r, i⟩ post hp e ⟨j5, j6, j7, rfl⟩
      have hm : (r, i) ∈ t.zipIdx := by rw [hp]; simp
      have hm2 := List.mem_zipIdx hm
      have hi : i < t.length := by omega
      have hr : r ∈ t := by
        have := hm2.2.2
        rw [this]; exact List.getElem_mem _
      have hl : (pre.foldl (fun pre (q : Tb.Row × Nat) => pre ++ [(f.getD q.2 0, f.getD q.1.2.1 0, f.getD q.1.2.2 0)]) []).length ≤ 4000 := by
        have h2 : pre.length ≤ t.length := by
          have := congrArg List.length hp
          simp at this
          omega
        rw [fold_snoc]
        simp
        omega
      obtain ⟨k5, k6, k7, h⟩ := t_class1 t f hf ok ht x2 j5 j6 j7 _ hl r i hi hr
      exact ⟨_, h, _, _, _, rfl⟩)
    ⟨j5, j6, j7, rfl⟩
  rw [← enumL_tab] at H
  obtain ⟨e', h1, k5, k6, k7, rfl⟩ := H
  have hk : t.zipIdx.foldl (fun pre (q : Tb.Row × Nat) => pre ++ [(f.getD q.2 0, f.getD q.1.2.1 0, f.getD q.1.2.2 0)]) [] = Tb.keys t f := by
    rw [fold_snoc]; unfold Tb.keys; simp
  rw [hk] at h1
  exact ⟨_, _, _, h1⟩
theorem s_classes (t : Tb.Tab) (ok : Tb.Ok t) (ht : t.length ≤ 4000) : f_row_classes .non [encT t] = .ok (.lst (nats (Tb.cls t))) .non := by
  obtain ⟨y6, h0⟩ := s_f0 t ht .no .no .no .no .no .no .no
  have W := whl_iter (c := (mT (m2 gLt (mN 2) (mCal1 gLenSet (mB (mN 1)))))) (b := l_row_classes_2) (Tb.cStep t) (fun q e => Tb.CI t q ∧ ∃ j3 j4 j5 j6 j7, e = [.val (encT t), .val (.lst (nats q.1)), .val (.int (q.2 : Nat)), j3, j4, j5, j6, j7])
    (fun q e hr hd => by
      obtain ⟨I, j3, j4, j5, j6, j7, rfl⟩ := hr
      have hs := lenSet_nats (l := q.1) (by have := I.len; omega)
      unfold Tb.cStep at hd
      split at hd
      · cases hd
      · rename_i hn
        simp [mT, m2, mCal1, mN, mB, der, bnd, opt, Sr.ret, hs, gLt, gI0, asB, hn])
    (fun q q' e hr hd => by
      obtain ⟨I, j3, j4, j5, j6, j7, rfl⟩ := hr
      have hs := lenSet_nats (l := q.1) (by have := I.len; omega)
      have I2 := (Tb.ci_step ok I hd).1
      unfold Tb.cStep at hd
      split at hd
      · rename_i hn
        cases hd
        obtain ⟨k5, k6, k7, hi⟩ := s_inner t q.1 I.len ok ht (.val (.int (Tb.dist q.1 : Nat))) j5 j6 j7
        refine ⟨by simp [mT, m2, mCal1, mN, mB, der, bnd, opt, Sr.ret, hs, gLt, gI0, asB, hn], _, ?_, I2, .own (.dt (dix ik3 (Tb.ded (Tb.keys t q.1)))), .val (.lst (nats (Tb.renum (Tb.keys t q.1)))), k5, k6, k7, rfl⟩
        have he : mEnumT (mCons (mN 0) mNil) [.val (encT t), .val (.lst (nats q.1)), .val (.int (Tb.dist q.1 : Nat)), .own (.dt []), .own (.lst []), j5, j6, j7] = .ok (enumL (t.map encR)) [.val (encT t), .val (.lst (nats q.1)), .val (.int (Tb.dist q.1 : Nat)), .own (.dt []), .own (.lst []), j5, j6, j7] := rfl
        have hm : ∀ e, mLst mNil e = .ok (.lst []) e := fun _ => rfl
        simp [l_row_classes_2, hs, he, hi, hm, sFor, sq, sSet, sSetO, mCal1, mN, mB, der, bnd, opt, Sr.ret]
      · cases hd)
    t.length wF (Tb.f0 t, 0) [.val (encT t), .val (.lst (nats (Tb.f0 t))), .val (.int ((0 : Nat) : Int)), .no, .no, .no, y6, .no] (by unfold wF; omega) ⟨Tb.ci_start t, _, _, _, _, _, rfl⟩ (Tb.cls_done ok)
  obtain ⟨e', h1, _, j3, j4, j5, j6, j7, rfl⟩ := W
  have e0 : b_row_classes (st0 8 [encT t]) = sq (sWhile (mT (m2 gLt (mN 2) (mCal1 gLenSet (mB (mN 1))))) l_row_classes_2) (sRet (mN 1)) [.val (encT t), .val (.lst (nats (Tb.f0 t))), .val (.int ((0 : Nat) : Int)), .no, .no, .no, y6, .no] := by
    simp [b_row_classes, st0, sq, sSet, bnd, Sr.ret, h0, List.replicate]
  unfold f_row_classes mkF0
  rw [e0]
  unfold sWhile
  rw [sq_nx h1]
  simp [sRet, mN, bnd, Sr.ret, fin0]
  rfl
def stepP (f : List Nat) (q : List Nat × List Nat) (x : Nat) : List Nat × List Nat := if f.getD x 0 ∈ q.1 then q else (q.1 ++ [f.getD x 0], q.2 ++ [x])
theorem pick_fold (f : List Nat) : ∀ (xs : List Nat) (q : List Nat × List Nat), Tb.pick f xs q = xs.foldl (stepP f) q
  | [], q => rfl
  | x :: xs, q => by rw [Tb.pick, pick_fold f xs, List.foldl_cons]; rfl
theorem stepP_len (f : List Nat) : ∀ (xs : List Nat) (q : List Nat × List Nat), q.1.length = q.2.length → (xs.foldl (stepP f) q).1.length = (xs.foldl (stepP f) q).2.length ∧ (xs.foldl (stepP f) q).2.length ≤ q.2.length + xs.length
  | [], q, h => ⟨h, by simp⟩
  | x :: xs, q, h => by
    have h1 : (stepP f q x).1.length = (stepP f q x).2.length ∧ (stepP f q x).2.length ≤ q.2.length + 1 := by
      unfold stepP
      split
      · exact ⟨h, by omega⟩
      · simp [h]
    have h2 := stepP_len f xs _ h1.1
    rw [List.foldl_cons, List.length_cons]
    exact ⟨h2.1, by omega⟩
theorem t_small1 (t : Tb.Tab) (x1 j5 x6 x7 x8 : Sl) (C : List Nat) (hC : C.length = t.length) (q : List Nat × List Nat) (hq : q.1.length = q.2.length) (hl : q.2.length ≤ 4000) (x : Nat) (hx : x < t.length) :
    ∃ k5, turn (gN 5) l_smallest_1 (.int (x : Nat)) [.val (encT t), x1, .val (.lst (nats C)), .own (.dk (dix ik q.1)), .own (.lst (q.2.map fun y => encR (Tb.row t y))), j5, x6, x7, x8] =
      .ok .nx [.val (encT t), x1, .val (.lst (nats C)), .own (.dk (dix ik (stepP C q x).1)), .own (.lst ((stepP C q x).2.map fun y => encR (Tb.row t y))), k5, x6, x7, x8] := by
  have g0 := ix_nats (l := C) (i := x) (by omega)
  have g1 := ix_tab (t := t) hx
  unfold stepP
  generalize C.getD x 0 = c at *
  have hv := dix_val ik_inj (x := c) (l := q.1)
  have hk : dKey (.int (c : Int)) = some (ik c) := rfl
  by_cases h : c ∈ q.1
  · rw [if_pos h] at hv ⊢
    exact ⟨_, by simp [l_smallest_1, g0, gDnot, gDat, hk, hv, mkF0, mkF1, fin0, fin1, st0, st1, bnd, Sr.ret, opt, mN, mNB, mB, der, m1, m2, m2b, m2r, mT, asB, mChain, mAnd, mOr, mNot, mAndV, mOrV, mNotV, mIf, mNil, mCons, mTup, mLst, mIsN, mNotN, Sr.isNon, mCal, mCal1, mIsi, mFldB, gFld, mC0, mC1, ap0, ap1, chkO, chkL, putL, mMk, apM, skp, sq, sDrop, sRet, sRetO, sIf, sSet, sSetO, sAsg, sPar, gN, gsN, gsC, gT, gA, sApp, sPutI, sNever, mItems, dItems, mRng, mRng2, gRng, gRng2, sFor, turn, gI, gI0, gLt, gLe, gGt, gGe, gAdd, gAddI, gAddS, gAddT, gAddL, Sr.gSub, gMul, gMulI, gDiv, gMod, gPow, gNeg, gEq, gNe, dEq, eqS, gLen, gInt1, gMax2, gMin2, gAbs, gLtT, dInts, putD, gIsi, dKind, tInt, tOnly, List.map_cons, List.map_nil, List.length_cons, List.length_nil, List.cons_append, List.nil_append, List.getElem?_cons_zero, List.getElem?_cons_succ, List.set_cons_zero, List.set_cons_succ, List.replicate, Option.some_or, Option.none_or, Option.map_some, Option.map_none, Option.bind_some, Option.bind_none]; rfl⟩
  · rw [if_neg h] at hv ⊢
    have hp := dix_put ik_inj h
    rw [hq] at hp
    have hlen := dix_len (enc := ik) (l := q.1)
    have hs1 : q.1.length < 16777216 := by omega
    have hs2 : q.2.length < 16777216 := by omega
    exact ⟨_, by simp [l_smallest_1, g0, g1, gDnot, gDat, hk, hv, sPutD, chkD, isDct, putDD, gPutD, hp, hlen, hs1, hs2, sizeLine, mkF0, mkF1, fin0, fin1, st0, st1, bnd, Sr.ret, opt, mN, mNB, mB, der, m1, m2, m2b, m2r, mT, asB, mChain, mAnd, mOr, mNot, mAndV, mOrV, mNotV, mIf, mNil, mCons, mTup, mLst, mIsN, mNotN, Sr.isNon, mCal, mCal1, mIsi, mFldB, gFld, mC0, mC1, ap0, ap1, chkO, chkL, putL, mMk, apM, skp, sq, sDrop, sRet, sRetO, sIf, sSet, sSetO, sAsg, sPar, gN, gsN, gsC, gT, gA, sApp, sPutI, sNever, mItems, dItems, mRng, mRng2, gRng, gRng2, sFor, turn, gI, gI0, gLt, gLe, gGt, gGe, gAdd, gAddI, gAddS, gAddT, gAddL, Sr.gSub, gMul, gMulI, gDiv, gMod, gPow, gNeg, gEq, gNe, dEq, eqS, gLen, gInt1, gMax2, gMin2, gAbs, gLtT, dInts, putD, gIsi, dKind, tInt, tOnly, List.map_cons, List.map_nil, List.length_cons, List.length_nil, List.cons_append, List.nil_append, List.getElem?_cons_zero, List.getElem?_cons_succ, List.set_cons_zero, List.set_cons_succ, List.replicate, Option.some_or, Option.none_or, Option.map_some, Option.map_none, Option.bind_some, Option.bind_none]; rfl⟩
theorem s_small_loop (t : Tb.Tab) (x1 x6 x7 x8 : Sl) (C : List Nat) (hC : C.length = t.length) (ht : t.length ≤ 4000) (L : List Nat) (hL : ∀ x ∈ L, x < t.length) (hl : L.length ≤ 4000) :
    ∃ k5, forL (gN 5) l_smallest_1 (nats L) [.val (encT t), x1, .val (.lst (nats C)), .own (.dk []), .own (.lst []), .no, x6, x7, x8] =
      .ok .nx [.val (encT t), x1, .val (.lst (nats C)), .own (.dk (dix ik (Tb.pick C L ([], [])).1)), .own (.lst ((Tb.pick C L ([], [])).2.map fun y => encR (Tb.row t y))), k5, x6, x7, x8] := by
  have H := forL_map (w := gN 5) (b := l_smallest_1) (fun (x : Nat) => D.int (x : Int))
    (fun (q : List Nat × List Nat) e => ∃ j5, e = [.val (encT t), x1, .val (.lst (nats C)), .own (.dk (dix ik q.1)), .own (.lst (q.2.map fun y => encR (Tb.row t y))), j5, x6, x7, x8])
    (stepP C) ([], []) L [.val (encT t), x1, .val (.lst (nats C)), .own (.dk []), .own (.lst []), .no, x6, x7, x8]
    (by
      rintro pre x post hp e ⟨j5, rfl⟩
      have h1 := stepP_len C pre ([], []) rfl
      have h2 : pre.length ≤ L.length := by rw [hp]; simp
      obtain ⟨k5, h⟩ := t_small1 t x1 j5 x6 x7 x8 C hC _ h1.1 (by have := h1.2; simp at this; omega) x (hL x (by rw [hp]; simp))
      exact ⟨_, h, _, rfl⟩)
    ⟨.no, rfl⟩
  obtain ⟨e', h1, k5, rfl⟩ := H
  rw [pick_fold]
  exact ⟨k5, h1⟩
theorem s_smallest (t : Tb.Tab) (s : Nat) (ok : Tb.Ok t) (hs : s < t.length) (ht : t.length ≤ 4000) : f_smallest .non [encT t, .int (s : Nat)] = .ok (encT (Tb.small t s)) .non := by
  have h1 := s_classes t ok ht
  have h2 := s_reached t s ok hs (by omega)
  have R := Tb.reach_spec ok hs
  have hC := Tb.cls_len ok
  have hl := Tb.pigeon t.length _ R.nd R.lt
  obtain ⟨k5, h3⟩ := s_small_loop t (.val (.int (s : Nat))) .no .no .no (Tb.cls t) hC ht (Tb.reach t s) R.lt (by omega)
  have P := Tb.small_pi t s
  have hm : mItems (mN 4) [.val (encT t), .val (.int (s : Nat)), .val (.lst (nats (Tb.cls t))), .own (.dk (dix ik (Tb.pick (Tb.cls t) (Tb.reach t s) ([], [])).1)), .own (.lst ((Tb.pick (Tb.cls t) (Tb.reach t s) ([], [])).2.map fun y => encR (Tb.row t y))), k5, .no, .no, .no] =
      .ok ((Tb.pick (Tb.cls t) (Tb.reach t s) ([], [])).2.map fun y => encR (Tb.row t y)) [.val (encT t), .val (.int (s : Nat)), .val (.lst (nats (Tb.cls t))), .own (.dk (dix ik (Tb.pick (Tb.cls t) (Tb.reach t s) ([], [])).1)), .val (.lst ((Tb.pick (Tb.cls t) (Tb.reach t s) ([], [])).2.map fun y => encR (Tb.row t y))), k5, .no, .no, .no] := rfl
  have hlen : (Tb.pick (Tb.cls t) (Tb.reach t s) ([], [])).2.length ≤ 4000 := by
    have := stepP_len (Tb.cls t) (Tb.reach t s) ([], []) rfl
    rw [← pick_fold] at this
    have := this.2
    simp at this
    omega
  have h4 := mLc_map (m := mItems (mN 4)) (w := gT 3 (gsC (gN 6) (gsC (gN 7) (gsC (gN 8) gsN)))) (t := t_smallest_1) (el := e_smallest_1) (vs := [6, 7, 8]) (fun y => encR (Tb.row t y)) (fun y => encR ((Tb.row t y).1, Tb.ix t s (Tb.row t y).2.1, Tb.ix t s (Tb.row t y).2.2)) hm (by omega) (fun y hy => by
    have hyr := P.sub y hy
    have hyl := R.lt y hyr
    have c1 := R.cl y hyr true
    have c2 := R.cl y hyr false
    have a1 := P.all _ c1
    have a2 := P.all _ c2
    have l1 := R.lt _ c1
    have l2 := R.lt _ c2
    unfold Tb.nx at c1 c2 a1 a2 l1 l2
    simp only [if_true] at c1 a1 l1
    simp only [Bool.false_eq_true, if_false] at c2 a2 l2
    have g1 := ix_nats (l := Tb.cls t) (i := (Tb.row t y).2.1) (by omega)
    have g2 := ix_nats (l := Tb.cls t) (i := (Tb.row t y).2.2) (by omega)
    unfold Tb.ix
    generalize hr : Tb.row t y = r at *
    obtain ⟨b, u, v⟩ := r
    dsimp only at *
    generalize (Tb.cls t).getD u 0 = cu at *
    generalize (Tb.cls t).getD v 0 = cv at *
    have v1 := dix_val ik_inj (x := cu) (l := (Tb.pick (Tb.cls t) (Tb.reach t s) ([], [])).1)
    have v2 := dix_val ik_inj (x := cv) (l := (Tb.pick (Tb.cls t) (Tb.reach t s) ([], [])).1)
    rw [if_pos a1] at v1
    rw [if_pos a2] at v2
    have k1 : dKey (.int (cu : Int)) = some (ik cu) := rfl
    have k2 : dKey (.int (cv : Int)) = some (ik cv) := rfl
    refine ⟨[.val (encT t), .val (.int (s : Nat)), .val (.lst (nats (Tb.cls t))), .own (.dk (dix ik (Tb.pick (Tb.cls t) (Tb.reach t s) ([], [])).1)), .val (.lst ((Tb.pick (Tb.cls t) (Tb.reach t s) ([], [])).2.map fun y => encR (Tb.row t y))), k5, .val (encS b), .val (.int (u : Nat)), .val (.int (v : Nat))], [.val (encT t), .val (.int (s : Nat)), .val (.lst (nats (Tb.cls t))), .own (.dk (dix ik (Tb.pick (Tb.cls t) (Tb.reach t s) ([], [])).1)), .val (.lst ((Tb.pick (Tb.cls t) (Tb.reach t s) ([], [])).2.map fun y => encR (Tb.row t y))), k5, .val (encS b), .val (.int (u : Nat)), .val (.int (v : Nat))], [.val (encT t), .val (.int (s : Nat)), .val (.lst (nats (Tb.cls t))), .own (.dk (dix ik (Tb.pick (Tb.cls t) (Tb.reach t s) ([], [])).1)), .val (.lst ((Tb.pick (Tb.cls t) (Tb.reach t s) ([], [])).2.map fun y => encR (Tb.row t y))), k5, .val (encS b), .val (.int (u : Nat)), .val (.int (v : Nat))], rfl, rfl, ?_, rfl⟩
    simp [e_smallest_1, g1, g2, gDg, gDat, k1, k2, v1, v2, encR, sizeLine, mkF0, mkF1, fin0, fin1, st0, st1, bnd, Sr.ret, opt, mN, mNB, mB, der, m1, m2, m2b, m2r, mT, asB, mChain, mAnd, mOr, mNot, mAndV, mOrV, mNotV, mIf, mNil, mCons, mTup, mLst, mIsN, mNotN, Sr.isNon, mCal, mCal1, mIsi, mFldB, gFld, mC0, mC1, ap0, ap1, chkO, chkL, putL, mMk, apM, skp, sq, sDrop, sRet, sRetO, sIf, sSet, sSetO, sAsg, sPar, gN, gsN, gsC, gT, gA, sApp, sPutI, sNever, mItems, dItems, mRng, mRng2, gRng, gRng2, sFor, turn, gI, gI0, gLt, gLe, gGt, gGe, gAdd, gAddI, gAddS, gAddT, gAddL, Sr.gSub, gMul, gMulI, gDiv, gMod, gPow, gNeg, gEq, gNe, dEq, eqS, gLen, gInt1, gMax2, gMin2, gAbs, gLtT, dInts, putD, gIsi, dKind, tInt, tOnly, List.map_cons, List.map_nil, List.length_cons, List.length_nil, List.cons_append, List.nil_append, List.getElem?_cons_zero, List.getElem?_cons_succ, List.set_cons_zero, List.set_cons_succ, List.replicate, Option.some_or, Option.none_or, Option.map_some, Option.map_none, Option.bind_some, Option.bind_none])
  have e5 : ((Tb.pick (Tb.cls t) (Tb.reach t s) ([], [])).2.map fun y => encR ((Tb.row t y).1, Tb.ix t s (Tb.row t y).2.1, Tb.ix t s (Tb.row t y).2.2)) = (Tb.small t s).map encR := by
    unfold Tb.small; rw [List.map_map]; rfl
  rw [e5] at h4
  have hd : ∀ e, mLst mNil e = .ok (.lst []) e := fun _ => rfl
  have hi : mItems (mC0 f_reached [] (mCons (mN 0) (mCons (mN 1) mNil))) [.val (encT t), .val (.int (s : Nat)), .val (.lst (nats (Tb.cls t))), .own (.dk []), .own (.lst []), .no, .no, .no, .no] = .ok (nats (Tb.reach t s)) [.val (encT t), .val (.int (s : Nat)), .val (.lst (nats (Tb.cls t))), .own (.dk []), .own (.lst []), .no, .no, .no, .no] := by
    simp [mItems, mC0, mCons, mNil, ap0, bnd, mN, Sr.ret, opt, h2, dItems]
  have hc : mC0 f_row_classes [] (mCons (mN 0) mNil) [.val (encT t), .val (.int (s : Nat)), .no, .no, .no, .no, .no, .no, .no] = .ok (.lst (nats (Tb.cls t))) [.val (encT t), .val (.int (s : Nat)), .no, .no, .no, .no, .no, .no, .no] := by
    simp [mC0, mCons, mNil, ap0, bnd, mN, Sr.ret, h1]
  have e0 : st0 9 [encT t, .int (s : Nat)] = [.val (encT t), .val (.int (s : Nat)), .no, .no, .no, .no, .no, .no, .no] := rfl
  simp [f_smallest, b_smallest, mkF0, e0, hc, hd, hi, h3, h4, gTuple, sFor, m1, fin0, sq, sSet, sSetO, sRet, bnd, Sr.ret, opt]
  rfl
theorem s_is_integer_int (a : Int) : f_is_integer .non [.int a] = .ok (.bl true) .non := rfl
theorem s_is_between (a lo hi : Int) : f_is_between .non [.int a, .int lo, .int hi] = .ok (.bl (decide (lo ≤ a) && decide (a ≤ hi))) .non := by
  by_cases h : lo ≤ a <;> simp [f_is_between, b_is_between, s_is_integer_int, h, mkF0, mkF1, fin0, fin1, st0, st1, bnd, Sr.ret, opt, mN, mNB, mB, der, m1, m2, m2b, m2r, mT, asB, mChain, mAnd, mOr, mNot, mAndV, mOrV, mNotV, mIf, mNil, mCons, mTup, mLst, mIsN, mNotN, Sr.isNon, mCal, mCal1, mIsi, mFldB, gFld, mC0, mC1, ap0, ap1, chkO, chkL, putL, mMk, apM, skp, sq, sDrop, sRet, sRetO, sIf, sSet, sSetO, sAsg, sPar, gN, gsN, gsC, gT, gA, sApp, sPutI, sNever, mItems, dItems, mRng, mRng2, gRng, gRng2, sFor, turn, gI, gI0, gLt, gLe, gGt, gGe, gAdd, gAddI, gAddS, gAddT, gAddL, Sr.gSub, gMul, gMulI, gDiv, gMod, gPow, gNeg, gEq, gNe, dEq, eqS, gLen, gInt1, gMax2, gMin2, gAbs, gIx, gLtT, dInts, putD, gIsi, dKind, tInt, tOnly, List.map_cons, List.map_nil, List.length_cons, List.length_nil, List.cons_append, List.nil_append, List.getElem?_cons_zero, List.getElem?_cons_succ, List.set_cons_zero, List.set_cons_succ, List.replicate, Option.some_or, Option.none_or, Option.map_some, Option.map_none, Option.bind_some, Option.bind_none]
theorem s_between {a lo hi : Int} (h1 : lo ≤ a) (h2 : a ≤ hi) : f_is_between .non [.int a, .int lo, .int hi] = .ok (.bl true) .non := by
  rw [s_is_between, decide_eq_true h1, decide_eq_true h2]; rfl
theorem s_is_row (r : Tb.Row) (n : Nat) (h1 : r.2.1 < n) (h2 : r.2.2 < n) : f_is_row .non [encR r, .int (n : Nat)] = .ok (.bl true) .non := by
  obtain ⟨b, p, q⟩ := r
  have b1 := s_between (a := (p : Int)) (lo := 0) (hi := (n : Int) - 1) (by omega) (by dsimp only at h1; omega)
  have b2 := s_between (a := (q : Int)) (lo := 0) (hi := (n : Int) - 1) (by omega) (by dsimp only at h2; omega)
  have hin : gIn (encS b) (.tup [.str "U", .str "D"]) = some (.bl true) := by cases b <;> kernel_rfl
  have k1 : isB_tuple (encR (b, p, q)) = some true := rfl
  have k2 : isB_str (encS b) = some true := rfl
  have g0 : gIx (encR (b, p, q)) (.int 0) = some (encS b) := rfl
  have g1 : gIx (encR (b, p, q)) (.int 1) = some (.int (p : Int)) := rfl
  have g2 : gIx (encR (b, p, q)) (.int 2) = some (.int (q : Int)) := rfl
  have gl : gLen (encR (b, p, q)) = some (.int 3) := rfl
  have ml : ∀ e, mTup (mCons (Sr.ret (.str "U")) (mCons (Sr.ret (.str "D")) mNil)) e = .ok (.tup [.str "U", .str "D"]) e := fun _ => rfl
  simp [f_is_row, b_is_row, k1, k2, g0, g1, g2, gl, b1, b2, hin, ml, mkF0, mkF1, fin0, fin1, st0, st1, bnd, Sr.ret, opt, mN, mNB, mB, der, m1, m2, m2b, m2r, mT, asB, mChain, mAnd, mOr, mNot, mAndV, mOrV, mNotV, mIf, mLst, mIsN, mNotN, Sr.isNon, mCal, mCal1, mIsi, mFldB, gFld, mC0, mC1, ap0, ap1, chkO, chkL, putL, mMk, apM, skp, sq, sDrop, sRet, sRetO, sIf, sSet, sSetO, sAsg, sPar, gN, gsN, gsC, gT, gA, sApp, sPutI, sNever, mItems, dItems, mRng, mRng2, gRng, gRng2, sFor, turn, gI, gI0, gLt, gLe, gGt, gGe, gAdd, gAddI, gAddS, gAddT, gAddL, Sr.gSub, gMul, gMulI, gDiv, gMod, gPow, gNeg, gEq, gNe, dEq, eqS, gInt1, gMax2, gMin2, gAbs, gLtT, dInts, putD, gIsi, dKind, tInt, tOnly, List.map_cons, List.map_nil, List.length_cons, List.length_nil, List.cons_append, List.nil_append, List.getElem?_cons_zero, List.getElem?_cons_succ, List.set_cons_zero, List.set_cons_succ, List.replicate, Option.some_or, Option.none_or, Option.map_some, Option.map_none, Option.bind_some, Option.bind_none]
  simp [mCons, mNil, bnd, mN, m2, g1, g2, Sr.gSub, gI0, Sr.ret, opt, b1, b2, asB, ap0]
theorem bools_true : ∀ n : Nat, dBools (List.replicate n (.bl true)) = some (List.replicate n true)
  | 0 => rfl
  | n + 1 => by rw [List.replicate_succ, List.replicate_succ]; simp [dBools, bools_true n]
theorem all_true (n : Nat) : gAll (.lst (List.replicate n (.bl true))) = some (.bl true) := by
  simp [gAll, bools_true]
theorem s_is_table (t : Tb.Tab) (ok : Tb.Ok t) (h1 : 1 ≤ t.length) (h2 : t.length ≤ 64) : f_is_table .non [encT t] = .ok (.bl true) .non := by
  have h := mLc_map (m := mItems (mN 0)) (w := gN 1) (t := t_is_table_1) (el := e_is_table_1) (vs := [1]) (e := [.val (encT t), .no]) (e1 := [.val (encT t), .no]) (xs := t) encR (fun _ => .bl true) (by simp [mItems, mN, bnd, opt, encT, dItems]) (by omega) (fun r hr => by
    have hrr := ok r hr
    have hi := s_is_row r t.length hrr.1 hrr.2
    have gl : gLen (encT t) = some (.int (t.length : Nat)) := by simp [encT, gLen]
    refine ⟨[.val (encT t), .val (encR r)], [.val (encT t), .val (encR r)], [.val (encT t), .val (encR r)], rfl, rfl, ?_, rfl⟩
    simp [e_is_table_1, hi, gl, mC0, mCons, mNil, ap0, m1, bnd, mN, Sr.ret, opt])
  have e : (t.map fun _ => D.bl true) = List.replicate t.length (.bl true) := by rw [List.map_const']
  rw [e] at h
  have gl : gLen (encT t) = some (.int (t.length : Nat)) := by simp [encT, gLen]
  have k1 : isB_tuple (encT t) = some true := rfl
  have ha := all_true t.length
  have l1 : (1 : Int) ≤ (t.length : Int) := by omega
  have l2 : (t.length : Int) ≤ 64 := by omega
  have e0 : st0 2 [encT t] = [.val (encT t), .no] := rfl
  simp [f_is_table, b_is_table, mkF0, e0, h, gl, k1, ha, l1, l2, sq, sIf, mOr, mNot, mT, mIsi, mChain, m1, bnd, mN, Sr.ret, opt, asB, gLe, gI0, sRet, skp, fin0]
def ruleO (t : Tb.Tab) : D := .obj "Rule" [("table", encT t)]
theorem s_rule (t : Tb.Tab) (ok : Tb.Ok t) (h1 : 1 ≤ t.length) (h2 : t.length ≤ 64) : f_RuleU_initU (.obj "Rule" []) [encT t] = .ok .non (ruleO (Tb.small t 0)) := by
  have a1 := s_is_table t ok h1 h2
  have a2 : f_smallest .non [encT t, .int 0] = .ok (encT (Tb.small t 0)) .non := by
    have := s_smallest t 0 ok (by omega) (by omega)
    simpa using this
  simp [f_RuleU_initU, b_RuleU_initU, a1, a2, ruleO, mkF0, mkF1, fin0, fin1, st0, st1, bnd, Sr.ret, opt, mN, mNB, mB, der, m1, m2, m2b, m2r, mT, asB, mChain, mAnd, mOr, mNot, mAndV, mOrV, mNotV, mIf, mNil, mCons, mTup, mLst, mIsN, mNotN, Sr.isNon, mCal, mCal1, mIsi, mFldB, gFld, mC0, mC1, ap0, ap1, chkO, chkL, putL, mMk, apM, skp, sq, sDrop, sRet, sRetO, sIf, sSet, sSetO, sAsg, sPar, gN, gsN, gsC, gT, gA, sApp, sPutI, sNever, mItems, dItems, mRng, mRng2, gRng, gRng2, sFor, turn, gI, gI0, gLt, gLe, gGt, gGe, gAdd, gAddI, gAddS, gAddT, gAddL, Sr.gSub, gMul, gMulI, gDiv, gMod, gPow, gNeg, gEq, gNe, dEq, eqS, gLen, gInt1, gMax2, gMin2, gAbs, gIx, gLtT, dInts, putD, gIsi, dKind, tInt, tOnly, List.map_cons, List.map_nil, List.length_cons, List.length_nil, List.cons_append, List.nil_append, List.getElem?_cons_zero, List.getElem?_cons_succ, List.set_cons_zero, List.set_cons_succ, List.replicate, Option.some_or, Option.none_or, Option.map_some, Option.map_none, Option.bind_some, Option.bind_none]
theorem s_pen (c : Int) : ∃ o, f__law_pen .non [.int c] = .ok o .non ∧ PenOk o := by
  refine ⟨.lst [.int (if c - 10 ^ 18 > 0 then c - 10 ^ 18 else 0), .int (c % 2147483629 + 1), .int 0], ?_, _, _, _, rfl, ?_, ?_, ?_⟩
  · have h : cPow 10 18 = true := by decide
    simp [f__law_pen, b__law_pen, h, sizeLine, mkF0, mkF1, fin0, fin1, st0, st1, bnd, Sr.ret, opt, mN, mNB, mB, der, m1, m2, m2b, m2r, mT, asB, mChain, mAnd, mOr, mNot, mAndV, mOrV, mNotV, mIf, mNil, mCons, mTup, mLst, mIsN, mNotN, Sr.isNon, mCal, mCal1, mIsi, mFldB, gFld, mC0, mC1, ap0, ap1, chkO, chkL, putL, mMk, apM, skp, sq, sDrop, sRet, sRetO, sIf, sSet, sSetO, sAsg, sPar, gN, gsN, gsC, gT, gA, sApp, sPutI, sNever, mItems, dItems, mRng, mRng2, gRng, gRng2, sFor, turn, gI, gI0, gLt, gLe, gGt, gGe, gAdd, gAddI, gAddS, gAddT, gAddL, Sr.gSub, gMul, gMulI, gDiv, gMod, gPow, gNeg, gEq, gNe, dEq, eqS, gLen, gInt1, gMax2, gMin2, gAbs, gIx, gLtT, dInts, putD, gIsi, dKind, tInt, tOnly, List.map_cons, List.map_nil, List.length_cons, List.length_nil, List.cons_append, List.nil_append, List.getElem?_cons_zero, List.getElem?_cons_succ, List.set_cons_zero, List.set_cons_succ, List.replicate, Option.some_or, Option.none_or, Option.map_some, Option.map_none, Option.bind_some, Option.bind_none]
  · split <;> omega
  · omega
  · omega
theorem s_draw (o : D) (many : Int) (hv : PenOk o) (h0 : 0 < many) (h1 : many < 1073741824) : ∃ r o', f__law_draw o [.int many] = .ok (.int r) o' ∧ 0 ≤ r ∧ r < many ∧ PenOk o' := by
  obtain ⟨a, b, c, rfl, ha, hb, hb2⟩ := hv
  have hd : ∀ x, cDiv x many = true := fun x => by unfold cDiv; simp; omega
  by_cases h : 0 < a
  · refine ⟨a % many, .lst [.int (a / many), .int b, .int c], ?_, Int.emod_nonneg _ (by omega), Int.emod_lt_of_pos _ h0, _, _, _, rfl, Int.ediv_nonneg ha (by omega), hb, hb2⟩
    simp [f__law_draw, b__law_draw, h, h0, hd, atI, ixN, mkF0, mkF1, fin0, fin1, st0, st1, bnd, Sr.ret, opt, mN, mNB, mB, der, m1, m2, m2b, m2r, mT, asB, mChain, mAnd, mOr, mNot, mAndV, mOrV, mNotV, mIf, mNil, mCons, mTup, mLst, mIsN, mNotN, Sr.isNon, mCal, mCal1, mIsi, mFldB, gFld, mC0, mC1, ap0, ap1, chkO, chkL, putL, mMk, apM, skp, sq, sDrop, sRet, sRetO, sIf, sSet, sSetO, sAsg, sPar, gN, gsN, gsC, gT, gA, sApp, sPutI, sNever, mItems, dItems, mRng, mRng2, gRng, gRng2, sFor, turn, gI, gI0, gLt, gLe, gGt, gGe, gAdd, gAddI, gAddS, gAddT, gAddL, Sr.gSub, gMul, gMulI, gDiv, gMod, gPow, gNeg, gEq, gNe, dEq, eqS, gLen, gInt1, gMax2, gMin2, gAbs, gIx, gLtT, dInts, putD, gIsi, dKind, tInt, tOnly, List.map_cons, List.map_nil, List.length_cons, List.length_nil, List.cons_append, List.nil_append, List.getElem?_cons_zero, List.getElem?_cons_succ, List.set_cons_zero, List.set_cons_succ, List.replicate, Option.some_or, Option.none_or, Option.map_some, Option.map_none, Option.bind_some, Option.bind_none]
  · generalize hb' : (b * 48271 + 1009 * (c + 1) + 7) % 2147483647 = b'
    have e1 : 0 ≤ b' ∧ b' < 2147483647 := by omega
    generalize hm : (b' * b' + 69621 * b' + 11) % 2147483629 = m
    have e2 : 0 ≤ m ∧ m < 2147483629 := by omega
    have c1 : cMul b 48271 = true := cmul_l (by omega) (by omega)
    have c2 : cMul 1009 (c + 1) = true := cmul_l (by omega) (by omega)
    have c3 : cMul b' b' = true := cmul_l (by omega) (by omega)
    have c4 : cMul 69621 b' = true := cmul_l (by omega) (by omega)
    have c5 : cMul m m = true := cmul_l (by omega) (by omega)
    have c6 : cMul 40014 m = true := cmul_l (by omega) (by omega)
    have c7 : ∀ x, cDiv x 16 = true := fun x => by unfold cDiv; simp
    refine ⟨((m * m + 40014 * m) % 2147483587 / 16) % many, .lst [.int a, .int b', .int (c + 1)], ?_, Int.emod_nonneg _ (by omega), Int.emod_lt_of_pos _ h0, _, _, _, rfl, ha, by omega, by omega⟩
    simp [f__law_draw, b__law_draw, h, h0, hd, hb', hm, c1, c2, c3, c4, c5, c6, c7, atI, ixN, mkF0, mkF1, fin0, fin1, st0, st1, bnd, Sr.ret, opt, mN, mNB, mB, der, m1, m2, m2b, m2r, mT, asB, mChain, mAnd, mOr, mNot, mAndV, mOrV, mNotV, mIf, mNil, mCons, mTup, mLst, mIsN, mNotN, Sr.isNon, mCal, mCal1, mIsi, mFldB, gFld, mC0, mC1, ap0, ap1, chkO, chkL, putL, mMk, apM, skp, sq, sDrop, sRet, sRetO, sIf, sSet, sSetO, sAsg, sPar, gN, gsN, gsC, gT, gA, sApp, sPutI, sNever, mItems, dItems, mRng, mRng2, gRng, gRng2, sFor, turn, gI, gI0, gLt, gLe, gGt, gGe, gAdd, gAddI, gAddS, gAddT, gAddL, Sr.gSub, gMul, gMulI, gDiv, gMod, gPow, gNeg, gEq, gNe, dEq, eqS, gLen, gInt1, gMax2, gMin2, gAbs, gIx, gLtT, dInts, putD, gIsi, dKind, tInt, tOnly, List.map_cons, List.map_nil, List.length_cons, List.length_nil, List.cons_append, List.nil_append, List.getElem?_cons_zero, List.getElem?_cons_succ, List.set_cons_zero, List.set_cons_succ, List.replicate, Option.some_or, Option.none_or, Option.map_some, Option.map_none, Option.bind_some, Option.bind_none]
theorem s_cell (ns : List Int) (k : Int) (hk : 0 ≤ k) : ∃ c, f__law_cell_at .non [.scr ns, .int k] = .ok (.int c) .non := by
  by_cases h : k < ns.length
  · have hi : k.toNat < ns.length := by omega
    refine ⟨ns[k.toNat], ?_⟩
    simp [f__law_cell_at, b__law_cell_at, h, hk, hi, atI, ixN, mkF0, mkF1, fin0, fin1, st0, st1, bnd, Sr.ret, opt, mN, mNB, mB, der, m1, m2, m2b, m2r, mT, asB, mChain, mAnd, mOr, mNot, mAndV, mOrV, mNotV, mIf, mNil, mCons, mTup, mLst, mIsN, mNotN, Sr.isNon, mCal, mCal1, mIsi, mFldB, gFld, mC0, mC1, ap0, ap1, chkO, chkL, putL, mMk, apM, skp, sq, sDrop, sRet, sRetO, sIf, sSet, sSetO, sAsg, sPar, gN, gsN, gsC, gT, gA, sApp, sPutI, sNever, mItems, dItems, mRng, mRng2, gRng, gRng2, sFor, turn, gI, gI0, gLt, gLe, gGt, gGe, gAdd, gAddI, gAddS, gAddT, gAddL, Sr.gSub, gMul, gMulI, gDiv, gMod, gPow, gNeg, gEq, gNe, dEq, eqS, gLen, gInt1, gMax2, gMin2, gAbs, gIx, gLtT, dInts, putD, gIsi, dKind, tInt, tOnly, List.map_cons, List.map_nil, List.length_cons, List.length_nil, List.cons_append, List.nil_append, List.getElem?_cons_zero, List.getElem?_cons_succ, List.set_cons_zero, List.set_cons_succ, List.replicate, Option.some_or, Option.none_or, Option.map_some, Option.map_none, Option.bind_some, Option.bind_none]
  · refine ⟨0, ?_⟩
    simp [f__law_cell_at, b__law_cell_at, h, mkF0, mkF1, fin0, fin1, st0, st1, bnd, Sr.ret, opt, mN, mNB, mB, der, m1, m2, m2b, m2r, mT, asB, mChain, mAnd, mOr, mNot, mAndV, mOrV, mNotV, mIf, mNil, mCons, mTup, mLst, mIsN, mNotN, Sr.isNon, mCal, mCal1, mIsi, mFldB, gFld, mC0, mC1, ap0, ap1, chkO, chkL, putL, mMk, apM, skp, sq, sDrop, sRet, sRetO, sIf, sSet, sSetO, sAsg, sPar, gN, gsN, gsC, gT, gA, sApp, sPutI, sNever, mItems, dItems, mRng, mRng2, gRng, gRng2, sFor, turn, gI, gI0, gLt, gLe, gGt, gGe, gAdd, gAddI, gAddS, gAddT, gAddL, Sr.gSub, gMul, gMulI, gDiv, gMod, gPow, gNeg, gEq, gNe, dEq, eqS, gLen, gInt1, gMax2, gMin2, gAbs, gIx, gLtT, dInts, putD, gIsi, dKind, tInt, tOnly, List.map_cons, List.map_nil, List.length_cons, List.length_nil, List.cons_append, List.nil_append, List.getElem?_cons_zero, List.getElem?_cons_succ, List.set_cons_zero, List.set_cons_succ, List.replicate, Option.some_or, Option.none_or, Option.map_some, Option.map_none, Option.bind_some, Option.bind_none]
theorem s_pick (o : D) (ds : List D) (hv : PenOk o) (h0 : 0 < ds.length) (h1 : ds.length < 100) : ∃ d o', f__law_pick o [.lst ds] = .ok d o' ∧ d ∈ ds ∧ PenOk o' := by
  obtain ⟨r, o1, e1, h2, h2', v1⟩ := s_draw o (ds.length : Int) hv (by omega) (by omega)
  have hi : r.toNat < ds.length := by omega
  refine ⟨ds[r.toNat], o1, ?_, List.getElem_mem hi, v1⟩
  simp [f__law_pick, b__law_pick, e1, atI, ixN, h2, h2', hi, mkF0, mkF1, fin0, fin1, st0, st1, bnd, Sr.ret, opt, mN, mNB, mB, der, m1, m2, m2b, m2r, mT, asB, mChain, mAnd, mOr, mNot, mAndV, mOrV, mNotV, mIf, mNil, mCons, mTup, mLst, mIsN, mNotN, Sr.isNon, mCal, mCal1, mIsi, mFldB, gFld, mC0, mC1, ap0, ap1, chkO, chkL, putL, mMk, apM, skp, sq, sDrop, sRet, sRetO, sIf, sSet, sSetO, sAsg, sPar, gN, gsN, gsC, gT, gA, sApp, sPutI, sNever, mItems, dItems, mRng, mRng2, gRng, gRng2, sFor, turn, gI, gI0, gLt, gLe, gGt, gGe, gAdd, gAddI, gAddS, gAddT, gAddL, Sr.gSub, gMul, gMulI, gDiv, gMod, gPow, gNeg, gEq, gNe, dEq, eqS, gLen, gInt1, gMax2, gMin2, gAbs, gIx, gLtT, dInts, putD, gIsi, dKind, tInt, tOnly, List.map_cons, List.map_nil, List.length_cons, List.length_nil, List.cons_append, List.nil_append, List.getElem?_cons_zero, List.getElem?_cons_succ, List.set_cons_zero, List.set_cons_succ, List.replicate, Option.some_or, Option.none_or, Option.map_some, Option.map_none, Option.bind_some, Option.bind_none]
abbrev lim (a b c d : Int) : D := .obj "Limits" [("most_passes", .int a), ("most_fails", .int b), ("most_checks", .int c), ("least_stay", .int d)]
theorem s_init (a b c d : Int) (h1 : 0 ≤ a ∧ a ≤ 5) (h2 : 0 ≤ b ∧ b ≤ 5) (h3 : 1 ≤ c ∧ c ≤ 5) (h4 : 1 ≤ d ∧ d ≤ 4) : f_LimitsU_initU (.obj "Limits" []) [.int a, .int b, .int c, .int d] = .ok .non (lim a b c d) := by
  have n1 : ¬ (("most_passes" : Str) = "most_fails") := by decide
  have n2 : ¬ (("most_passes" : Str) = "most_checks") := by decide
  have n3 : ¬ (("most_fails" : Str) = "most_checks") := by decide
  have n4 : ¬ (("most_passes" : Str) = "least_stay") := by decide
  have n5 : ¬ (("most_fails" : Str) = "least_stay") := by decide
  have n6 : ¬ (("most_checks" : Str) = "least_stay") := by decide
  simp [f_LimitsU_initU, b_LimitsU_initU, l_LimitsU_initU_1, s_between h1.1 h1.2, s_between h2.1 h2.2, s_between h3.1 h3.2, s_between h4.1 h4.2, forL, lp, n1, n2, n3, n4, n5, n6, sizeLine, mkF0, mkF1, fin0, fin1, st0, st1, bnd, Sr.ret, opt, mN, mNB, mB, der, m1, m2, m2b, m2r, mT, asB, mChain, mAnd, mOr, mNot, mAndV, mOrV, mNotV, mIf, mNil, mCons, mTup, mLst, mIsN, mNotN, Sr.isNon, mCal, mCal1, mIsi, mFldB, gFld, mC0, mC1, ap0, ap1, chkO, chkL, putL, mMk, apM, skp, sq, sDrop, sRet, sRetO, sIf, sSet, sSetO, sAsg, sPar, gN, gsN, gsC, gT, gA, sApp, sPutI, sNever, mItems, dItems, mRng, mRng2, gRng, gRng2, sFor, turn, gI, gI0, gLt, gLe, gGt, gGe, gAdd, gAddI, gAddS, gAddT, gAddL, Sr.gSub, gMul, gMulI, gDiv, gMod, gPow, gNeg, gEq, gNe, dEq, eqS, gLen, gInt1, gMax2, gMin2, gAbs, gIx, gLtT, dInts, putD, gIsi, dKind, tInt, tOnly, List.map_cons, List.map_nil, List.length_cons, List.length_nil, List.cons_append, List.nil_append, List.getElem?_cons_zero, List.getElem?_cons_succ, List.set_cons_zero, List.set_cons_succ, List.replicate, Option.some_or, Option.none_or, Option.map_some, Option.map_none, Option.bind_some, Option.bind_none]
theorem s_limits (a b c d : Int) (h1 : 0 ≤ a ∧ a ≤ 5) (h2 : 0 ≤ b ∧ b ≤ 5) (h3 : 1 ≤ c ∧ c ≤ 5) (h4 : 1 ≤ d ∧ d ≤ 4) : f__law_limits .non [.tup [.int a, .int b, .int c, .int d]] = .ok (lim a b c d) .non := by
  simp [f__law_limits, b__law_limits, s_init a b c d h1 h2 h3 h4, atI, ixN, mkF0, mkF1, fin0, fin1, st0, st1, bnd, Sr.ret, opt, mN, mNB, mB, der, m1, m2, m2b, m2r, mT, asB, mChain, mAnd, mOr, mNot, mAndV, mOrV, mNotV, mIf, mNil, mCons, mTup, mLst, mIsN, mNotN, Sr.isNon, mCal, mCal1, mIsi, mFldB, gFld, mC0, mC1, ap0, ap1, chkO, chkL, putL, mMk, apM, skp, sq, sDrop, sRet, sRetO, sIf, sSet, sSetO, sAsg, sPar, gN, gsN, gsC, gT, gA, sApp, sPutI, sNever, mItems, dItems, mRng, mRng2, gRng, gRng2, sFor, turn, gI, gI0, gLt, gLe, gGt, gGe, gAdd, gAddI, gAddS, gAddT, gAddL, Sr.gSub, gMul, gMulI, gDiv, gMod, gPow, gNeg, gEq, gNe, dEq, eqS, gLen, gInt1, gMax2, gMin2, gAbs, gIx, gLtT, dInts, putD, gIsi, dKind, tInt, tOnly, List.map_cons, List.map_nil, List.length_cons, List.length_nil, List.cons_append, List.nil_append, List.getElem?_cons_zero, List.getElem?_cons_succ, List.set_cons_zero, List.set_cons_succ, List.replicate, Option.some_or, Option.none_or, Option.map_some, Option.map_none, Option.bind_some, Option.bind_none]
theorem rngI (W : Int) (h0 : 0 ≤ W) (h1 : W < 1000000) : gRng [.int W] = some ((irng 0 W).map D.int) := by
  have hok : okR W = true := by unfold okR; simp; omega
  simp only [gRng, hok, if_true]; rw [rngL_eq]
theorem fld_rule (t : Tb.Tab) : gFld "Rule" "table" (ruleO t) = some (encT t) := by simp [gFld, ruleO, List.lookup]
theorem forL_stop {A : Type} {w : D → M Unit} {b : M Fl} (enc : A → D) (P : A → Bool) (r : D) (env : Sl → En) : ∀ (xs : List A), (∀ x ∈ xs, ∀ j, turn w b (enc x) (env j) = .ok (if P x then .nx else .rt r) (env (.val (enc x)))) → ∀ j, ∃ j', forL w b (xs.map enc) (env j) = .ok (if xs.all P then .nx else .rt r) (env j')
  | [], _, j => ⟨j, by simp [forL, skp, Sr.ret]⟩
  | x :: xs, h, j => by
    have hx := h x (by simp) j
    rw [List.map_cons, List.all_cons]
    cases hp : P x with
    | true =>
      rw [hp] at hx
      obtain ⟨j', e⟩ := forL_stop enc P r env xs (fun y hy => h y (by simp [hy])) (.val (enc x))
      exact ⟨j', by rw [forL_cons_nx hx]; simpa using e⟩
    | false =>
      rw [hp] at hx
      exact ⟨_, by rw [forL_cons_rt hx]; rfl⟩
theorem S_len (l : List Nat) : (S l).length = l.length := by unfold S Str.length; simp
theorem S_app (a b : List Nat) : S a ++ S b = S (a ++ b) := by
  show (⟨a.toArray ++ b.toArray⟩ : Str) = _
  unfold S; simp
theorem chk_S (w : List Bool) : chk w = S (w.map fun b => if b then 43 else 45) := rfl
theorem sts_S (w : List Bool) : sts w = S (w.map fun b => if b then 85 else 68) := rfl
theorem sz {n : Nat} (h : n ≤ 100000) : n ≤ sizeLine := by
  have e : sizeLine = 16777216 := by decide
  omega
theorem len_S (l : List Nat) (h : l.length ≤ 100000) : gLen (.str (S l)) = some (.int (l.length : Nat)) := by
  simp only [gLen]
  rw [if_pos (by rw [S_len]; exact sz h), S_len]
theorem add_S (a b : List Nat) (h : a.length + b.length ≤ 100000) : gAdd (.str (S a)) (.str (S b)) = some (.str (S (a ++ b))) := by
  have hz : a.length + b.length ≤ 16777216 := by omega
  simp [gAdd, gAddI, gI0, gAddS, S_len, S_app, sizeLine, hz]
theorem cut_S (l : List Nat) (i j : Nat) (hi : i ≤ l.length) (hij : i ≤ j) (hl : l.length ≤ 100000) : gSl (.str (S l)) (some (i : Int)) (some (j : Int)) = some (.str (S ((l.drop i).take (j - i)))) := by
  simp only [gSl]
  rw [if_pos (by rw [S_len]; exact sz hl)]
  congr 2
  unfold cutS
  rw [S_len]
  have e1 : HT.sIx l.length 0 (some (i : Int)) = i := by
    simp only [HT.sIx]
    split <;> omega
  have e2 : HT.sIx l.length l.length (some (j : Int)) = min j l.length := by
    simp only [HT.sIx]
    split <;> omega
  rw [e1, e2]
  unfold S
  congr 2
  by_cases c : j ≤ l.length
  · rw [Nat.min_eq_left c]
  · rw [Nat.min_eq_right (by omega)]
    rw [List.take_of_length_le (by rw [List.length_drop]; exact Nat.le_refl _), List.take_of_length_le (by rw [List.length_drop]; omega)]
theorem ix_S (l : List Nat) (i : Nat) (h : i < l.length) (hl : l.length ≤ 100000) : gIx (.str (S l)) (.int (i : Nat)) = some (.str (S [l[i]])) := by
  simp only [gIx]
  rw [if_pos (by rw [S_len]; exact sz hl)]
  have e : (S l).cps.toList = l := rfl
  rw [e, atI_nat h]
  rfl
theorem cnt_S (l : List Nat) (c : Nat) : gCount (S l) [.str (S [c])] = some (.int ((l.countP (· == c) : Nat) : Int)) := by
  have h : gCount (S l) [.str (S [c])] = some (.int (Txt.count (S l) (S [c]))) := rfl
  have e : Txt.count (S l) (S [c]) = PyProof.Rows.cnt c l := PyProof.Rows.count_cnt (S l) c
  rw [h, e]
  congr 2
  clear h e
  induction l with
  | nil => rfl
  | cons b l ih =>
    rw [PyProof.Rows.cnt_cons, ih, List.countP_cons]
    by_cases c1 : b = c
    · subst c1; simp; omega
    · simp [c1]
def cds (s c : List Bool) : List Nat := List.zipWith fcd s c
theorem s_flag (s c : Bool) : f__law_flag .non [.str (sts [s]), .str (chk [c])] = .ok (.str (S [fcd s c])) .non := by cases s <;> cases c <;> kernel_rfl
theorem cds_p (s c : List Bool) : (cds s c).map (· == 112) = Hi.fpL s c := by
  unfold cds Hi.fpL
  rw [List.map_zipWith]
  congr 1
  funext s c
  cases s <;> cases c <;> rfl
theorem cds_f (s c : List Bool) : (cds s c).map (· == 102) = Hi.ffL s c := by
  unfold cds Hi.ffL
  rw [List.map_zipWith]
  congr 1
  funext s c
  cases s <;> cases c <;> rfl
theorem cnt_map (l : List Nat) (c : Nat) : l.countP (· == c) = (l.map (· == c)).countP id := by
  rw [List.countP_map]; rfl
def nums (a b n k : Int) : D := .tup [.int a, .int b, .int n, .int k]
theorem v_let (N Z : D) (z : Str) (a b x y : Int) (g0 : gIx N (.int 0) = some (.int a)) (g1 : gIx N (.int 1) = some (.int b)) (c1 : gCount z [.str "p"] = some (.int x)) (c2 : gCount z [.str "f"] = some (.int y)) : f__law_let .non [N, .str z] = .ok (.bl (decide (x ≤ a) && decide (y ≤ b))) .non := by
  have h1 : gLe (.int x) (.int a) = some (.bl (decide (x ≤ a))) := rfl
  have h2 : gLe (.int y) (.int b) = some (.bl (decide (y ≤ b))) := rfl
  generalize decide (x ≤ a) = p at *
  generalize decide (y ≤ b) = q at *
  cases p <;> simp [f__law_let, b__law_let, mMt, asS, g0, g1, c1, c2, h1, h2, mkF0, mkF1, fin0, fin1, st0, st1, bnd, Sr.ret, opt, mN, mNB, mB, der, m1, m2, m2b, m2r, mT, asB, mChain, mAnd, mOr, mNot, mAndV, mOrV, mNotV, mIf, mNil, mCons, mTup, mLst, mIsN, mNotN, Sr.isNon, mCal, mCal1, mIsi, mFldB, gFld, mC0, mC1, ap0, ap1, chkO, chkL, putL, mMk, apM, skp, sq, sDrop, sRet, sRetO, sIf, sSet, sSetO, sAsg, sPar, gN, gsN, gsC, gT, gA, sApp, sPutI, sNever, mItems, dItems, mRng, mRng2, gRng, gRng2, sFor, turn, gI, gI0, gLt, gGt, gGe, gAdd, gAddI, gAddS, gAddT, gAddL, Sr.gSub, gMul, gMulI, gDiv, gMod, gPow, gNeg, gEq, gNe, dEq, eqS, gLen, gInt1, gMax2, gMin2, gAbs, gLtT, dInts, putD, gIsi, dKind, tInt, tOnly, List.map_cons, List.map_nil, List.length_cons, List.length_nil, List.cons_append, List.nil_append, List.getElem?_cons_zero, List.getElem?_cons_succ, List.set_cons_zero, List.set_cons_succ, List.replicate, Option.some_or, Option.none_or, Option.map_some, Option.map_none, Option.bind_some, Option.bind_none]
theorem s_let (a b n k : Nat) (l : List Nat) : f__law_let .non [nums a b n k, .str (S l)] = .ok (.bl (Hi.letB a b (l.map (· == 112)) (l.map (· == 102)))) .non := by
  have c1 := cnt_S l 112
  have c2 := cnt_S l 102
  have e1 : S [112] = ("p" : Str) := by decide
  have e2 : S [102] = ("f" : Str) := by decide
  rw [e1] at c1
  rw [e2] at c2
  rw [v_let _ .non _ (a : Nat) (b : Nat) _ _ rfl rfl c1 c2]
  unfold Hi.letB
  rw [← cnt_map, ← cnt_map]
  congr 3
  · rw [decide_eq_decide]; omega
  · rw [decide_eq_decide]; omega
theorem t_al1 (N : D) (i : Int) (zs zc zf z1 z2 z3 z4 : Str) (a5 j4 : Sl) (g1 : gIx (.str zs) (.int i) = some (.str z1)) (g2 : gIx (.str zc) (.int i) = some (.str z2)) (h : f__law_flag .non [.str z1, .str z2] = .ok (.str z3) .non) (ha : gAdd (.str zf) (.str z3) = some (.str z4)) :
    turn (gN 4) l__law_allowed_1 (.int i) [.val N, .val (.str zs), .val (.str zc), .val (.str zf), j4, a5] = .ok .nx [.val N, .val (.str zs), .val (.str zc), .val (.str z4), .val (.int i), a5] := by
  simp [l__law_allowed_1, g1, g2, h, ha, mkF0, mkF1, fin0, fin1, st0, st1, bnd, Sr.ret, opt, mN, mNB, mB, der, m1, m2, m2b, m2r, mT, asB, mChain, mAnd, mOr, mNot, mAndV, mOrV, mNotV, mIf, mNil, mCons, mTup, mLst, mIsN, mNotN, Sr.isNon, mCal, mCal1, mIsi, mFldB, gFld, mC0, mC1, ap0, ap1, chkO, chkL, putL, mMk, apM, skp, sq, sDrop, sRet, sRetO, sIf, sSet, sSetO, sAsg, sPar, gN, gsN, gsC, gT, gA, sApp, sPutI, sNever, mItems, dItems, mRng, mRng2, gRng, gRng2, sFor, turn, gI, gI0, gLt, gLe, gGt, gGe, gAddI, gAddS, gAddT, gAddL, Sr.gSub, gMul, gMulI, gDiv, gMod, gPow, gNeg, gEq, gNe, dEq, eqS, gLen, gInt1, gMax2, gMin2, gAbs, gLtT, dInts, putD, gIsi, dKind, tInt, tOnly, List.map_cons, List.map_nil, List.length_cons, List.length_nil, List.cons_append, List.nil_append, List.getElem?_cons_zero, List.getElem?_cons_succ, List.set_cons_zero, List.set_cons_succ, List.replicate, Option.some_or, Option.none_or, Option.map_some, Option.map_none, Option.bind_some, Option.bind_none]
theorem f_al1 (N : D) (s c : List Bool) (hl : s.length = c.length) (hc : c.length ≤ 1000) (a5 : Sl) : ∀ (m i : Nat) (j4 : Sl), i + m = c.length → ∃ k4, forL (gN 4) l__law_allowed_1 ((List.range' i m).map fun (a : Nat) => .int ((a : Nat) : Int)) [.val N, .val (.str (sts s)), .val (.str (chk c)), .val (.str (S ((cds s c).take i))), j4, a5] = .ok .nx [.val N, .val (.str (sts s)), .val (.str (chk c)), .val (.str (S ((cds s c).take (i + m)))), k4, a5]
  | 0, i, j4, h => ⟨j4, by simp [forL, skp, Sr.ret]⟩
  | m + 1, i, j4, h => by
    have hi : i < c.length := by omega
    have lc : (cds s c).length = c.length := by unfold cds; rw [List.length_zipWith, hl]; omega
    have g1 := ix_S (s.map fun b => if b then 85 else 68) i (by simp; omega) (by simp; omega)
    have g2 := ix_S (c.map fun b => if b then 43 else 45) i (by simp; omega) (by simp; omega)
    rw [← sts_S] at g1
    rw [← chk_S] at g2
    have e1 : S [(s.map fun b => if b then 85 else 68)[i]'(by simp; omega)] = sts [s[i]'(by omega)] := by rw [List.getElem_map]; rfl
    have e2 : S [(c.map fun b => if b then 43 else 45)[i]'(by simp; omega)] = chk [c[i]] := by rw [List.getElem_map]; rfl
    rw [e1] at g1
    rw [e2] at g2
    have ha := add_S ((cds s c).take i) [fcd (s[i]'(by omega)) c[i]] (by rw [List.length_take]; simp; omega)
    have et : (cds s c).take i ++ [fcd (s[i]'(by omega)) c[i]] = (cds s c).take (i + 1) := by
      rw [List.take_succ_eq_append_getElem (by omega)]
      congr 2
      unfold cds
      rw [List.getElem_zipWith]
    rw [et] at ha
    have ht := t_al1 N (i : Nat) _ _ _ _ _ _ _ a5 j4 g1 g2 (s_flag _ _) ha
    obtain ⟨k4, e⟩ := f_al1 N s c hl hc a5 m (i + 1) (.val (.int ((i : Nat) : Int))) (by omega)
    refine ⟨k4, ?_⟩
    rw [List.range'_succ, List.map_cons, forL_cons_nx ht, e]
    rw [show i + 1 + m = i + (m + 1) by omega]
theorem t_al2 (N n : D) (i m : Int) (a1 a2 a5 j4 : Sl) (zf z : Str) (P : Bool) (g : gIx N (.int 2) = some (.int m)) (hs : gSl (.str zf) (some i) (some (i + m)) = some (.str z)) (h : f__law_let .non [N, .str z] = .ok (.bl P) .non) :
    turn (gN 4) l__law_allowed_2 (.int i) [.val N, a1, a2, .val (.str zf), j4, a5] = .ok (if P then .nx else .rt (.bl false)) [.val N, a1, a2, .val (.str zf), .val (.int i), a5] := by
  have ha : gAdd (.int i) (.int m) = some (.int (i + m)) := rfl
  cases P <;> simp [l__law_allowed_2, mSl, mPart, asI, g, ha, hs, h, mkF0, mkF1, fin0, fin1, st0, st1, bnd, Sr.ret, opt, mN, mNB, mB, der, m1, m2, m2b, m2r, mT, asB, mChain, mAnd, mOr, mNot, mAndV, mOrV, mNotV, mIf, mNil, mCons, mTup, mLst, mIsN, mNotN, Sr.isNon, mCal, mCal1, mIsi, mFldB, gFld, mC0, mC1, ap0, ap1, chkO, chkL, putL, mMk, apM, skp, sq, sDrop, sRet, sRetO, sIf, sSet, sSetO, sAsg, sPar, gN, gsN, gsC, gT, gA, sApp, sPutI, sNever, mItems, dItems, mRng, mRng2, gRng, gRng2, sFor, turn, gI, gI0, gLt, gLe, gGt, gGe, gAddI, gAddS, gAddT, gAddL, Sr.gSub, gMul, gMulI, gDiv, gMod, gPow, gNeg, gEq, gNe, dEq, eqS, gLen, gInt1, gMax2, gMin2, gAbs, gLtT, dInts, putD, gIsi, dKind, tInt, tOnly, List.map_cons, List.map_nil, List.length_cons, List.length_nil, List.cons_append, List.nil_append, List.getElem?_cons_zero, List.getElem?_cons_succ, List.set_cons_zero, List.set_cons_succ, List.replicate, Option.some_or, Option.none_or, Option.map_some, Option.map_none, Option.bind_some, Option.bind_none]
theorem f_al2 (a b n k : Nat) (s c : List Bool) (hl : s.length = c.length) (hc : c.length ≤ 1000) (a1 a2 a5 j4 : Sl) : ∃ k4, forL (gN 4) l__law_allowed_2 ((List.range c.length).map fun (a : Nat) => .int ((a : Nat) : Int)) [.val (nums a b n k), a1, a2, .val (.str (S (cds s c))), j4, a5] = .ok (if Hi.okW a b n s c then .nx else .rt (.bl false)) [.val (nums a b n k), a1, a2, .val (.str (S (cds s c))), k4, a5] := by
  have lc : (cds s c).length = c.length := by unfold cds; rw [List.length_zipWith, hl]; omega
  refine forL_stop (fun (a : Nat) => D.int ((a : Nat) : Int)) (fun i => Hi.letB a b (Hi.wnd (Hi.fpL s c) i n) (Hi.wnd (Hi.ffL s c) i n)) (.bl false) (fun j => [.val (nums a b n k), a1, a2, .val (.str (S (cds s c))), j, a5]) (List.range c.length) (fun i hi j => ?_) j4
  rw [List.mem_range] at hi
  have hs := cut_S (cds s c) i (i + n) (by omega) (by omega) (by omega)
  rw [Int.natCast_add, Nat.add_sub_cancel_left] at hs
  have hlt := s_let a b n k (((cds s c).drop i).take n)
  have e1 : (((cds s c).drop i).take n).map (· == 112) = Hi.wnd (Hi.fpL s c) i n := by
    rw [List.map_take, List.map_drop, cds_p]; rfl
  have e2 : (((cds s c).drop i).take n).map (· == 102) = Hi.wnd (Hi.ffL s c) i n := by
    rw [List.map_take, List.map_drop, cds_f]; rfl
  rw [e1, e2] at hlt
  exact t_al2 _ .non (i : Nat) (n : Nat) a1 a2 a5 j _ _ _ rfl hs hlt
theorem mLc_of {m : M (List D)} {w : D → M Unit} {t : M Bool} {el : M D} {vs : List Nat} {e e1 e2 : En} {ds ys : List D} (hm : m e = .ok ds e1) (h : lcL w t el vs ds [] (wipE vs e1) = .ok ys e2) : mLc vs m w t el e = .ok (.lst ys) (rst vs e1 e2) := by
  unfold mLc
  rw [bnd_ok hm]
  simp only [h]
theorem lcL_filter {B : Type} {w : D → M Unit} {t : M Bool} {el : M D} {vs : List Nat} (g h : B → D) (P : B → Bool) (E : En) : ∀ (xs : List B) (acc : List D), acc.length + xs.length ≤ 16777216 →
    (∀ x ∈ xs, ∃ e1 e2, w (g x) E = .ok () e1 ∧ t e1 = .ok (P x) e2 ∧ (P x = false → wipE vs e2 = E) ∧ (P x = true → ∃ e3, el e2 = .ok (h x) e3 ∧ wipE vs e3 = E)) → lcL w t el vs (xs.map g) acc E = .ok (acc ++ (xs.filter P).map h) E
  | [], acc, _, _ => by simp [lcL, Sr.ret]
  | x :: xs, acc, hl, hs => by
    obtain ⟨e1, e2, h1, h2, h3, h4⟩ := hs x (by simp)
    rw [List.length_cons] at hl
    rw [List.map_cons, lcL, bnd_ok h1, bnd_ok h2, List.filter_cons]
    cases hP : P x with
    | false =>
      rw [if_neg (by simp), if_neg (by simp)]
      show lcL w t el vs (List.map g xs) acc (wipE vs e2) = _
      rw [h3 hP]
      exact lcL_filter g h P E xs acc (by omega) fun y hy => hs y (by simp [hy])
    | true =>
      obtain ⟨e3, h5, h6⟩ := h4 hP
      have hz : acc.length < sizeLine := by
        have e : sizeLine = 16777216 := by decide
        omega
      rw [if_pos rfl, if_pos rfl, bnd_ok h5, if_pos hz]
      show lcL w t el vs (List.map g xs) (acc ++ [h x]) (wipE vs e3) = _
      rw [h6, lcL_filter g h P E xs (acc ++ [h x]) (by simp; omega) fun y hy => hs y (by simp [hy])]
      simp
theorem rng_nats (m : Nat) (hm : m ≤ 100000) : gRng [.int ((m : Nat) : Int)] = some ((List.range m).map fun (a : Nat) => .int ((a : Nat) : Int)) := by
  rw [rngI _ (by omega) (by omega)]
  unfold irng
  rw [List.map_map]
  have e : ((m : Int) - 0).toNat = m := by omega
  rw [e]
  congr 1
  refine List.map_congr_left fun i _ => ?_
  simp only [Function.comp, Int.zero_add]
theorem rng1I (W : Int) (h0 : 0 ≤ W) (h1 : W < 1000000) : gRng2 [.int 1, .int W] = some ((irng 1 W).map D.int) := by
  have e1 : okR 1 = true := by decide
  have e2 : okR W = true := by unfold okR; simp; omega
  simp only [gRng2, e1, e2, Bool.and_self, if_true]; rw [rngL_eq]
theorem rng1_nats (m : Nat) (hm : m ≤ 100000) : gRng2 [.int 1, .int ((m : Nat) : Int)] = some ((List.range' 1 (m - 1)).map fun (a : Nat) => .int ((a : Nat) : Int)) := by
  rw [rng1I _ (by omega) (by omega)]
  unfold irng
  have e : ((m : Int) - 1).toNat = m - 1 := by omega
  rw [e, List.range'_eq_map_range, List.map_map, List.map_map]
  congr 1
theorem ne_sts1 (x y : Bool) : gNe (.str (sts [x])) (.str (sts [y])) = some (.bl (x != y)) := by cases x <;> cases y <;> kernel_rfl
theorem ix_sts1 (s : List Bool) (i : Nat) (h : i < s.length) (hl : s.length ≤ 1000) : gIx (.str (sts s)) (.int (i : Nat)) = some (.str (sts [s.getD i false])) := by
  have g1 := ix_S (s.map fun b => if b then 85 else 68) i (by simp; omega) (by simp; omega)
  rw [← sts_S] at g1
  rw [g1, List.getElem_map, List.getD_eq_getElem?_getD, List.getElem?_eq_getElem h]
  rfl
theorem t_st (Z : D) (i j : Int) (z1 z2 : Str) (b : Bool) (a0 a2 a3 a5 : Sl) (hj : gSub (.int i) (.int 1) = some (.int j)) (g1 : gIx Z (.int i) = some (.str z1)) (g2 : gIx Z (.int j) = some (.str z2)) (h : gNe (.str z1) (.str z2) = some (.bl b)) : t__law_allowed_1 [a0, .val Z, a2, a3, .val (.int i), a5] = .ok b [a0, .val Z, a2, a3, .val (.int i), a5] := by
  simp [t__law_allowed_1, hj, g1, g2, h, mkF0, mkF1, fin0, fin1, st0, st1, bnd, Sr.ret, opt, mN, mNB, mB, der, m1, m2, m2b, m2r, mT, asB, mChain, mAnd, mOr, mNot, mAndV, mOrV, mNotV, mIf, mNil, mCons, mTup, mLst, mIsN, mNotN, Sr.isNon, mCal, mCal1, mIsi, mFldB, gFld, mC0, mC1, ap0, ap1, chkO, chkL, putL, mMk, apM, skp, sq, sDrop, sRet, sRetO, sIf, sSet, sSetO, sAsg, sPar, gN, gsN, gsC, gT, gA, sApp, sPutI, sNever, mItems, dItems, mRng, mRng2, gRng, gRng2, sFor, turn, gI, gI0, gLt, gLe, gGt, gGe, gAdd, gAddI, gAddS, gAddT, gAddL, gMul, gMulI, gDiv, gMod, gPow, gNeg, gEq, dEq, eqS, gLen, gInt1, gMax2, gMin2, gAbs, gLtT, dInts, putD, gIsi, dKind, tInt, tOnly, List.map_cons, List.map_nil, List.length_cons, List.length_nil, List.cons_append, List.nil_append, List.getElem?_cons_zero, List.getElem?_cons_succ, List.set_cons_zero, List.set_cons_succ, List.replicate, Option.some_or, Option.none_or, Option.map_some, Option.map_none, Option.bind_some, Option.bind_none]
theorem m_rng1 (N Z : D) (w : Int) (r : List D) (a2 a3 j4 : Sl) (hg : gLen Z = some (.int w)) (hr : gRng2 [.int 1, .int w] = some r) : mRng2 (mCons (ret (.int 1)) (mCons (m1 gLen (mN 1)) mNil)) [.val N, .val Z, a2, a3, j4, .no] = .ok r [.val N, .val Z, a2, a3, j4, .no] := by
  simp [mRng2, mCons, mNil, m1, mN, bnd, opt, Sr.ret, hg, hr]
theorem r_rst (N Z : D) (a2 a3 j4 a5 : Sl) : ∃ k4, rst [4] [.val N, .val Z, a2, a3, j4, a5] [.val N, .val Z, a2, a3, .no, a5] = [.val N, .val Z, a2, a3, k4, a5] := ⟨_, rfl⟩
theorem s_starts (N : D) (s : List Bool) (hs : s.length ≤ 1000) (a2 a3 j4 : Sl) : ∃ k4, mLc [4] (mRng2 (mCons (ret (.int 1)) (mCons (m1 gLen (mN 1)) mNil))) (gN 4) t__law_allowed_1 e__law_allowed_1 [.val N, .val (.str (sts s)), a2, a3, j4, .no] = .ok (.lst (nats (Hi.starts s))) [.val N, .val (.str (sts s)), a2, a3, k4, .no] := by
  have hg : gLen (.str (sts s)) = some (.int (s.length : Nat)) := by
    have := len_S (s.map fun b => if b then 85 else 68) (by rw [List.length_map]; omega)
    rw [← sts_S, List.length_map] at this
    exact this
  have hr := rng1_nats s.length (by omega)
  have hm := m_rng1 N (.str (sts s)) _ _ a2 a3 j4 hg hr
  have hf := lcL_filter (w := gN 4) (t := t__law_allowed_1) (el := e__law_allowed_1) (vs := [4]) (fun (a : Nat) => D.int ((a : Nat) : Int)) (fun (a : Nat) => D.int ((a : Nat) : Int)) (fun i => s.getD i false != s.getD (i - 1) false) [.val N, .val (.str (sts s)), a2, a3, .no, .no] (List.range' 1 (s.length - 1)) [] (by rw [List.length_range']; simp; omega) (fun i hi => by
    rw [List.mem_range'_1] at hi
    have g1 := ix_sts1 s i (by omega) hs
    have g2 := ix_sts1 s (i - 1) (by omega) hs
    have hj : gSub (.int ((i : Nat) : Int)) (.int 1) = some (.int ((i - 1 : Nat) : Int)) := by
      have : ((i - 1 : Nat) : Int) = (i : Int) - 1 := by omega
      rw [this]; rfl
    exact ⟨_, _, rfl, t_st _ (i : Nat) ((i - 1 : Nat) : Int) _ _ _ _ _ _ _ hj g1 g2 (ne_sts1 _ _), fun _ => rfl, fun _ => ⟨_, rfl, rfl⟩⟩)
  rw [List.nil_append] at hf
  obtain ⟨k4, hk⟩ := r_rst N (.str (sts s)) a2 a3 j4 .no
  refine ⟨k4, ?_⟩
  rw [mLc_of (vs := [4]) hm hf, hk]
  rfl
theorem ix_nats (l : List Nat) (i : Nat) (h : i < l.length) : gIx (.lst (nats l)) (.int (i : Nat)) = some (.int ((l.getD i 0 : Nat) : Int)) := by
  simp only [gIx]
  rw [Sr.atI_nat (by unfold nats; rw [List.length_map]; exact h)]
  unfold nats
  rw [List.getElem_map, List.getD_eq_getElem?_getD, List.getElem?_eq_getElem h]
  rfl
theorem t_al3 (N L : D) (i j x y k : Int) (P : Bool) (a1 a2 a3 j4 : Sl) (hj : gSub (.int i) (.int 1) = some (.int j)) (g1 : gIx L (.int i) = some (.int x)) (g2 : gIx L (.int j) = some (.int y)) (g3 : gIx N (.int 3) = some (.int k)) (hP : P = !decide (x - y < k)) :
    turn (gN 4) l__law_allowed_3 (.int i) [.val N, a1, a2, a3, j4, .val L] = .ok (if P then .nx else .rt (.bl false)) [.val N, a1, a2, a3, .val (.int i), .val L] := by
  have hs : gSub (.int x) (.int y) = some (.int (x - y)) := rfl
  have hl : gLt (.int (x - y)) (.int k) = some (.bl (decide (x - y < k))) := rfl
  subst hP
  generalize decide (x - y < k) = q at *
  cases q <;> simp [l__law_allowed_3, hj, g1, g2, g3, hs, hl, mkF0, mkF1, fin0, fin1, st0, st1, bnd, Sr.ret, opt, mN, mNB, mB, der, m1, m2, m2b, m2r, mT, asB, mChain, mAnd, mOr, mNot, mAndV, mOrV, mNotV, mIf, mNil, mCons, mTup, mLst, mIsN, mNotN, Sr.isNon, mCal, mCal1, mIsi, mFldB, gFld, mC0, mC1, ap0, ap1, chkO, chkL, putL, mMk, apM, skp, sq, sDrop, sRet, sRetO, sIf, sSet, sSetO, sAsg, sPar, gN, gsN, gsC, gT, gA, sApp, sPutI, sNever, mItems, dItems, mRng, mRng2, gRng, gRng2, sFor, turn, gI, gI0, gLe, gGt, gGe, gAdd, gAddI, gAddS, gAddT, gAddL, gMul, gMulI, gDiv, gMod, gPow, gNeg, gEq, gNe, dEq, eqS, gLen, gInt1, gMax2, gMin2, gAbs, gLtT, dInts, putD, gIsi, dKind, tInt, tOnly, List.map_cons, List.map_nil, List.length_cons, List.length_nil, List.cons_append, List.nil_append, List.getElem?_cons_zero, List.getElem?_cons_succ, List.set_cons_zero, List.set_cons_succ, List.replicate, Option.some_or, Option.none_or, Option.map_some, Option.map_none, Option.bind_some, Option.bind_none]
theorem f_al3 (a b n k : Nat) (s : List Bool) (hs : s.length ≤ 1000) (a1 a2 a3 j4 : Sl) : ∃ k4, forL (gN 4) l__law_allowed_3 ((List.range' 1 ((Hi.starts s).length - 1)).map fun (a : Nat) => .int ((a : Nat) : Int)) [.val (nums a b n k), a1, a2, a3, j4, .val (.lst (nats (Hi.starts s)))] = .ok (if Hi.okS k s then .nx else .rt (.bl false)) [.val (nums a b n k), a1, a2, a3, k4, .val (.lst (nats (Hi.starts s)))] := by
  refine forL_stop (fun (a : Nat) => D.int ((a : Nat) : Int)) (fun j => !decide ((((Hi.starts s).getD j 0 : Nat) : Int) - (((Hi.starts s).getD (j - 1) 0 : Nat) : Int) < (k : Int))) (.bl false) (fun j => [.val (nums a b n k), a1, a2, a3, j, .val (.lst (nats (Hi.starts s)))]) _ (fun i hi j => ?_) j4
  rw [List.mem_range'_1] at hi
  have hj : gSub (.int ((i : Nat) : Int)) (.int 1) = some (.int ((i - 1 : Nat) : Int)) := by
    have : ((i - 1 : Nat) : Int) = (i : Int) - 1 := by omega
    rw [this]; rfl
  exact t_al3 _ _ (i : Nat) ((i - 1 : Nat) : Int) _ _ (k : Nat) _ _ _ _ _ hj (ix_nats _ i (by omega)) (ix_nats _ (i - 1) (by omega)) rfl rfl
theorem b_al (N L Z C : D) (zf : Str) (n1 n2 n3 : Int) (r1 r2 r3 : List D) (W Q : Bool) (j4 k4 k5 k6 : Sl) (l1 : gLen C = some (.int n1)) (h1 : gRng [.int n1] = some r1) (l2 : gLen (.str zf) = some (.int n2)) (h2 : gRng [.int n2] = some r2) (l3 : gLen L = some (.int n3)) (h3 : gRng2 [.int 1, .int n3] = some r3)
    (X1 X2 X3 : List D → M Fl) (Y : M D) (e1 : forL (gN 4) l__law_allowed_1 = X1) (e2 : forL (gN 4) l__law_allowed_2 = X2) (e3 : forL (gN 4) l__law_allowed_3 = X3) (e4 : mLc [4] (mRng2 (mCons (ret (.int 1)) (mCons (m1 gLen (mN 1)) mNil))) (gN 4) t__law_allowed_1 e__law_allowed_1 = Y)
    (f1 : X1 r1 [.val N, .val Z, .val C, .val (.str ""), .no, .no] = .ok .nx [.val N, .val Z, .val C, .val (.str zf), j4, .no]) (f2 : X2 r2 [.val N, .val Z, .val C, .val (.str zf), j4, .no] = .ok (if W then .nx else .rt (.bl false)) [.val N, .val Z, .val C, .val (.str zf), k4, .no])
    (f4 : Y [.val N, .val Z, .val C, .val (.str zf), k4, .no] = .ok L [.val N, .val Z, .val C, .val (.str zf), k6, .no]) (f3 : X3 r3 [.val N, .val Z, .val C, .val (.str zf), k6, .val L] = .ok (if Q then .nx else .rt (.bl false)) [.val N, .val Z, .val C, .val (.str zf), k5, .val L]) : f__law_allowed .non [N, Z, C] = .ok (.bl (W && Q)) .non := by
  simp only [f__law_allowed, b__law_allowed, sFor, e1, e2, e3, e4]
  cases W with
  | false => simp at f2; simp [l1, h1, l2, h2, f1, f2, mkF0, mkF1, fin0, fin1, st0, st1, bnd, Sr.ret, opt, mN, mNB, mB, der, m1, m2, m2b, m2r, mT, asB, mChain, mAnd, mOr, mNot, mAndV, mOrV, mNotV, mIf, mNil, mCons, mTup, mLst, mIsN, mNotN, Sr.isNon, mCal, mCal1, mIsi, mFldB, gFld, mC0, mC1, ap0, ap1, chkO, chkL, putL, mMk, apM, skp, sq, sDrop, sRet, sRetO, sIf, sSet, sSetO, sAsg, sPar, gN, gsN, gsC, gT, gA, sApp, sPutI, sNever, mItems, dItems, mRng, mRng2, turn, gI, gI0, gLt, gLe, gGt, gGe, gAdd, gAddI, gAddS, gAddT, gAddL, Sr.gSub, gMul, gMulI, gDiv, gMod, gPow, gNeg, gEq, gNe, dEq, eqS, gInt1, gMax2, gMin2, gAbs, gIx, gLtT, dInts, putD, gIsi, dKind, tInt, tOnly, List.map_cons, List.map_nil, List.length_cons, List.length_nil, List.cons_append, List.nil_append, List.getElem?_cons_zero, List.getElem?_cons_succ, List.set_cons_zero, List.set_cons_succ, List.replicate, Option.some_or, Option.none_or, Option.map_some, Option.map_none, Option.bind_some, Option.bind_none]
  | true => cases Q <;> simp at f2 f3 <;> simp [l1, h1, l2, h2, l3, h3, f1, f2, f3, f4, mkF0, mkF1, fin0, fin1, st0, st1, bnd, Sr.ret, opt, mN, mNB, mB, der, m1, m2, m2b, m2r, mT, asB, mChain, mAnd, mOr, mNot, mAndV, mOrV, mNotV, mIf, mNil, mCons, mTup, mLst, mIsN, mNotN, Sr.isNon, mCal, mCal1, mIsi, mFldB, gFld, mC0, mC1, ap0, ap1, chkO, chkL, putL, mMk, apM, skp, sq, sDrop, sRet, sRetO, sIf, sSet, sSetO, sAsg, sPar, gN, gsN, gsC, gT, gA, sApp, sPutI, sNever, mItems, dItems, mRng, mRng2, turn, gI, gI0, gLt, gLe, gGt, gGe, gAdd, gAddI, gAddS, gAddT, gAddL, Sr.gSub, gMul, gMulI, gDiv, gMod, gPow, gNeg, gEq, gNe, dEq, eqS, gInt1, gMax2, gMin2, gAbs, gIx, gLtT, dInts, putD, gIsi, dKind, tInt, tOnly, List.map_cons, List.map_nil, List.length_cons, List.length_nil, List.cons_append, List.nil_append, List.getElem?_cons_zero, List.getElem?_cons_succ, List.set_cons_zero, List.set_cons_succ, List.replicate, Option.some_or, Option.none_or, Option.map_some, Option.map_none, Option.bind_some, Option.bind_none]
theorem s_allowed (a b n k : Nat) (s c : List Bool) (hl : s.length = c.length) (hc : c.length ≤ 1000) : f__law_allowed .non [nums a b n k, .str (sts s), .str (chk c)] = .ok (.bl (Hi.alw a b n k s c)) .non := by
  have lc : (cds s c).length = c.length := by unfold cds; rw [List.length_zipWith, hl]; omega
  obtain ⟨j4, f1⟩ := f_al1 (nums a b n k) s c hl hc .no c.length 0 .no (by omega)
  rw [Nat.zero_add, ← lc, List.take_length, List.take_zero, lc, ← List.range_eq_range'] at f1
  have e0 : S [] = ("" : Str) := by decide
  rw [e0] at f1
  obtain ⟨k4, f2⟩ := f_al2 a b n k s c hl hc (.val (.str (sts s))) (.val (.str (chk c))) .no j4
  obtain ⟨k6, f4⟩ := s_starts (nums a b n k) s (by omega) (.val (.str (chk c))) (.val (.str (S (cds s c)))) k4
  obtain ⟨k5, f3⟩ := f_al3 a b n k s (by omega) (.val (.str (sts s))) (.val (.str (chk c))) (.val (.str (S (cds s c)))) k6
  have l1 : gLen (.str (chk c)) = some (.int (c.length : Nat)) := by
    have := len_S (c.map fun b => if b then 43 else 45) (by simp; omega)
    rw [← chk_S] at this
    simpa using this
  have l2 := len_S (cds s c) (by omega)
  rw [lc] at l2
  have l3 : gLen (.lst (nats (Hi.starts s))) = some (.int ((Hi.starts s).length : Nat)) := by unfold nats; simp only [gLen, List.length_map]
  have ls : (Hi.starts s).length ≤ 1000 := by
    unfold Hi.starts
    refine Nat.le_trans (List.length_filter_le _ _) ?_
    rw [List.length_range']; omega
  exact b_al _ _ _ _ _ _ _ _ _ _ _ _ _ _ _ _ _ l1 (rng_nats _ (by omega)) l2 (rng_nats _ (by omega)) l3 (rng1_nats _ (by omega)) _ _ _ _ rfl rfl rfl rfl f1 f2 f4 f3
theorem fold_app (a : Array Nat) : ∀ (m : Nat) (acc : Array Nat), (List.replicate m a).foldl (· ++ ·) acc = acc ++ (List.replicate m a.toList).flatten.toArray
  | 0, acc => by simp
  | m + 1, acc => by
    rw [List.replicate_succ, List.replicate_succ, List.foldl_cons, fold_app a m (acc ++ a), List.flatten_cons]
    apply Array.toList_inj.1
    simp
theorem mul_St (l : List Nat) (m : Nat) : Txt.mul (S l) (m : Int) = S (List.replicate m l).flatten := by
  unfold Txt.mul
  by_cases h0 : (m : Int) < 1
  · rw [if_pos h0]
    have : m = 0 := by omega
    subst this
    rfl
  · rw [if_neg h0]
    by_cases h1 : ((m : Int) == 1 || (S l).length == 0) = true
    · rw [if_pos h1]
      rw [Bool.or_eq_true, beq_iff_eq, beq_iff_eq, S_len] at h1
      rcases h1 with h1 | h1
      · have : m = 1 := by omega
        subst this
        simp
      · have : l = [] := List.eq_nil_of_length_eq_zero h1
        subst this
        simp
    · rw [if_neg h1, Int.toNat_natCast, fold_app]
      unfold S
      congr 1
      simp
theorem mul_S (l : List Nat) (m : Nat) (h1 : m ≤ 1000) (h2 : l.length ≤ 100) : gMulA (.str (S l)) (.int (m : Int)) = some (.str (S (List.replicate m l).flatten)) := by
  have e : gMulS (.str (S l)) (.int (m : Int)) = some (.str (Txt.mul (S l) (m : Int))) := by
    simp only [gMulS]
    rw [if_pos ⟨by omega, by omega, by rw [S_len]; exact h2⟩]
  show (none : Option D).or ((gMulS (.str (S l)) (.int (m : Int))).or _) = _
  rw [e, mul_St]
  rfl
theorem add_s (u v : List Bool) (h : u.length + v.length ≤ 1000) : gAdd (.str (sts u)) (.str (sts v)) = some (.str (sts (u ++ v))) := by
  rw [sts_S, sts_S, sts_S, List.map_append]
  exact add_S _ _ (by simp; omega)
theorem len_c (u : List Bool) (h : u.length ≤ 1000) : gLen (.str (chk u)) = some (.int (u.length : Nat)) := by
  have := len_S (u.map fun b => if b then 43 else 45) (by rw [List.length_map]; omega)
  rw [List.length_map] at this
  exact this
theorem top_S (l : List Nat) (j : Nat) (hl : l.length ≤ 100000) : gSl (.str (S l)) none (some (j : Int)) = some (.str (S (l.take j))) := by
  have := cut_S l 0 j (Nat.zero_le _) (Nat.zero_le _) hl
  rw [List.drop_zero, Nat.sub_zero] at this
  rw [← this]
  simp only [gSl]
  rw [if_pos (by rw [S_len]; exact sz hl), if_pos (by rw [S_len]; exact sz hl)]
  rfl
theorem s_flagP (s c : Bool) : f_flag_of .non [.str (sts [s]), .str (chk [c])] = .ok (.str (S [fcd s c])) .non := by cases s <;> cases c <;> kernel_rfl
theorem s_letP (a b n k : Nat) (l : List Nat) : f_Limits_let .non [lim (a : Nat) (b : Nat) (n : Nat) (k : Nat), .str (S l)] = .ok (.bl (Hi.letB a b (l.map (· == 112)) (l.map (· == 102)))) .non := by
  have c1 := cnt_S l 112
  have c2 := cnt_S l 102
  have e1 : S [112] = ("p" : Str) := by decide
  have e2 : S [102] = ("f" : Str) := by decide
  rw [e1] at c1
  rw [e2] at c2
  have key : ∀ (a b n k x y : Int) (z : Str), gCount z [.str "p"] = some (.int x) → gCount z [.str "f"] = some (.int y) → f_Limits_let .non [lim a b n k, .str z] = .ok (.bl (decide (x ≤ a) && decide (y ≤ b))) .non := fun a b n k x y z c1 c2 => by
    have f1 : gFld "Limits" "most_passes" (lim a b n k) = some (.int a) := rfl
    have f2 : gFld "Limits" "most_fails" (lim a b n k) = some (.int b) := rfl
    have h1 : gLe (.int x) (.int a) = some (.bl (decide (x ≤ a))) := rfl
    have h2 : gLe (.int y) (.int b) = some (.bl (decide (y ≤ b))) := rfl
    generalize decide (x ≤ a) = p at *
    generalize decide (y ≤ b) = q at *
    cases p <;> simp [f_Limits_let, b_Limits_let, mMt, asS, f1, f2, c1, c2, h1, h2, mkF0, mkF1, fin0, fin1, st0, st1, bnd, Sr.ret, opt, mN, mNB, mB, der, m1, m2, m2b, m2r, mT, asB, mChain, mAnd, mOr, mNot, mAndV, mOrV, mNotV, mIf, mNil, mCons, mTup, mLst, mIsN, mNotN, Sr.isNon, mCal, mCal1, mIsi, mFldB, mC0, mC1, ap0, ap1, chkO, chkL, putL, mMk, apM, skp, sq, sDrop, sRet, sRetO, sIf, sSet, sSetO, sAsg, sPar, gN, gsN, gsC, gT, gA, sApp, sPutI, sNever, mItems, dItems, mRng, mRng2, gRng, gRng2, sFor, turn, gI, gI0, gLt, gGt, gGe, gAdd, gAddI, gAddS, gAddT, gAddL, Sr.gSub, gMul, gMulI, gDiv, gMod, gPow, gNeg, gEq, gNe, dEq, eqS, gLen, gInt1, gMax2, gMin2, gAbs, gIx, gLtT, dInts, putD, gIsi, dKind, tInt, tOnly, List.map_cons, List.map_nil, List.length_cons, List.length_nil, List.cons_append, List.nil_append, List.getElem?_cons_zero, List.getElem?_cons_succ, List.set_cons_zero, List.set_cons_succ, List.replicate, Option.some_or, Option.none_or, Option.map_some, Option.map_none, Option.bind_some, Option.bind_none]
  rw [key _ _ _ _ _ _ _ c1 c2]
  unfold Hi.letB
  rw [← cnt_map, ← cnt_map]
  congr 3
  · rw [decide_eq_decide]; omega
  · rw [decide_eq_decide]; omega
def enc (x : Hi.Sit) : Str := S ([48 + x.row / 10, 48 + x.row % 10, (if x.st then 85 else 68), 48 + x.age] ++ x.fl)
theorem two_int (r : Nat) (h : r < 100) : gIntS [.str (S [48 + r / 10, 48 + r % 10])] = some (.int (r : Nat)) := by
  have H : ∀ r : Fin 100, PySem.intText? (S [48 + r.val / 10, 48 + r.val % 10]) = some ((r.val : Nat) : Int) := by decide +kernel
  have := H ⟨r, h⟩
  simp only [gIntS]
  rw [if_pos (by rw [S_len]; simp), this]
  rfl
theorem one_int (r : Nat) (h : r < 10) : gIntS [.str (S [48 + r])] = some (.int (r : Nat)) := by
  have H : ∀ r : Fin 10, PySem.intText? (S [48 + r.val]) = some ((r.val : Nat) : Int) := by decide +kernel
  have := H ⟨r, h⟩
  simp only [gIntS]
  rw [if_pos (by rw [S_len]; simp), this]
  rfl
theorem two_fmt (r : Nat) (h : r < 100) : gFmt2 (.int (r : Nat)) = some (.str (S [48 + r / 10, 48 + r % 10])) := by
  have H : ∀ r : Fin 100, fm2 ((r.val : Nat) : Int) = S [48 + r.val / 10, 48 + r.val % 10] := by decide +kernel
  have := H ⟨r, h⟩
  simp only [gFmt2]
  rw [if_pos (by omega), this]
theorem one_fmt (r : Nat) (h : r < 10) : gFmt (.int (r : Nat)) = some (.str (S [48 + r])) := by
  have H : ∀ r : Fin 10, (((toString ((r.val : Nat) : Int) : String) : Str) = S [48 + r.val]) ∧ ((r.val : Nat) : Int).natAbs.log2 < 1920 := by decide +kernel
  have := H ⟨r, h⟩
  simp only [gFmt]
  rw [if_pos this.2, this.1]
theorem one_str (r : Nat) (h : r < 10) : gStr (.int (r : Nat)) = some (.str (S [48 + r])) := by
  have H : ∀ r : Fin 10, (((toString ((r.val : Nat) : Int) : String) : Str) = S [48 + r.val]) ∧ ((r.val : Nat) : Int).natAbs.log2 < 1920 := by decide +kernel
  have := H ⟨r, h⟩
  simp only [gStr]
  rw [if_pos this.2, this.1]
theorem two_str (r : Nat) (h : r < 100) (h10 : 10 ≤ r) : gStr (.int (r : Nat)) = some (.str (S [48 + r / 10, 48 + r % 10])) := by
  have H : ∀ r : Fin 100, 10 ≤ r.val → (((toString ((r.val : Nat) : Int) : String) : Str) = S [48 + r.val / 10, 48 + r.val % 10]) ∧ ((r.val : Nat) : Int).natAbs.log2 < 1920 := by decide +kernel
  have := H ⟨r, h⟩ h10
  simp only [gStr]
  rw [if_pos this.2, this.1]
theorem sts1_S (s : Bool) : sts [s] = S [if s then 85 else 68] := by cases s <;> rfl
theorem fmt_S (l : List Nat) (h : l.length ≤ 1000) : gFmt (.str (S l)) = some (.str (S l)) := by
  simp only [gFmt]
  rw [if_pos (by rw [S_len]; exact sz (by omega))]
section
variable (x : Hi.Sit) (hr : x.row < 100) (ha : x.age < 10) (hl : x.fl.length ≤ 100)
include hl
theorem enc_top : gSl (.str (enc x)) none (some 2) = some (.str (S [48 + x.row / 10, 48 + x.row % 10])) := by
  have := top_S ([48 + x.row / 10, 48 + x.row % 10, (if x.st then 85 else 68), 48 + x.age] ++ x.fl) 2 (by simp; omega)
  exact this
theorem enc_st : gIx (.str (enc x)) (.int 2) = some (.str (sts [x.st])) := by
  have := ix_S ([48 + x.row / 10, 48 + x.row % 10, (if x.st then 85 else 68), 48 + x.age] ++ x.fl) 2 (by simp) (by simp; omega)
  rw [sts1_S]
  exact this
theorem enc_age : gIx (.str (enc x)) (.int 3) = some (.str (S [48 + x.age])) := by
  have := ix_S ([48 + x.row / 10, 48 + x.row % 10, (if x.st then 85 else 68), 48 + x.age] ++ x.fl) 3 (by simp) (by simp; omega)
  exact this
theorem enc_fl : gSl (.str (enc x)) (some 4) none = some (.str (S x.fl)) := by
  simp only [gSl]
  rw [if_pos (by unfold enc; rw [S_len]; exact sz (by simp; omega))]
  congr 2
  unfold cutS enc
  rw [S_len]
  have h4 : ([48 + x.row / 10, 48 + x.row % 10, (if x.st then 85 else 68), 48 + x.age] ++ x.fl).length = 4 + x.fl.length := by simp; omega
  have e1 : HT.sIx (4 + x.fl.length) 0 (some (4 : Int)) = 4 := by
    simp only [HT.sIx]
    split <;> omega
  have e2 : HT.sIx (4 + x.fl.length) (4 + x.fl.length) none = 4 + x.fl.length := rfl
  rw [h4, e1, e2]
  unfold S
  congr 1
  show (List.take (4 + x.fl.length - 4) x.fl).toArray = _
  rw [List.take_of_length_le (by omega)]
end
theorem enc_inj {x y : Hi.Sit} (hx : x.row < 100) (hy : y.row < 100) (h : enc x = enc y) : x = y := by
  unfold enc S at h
  have h := congrArg (fun z : Str => z.cps.toList) h
  simp only [List.cons_append, List.nil_append, List.cons.injEq] at h
  obtain ⟨h1, h2, h3, h4, h5⟩ := h
  obtain ⟨r, s, a, f⟩ := x
  obtain ⟨r', s', a', f'⟩ := y
  dsimp only at *
  have e1 : r = r' := by omega
  have e2 : a = a' := by omega
  have e3 : s = s' := by cases s <;> cases s' <;> simp at h3 <;> rfl
  subst e1 e2 e3 h5
  rfl
theorem b_spell (r g : Int) (la lb ls lz : List Nat) (q1 : gFmt2 (.int r) = some (.str (S la))) (q2 : gFmt (.str (S ls)) = some (.str (S ls))) (q3 : gFmt (.int g) = some (.str (S lb))) (q4 : gFmt (.str (S lz)) = some (.str (S lz))) (h : la.length + ls.length + lb.length + lz.length ≤ 1000) : f_spelled .non [.int r, .str (S ls), .int g, .str (S lz)] = .ok (.str (S (la ++ ls ++ lb ++ lz))) .non := by
  have e0 : Str.empty ++ S la = S la := by
    have : Str.empty = S [] := by decide
    rw [this, S_app]; rfl
  have z1 : la.length ≤ 16777216 := by omega
  have z2 : la.length + ls.length ≤ 16777216 := by omega
  have z3 : la.length + ls.length + lb.length ≤ 16777216 := by omega
  have z4 : la.length + ls.length + lb.length + lz.length ≤ 16777216 := by omega
  have z2' : la.length + (ls.length) ≤ 16777216 := by omega
  have z3' : la.length + (ls.length + lb.length) ≤ 16777216 := by omega
  have z4' : la.length + (ls.length + (lb.length + lz.length)) ≤ 16777216 := by omega
  simp [f_spelled, b_spelled, mJs, asS, q1, q2, q3, q4, e0, S_app, S_len, sizeLine, z1, z2, z3, z4, z2', z3', z4', mkF0, mkF1, fin0, fin1, st0, st1, bnd, Sr.ret, opt, mN, mNB, mB, der, m1, m2, m2b, m2r, mT, asB, mChain, mAnd, mOr, mNot, mAndV, mOrV, mNotV, mIf, mNil, mCons, mTup, mLst, mIsN, mNotN, Sr.isNon, mCal, mCal1, mIsi, mFldB, gFld, mC0, mC1, ap0, ap1, chkO, chkL, putL, mMk, apM, skp, sq, sDrop, sRet, sRetO, sIf, sSet, sSetO, sAsg, sPar, gN, gsN, gsC, gT, gA, sApp, sPutI, sNever, mItems, dItems, mRng, mRng2, gRng, gRng2, sFor, turn, gI, gI0, gLt, gLe, gGt, gGe, gAdd, gAddI, gAddS, gAddT, gAddL, Sr.gSub, gMul, gMulI, gDiv, gMod, gPow, gNeg, gEq, gNe, dEq, eqS, gLen, gInt1, gMax2, gMin2, gAbs, gIx, gLtT, dInts, putD, gIsi, dKind, tInt, tOnly, List.map_cons, List.map_nil, List.length_cons, List.length_nil, List.cons_append, List.nil_append, List.getElem?_cons_zero, List.getElem?_cons_succ, List.set_cons_zero, List.set_cons_succ, List.replicate, Option.some_or, Option.none_or, Option.map_some, Option.map_none, Option.bind_some, Option.bind_none]
theorem s_spell (x : Hi.Sit) (hr : x.row < 100) (ha : x.age < 10) (hl : x.fl.length ≤ 100) : f_spelled .non [.int (x.row : Nat), .str (sts [x.st]), .int (x.age : Nat), .str (S x.fl)] = .ok (.str (enc x)) .non := by
  have := b_spell (x.row : Nat) (x.age : Nat) _ _ [if x.st then 85 else 68] x.fl (two_fmt x.row hr) (fmt_S _ (by simp)) (one_fmt x.age ha) (fmt_S _ (by omega)) (by simp; omega)
  rw [sts1_S, this]
  rfl
theorem b_lsp (r g : Int) (c : Bool) (s z y0 ya yb w1 w2 w3 w4 : Str) (q0 : gLt (.int r) (.int 10) = some (.bl c)) (q5 : gMulA (.str "0") (.int (if c then 1 else 0)) = some (.str y0)) (q1 : gStr (.int r) = some (.str ya)) (q3 : gStr (.int g) = some (.str yb)) (a1 : gAdd (.str y0) (.str ya) = some (.str w1)) (a2 : gAdd (.str w1) (.str s) = some (.str w2)) (a3 : gAdd (.str w2) (.str yb) = some (.str w3)) (a4 : gAdd (.str w3) (.str z) = some (.str w4)) : f__law_spelled .non [.int r, .str s, .int g, .str z] = .ok (.str w4) .non := by
  have i1 : gInt1 [.bl c] = some (.int (if c then 1 else 0)) := rfl
  simp [f__law_spelled, b__law_spelled, q0, q1, q3, i1, q5, a1, a2, a3, a4, mkF0, mkF1, fin0, fin1, st0, st1, bnd, Sr.ret, opt, mN, mNB, mB, der, m1, m2, m2b, m2r, mT, asB, mChain, mAnd, mOr, mNot, mAndV, mOrV, mNotV, mIf, mNil, mCons, mTup, mLst, mIsN, mNotN, Sr.isNon, mCal, mCal1, mIsi, mFldB, gFld, mC0, mC1, ap0, ap1, chkO, chkL, putL, mMk, apM, skp, sq, sDrop, sRet, sRetO, sIf, sSet, sSetO, sAsg, sPar, gN, gsN, gsC, gT, gA, sApp, sPutI, sNever, mItems, dItems, mRng, mRng2, gRng, gRng2, sFor, turn, gI, gI0, gLe, gGt, gGe, gAddI, gAddS, gAddT, gAddL, Sr.gSub, gMul, gMulI, gDiv, gMod, gPow, gNeg, gEq, gNe, dEq, eqS, gLen, gMax2, gMin2, gAbs, gIx, gLtT, dInts, putD, gIsi, dKind, tInt, tOnly, List.map_cons, List.map_nil, List.length_cons, List.length_nil, List.cons_append, List.nil_append, List.getElem?_cons_zero, List.getElem?_cons_succ, List.set_cons_zero, List.set_cons_succ, List.replicate, Option.some_or, Option.none_or, Option.map_some, Option.map_none, Option.bind_some, Option.bind_none]
theorem b_lspell (r g : Int) (c : Bool) (l0 la lb ls lz : List Nat) (q0 : gLt (.int r) (.int 10) = some (.bl c)) (q5 : gMulA (.str "0") (.int (if c then 1 else 0)) = some (.str (S l0))) (q1 : gStr (.int r) = some (.str (S la))) (q3 : gStr (.int g) = some (.str (S lb))) (h : l0.length + la.length + ls.length + lb.length + lz.length ≤ 1000) : f__law_spelled .non [.int r, .str (S ls), .int g, .str (S lz)] = .ok (.str (S (l0 ++ la ++ ls ++ lb ++ lz))) .non :=
  b_lsp r g c _ _ _ _ _ _ _ _ _ q0 q5 q1 q3 (add_S l0 la (by omega)) (add_S (l0 ++ la) ls (by simp; omega)) (add_S (l0 ++ la ++ ls) lb (by simp; omega)) (add_S (l0 ++ la ++ ls ++ lb) lz (by simp; omega))
theorem s_lspell (x : Hi.Sit) (hr : x.row < 100) (ha : x.age < 10) (hl : x.fl.length ≤ 100) : f__law_spelled .non [.int (x.row : Nat), .str (sts [x.st]), .int (x.age : Nat), .str (S x.fl)] = .ok (.str (enc x)) .non := by
  rw [sts1_S]
  by_cases h : x.row < 10
  · have q0 : gLt (.int ((x.row : Nat) : Int)) (.int 10) = some (.bl true) := by
      show some (D.bl (decide ((x.row : Int) < 10))) = _
      rw [decide_eq_true (by omega)]
    have q5 : gMulA (.str "0") (.int (if true then 1 else 0)) = some (.str (S [48])) := by kernel_rfl
    rw [b_lspell (x.row : Nat) (x.age : Nat) true [48] [48 + x.row] _ [if x.st then 85 else 68] x.fl q0 q5 (one_str x.row h) (one_str x.age ha) (by simp; omega)]
    have e1 : x.row / 10 = 0 := by omega
    have e2 : x.row % 10 = x.row := by omega
    unfold enc
    rw [e1, e2]
    rfl
  · have q0 : gLt (.int ((x.row : Nat) : Int)) (.int 10) = some (.bl false) := by
      show some (D.bl (decide ((x.row : Int) < 10))) = _
      rw [decide_eq_false (by omega)]
    have q5 : gMulA (.str "0") (.int (if false then 1 else 0)) = some (.str (S [])) := by kernel_rfl
    rw [b_lspell (x.row : Nat) (x.age : Nat) false [] _ _ [if x.st then 85 else 68] x.fl q0 q5 (two_str x.row hr (by omega)) (one_str x.age ha) (by simp; omega)]
    rfl
theorem s_rowof (x : Hi.Sit) (hr : x.row < 100) (hl : x.fl.length ≤ 100) : f_row_of .non [.str (enc x)] = .ok (.int (x.row : Nat)) .non := by
  have key : ∀ (r : Int) (z y : Str), gSl (.str z) none (some 2) = some (.str y) → gIntS [.str y] = some (.int r) → f_row_of .non [.str z] = .ok (.int r) .non := fun r z y h1 h2 => by
    simp [f_row_of, b_row_of, mSl, mPart, mNoP, asI, h1, h2, mkF0, mkF1, fin0, fin1, st0, st1, bnd, Sr.ret, opt, mN, mNB, mB, der, m1, m2, m2b, m2r, mT, asB, mChain, mAnd, mOr, mNot, mAndV, mOrV, mNotV, mIf, mNil, mCons, mTup, mLst, mIsN, mNotN, Sr.isNon, mCal, mCal1, mIsi, mFldB, gFld, mC0, mC1, ap0, ap1, chkO, chkL, putL, mMk, apM, skp, sq, sDrop, sRet, sRetO, sIf, sSet, sSetO, sAsg, sPar, gN, gsN, gsC, gT, gA, sApp, sPutI, sNever, mItems, dItems, mRng, mRng2, gRng, gRng2, sFor, turn, gI, gI0, gLt, gLe, gGt, gGe, gAdd, gAddI, gAddS, gAddT, gAddL, Sr.gSub, gMul, gMulI, gDiv, gMod, gPow, gNeg, gEq, gNe, dEq, eqS, gLen, gInt1, gMax2, gMin2, gAbs, gIx, gLtT, dInts, putD, gIsi, dKind, tInt, tOnly, List.map_cons, List.map_nil, List.length_cons, List.length_nil, List.cons_append, List.nil_append, List.getElem?_cons_zero, List.getElem?_cons_succ, List.set_cons_zero, List.set_cons_succ, List.replicate, Option.some_or, Option.none_or, Option.map_some, Option.map_none, Option.bind_some, Option.bind_none]
  exact key _ _ _ (enc_top x hl) (two_int x.row hr)
def stD (q : Bool × Bool × Hi.Sit) : D := .tup [.str (sts [q.1]), .str (chk [q.2.1]), .str (enc q.2.2)]
section
variable (L R : D) (z zf zs zc zq zz zt zy : Str) (g k r m sd g' : Int) (P B1 B2 : Bool) (F : List D) (a3 a6 j9 j10 j11 j12 : Sl)
theorem b_sf (hF : F.length ≤ 100) (Q : D) (h1 : gSl (.str z) (some 4) none = some (.str zf)) (h2 : f_flag_of .non [.str zs, .str zc] = .ok (.str zq) .non) (h3 : gAdd (.str zf) (.str zq) = some (.str zz)) (h4 : isO "Limits" "let" L = some ()) (h5 : f_Limits_let .non [L, .str zz] = .ok (.bl P) .non)
    (h6 : gFld "Limits" "least_stay" L = some (.int k)) (h7 : gEq (.int g) (.int k) = some (.bl B2)) (h8 : gIx Q (.int sd) = some (.int m)) (h9 : gSl (.str zz) (some 1) none = some (.str zt)) (h10 : f_spelled .non [.int m, .str zs, .int g', .str zt] = .ok (.str zy) .non) (h11 : g' = if B1 then g + (if g < k then 1 else 0) else 1) :
    turn (gT 2 (gsC (gN 9) (gsC (gN 10) gsN))) l_steps_from_1 (.ct [.int sd, .str zc]) [.val R, .val L, .val (.str z), a3, .val (.int g), .own (.lst F), .val Q, .val (.str zs), .val (.bl B1), j9, j10, j11, j12] = .ok .nx [.val R, .val L, .val (.str z), a3, .val (.int g), .own (.lst (F ++ if P && (B1 || B2) then [.tup [.str zs, .str zc, .str zy]] else [])), .val Q, .val (.str zs), .val (.bl B1), .val (.int sd), .val (.str zc), .val (.str zz), if P && (B1 || B2) then .val (.int g') else j12] := by
  have hz : F.length < sizeLine := by
    have e : sizeLine = 16777216 := by decide
    omega
  have hz3 : (3 : Nat) ≤ sizeLine := by decide
  have lt : gLt (.int g) (.int k) = some (.bl (decide (g < k))) := rfl
  have i1 : gInt1 [.bl (decide (g < k))] = some (.int (if g < k then 1 else 0)) := by
    by_cases h : g < k <;> simp [gInt1, h]
  have ad : gAdd (.int g) (.int (if g < k then 1 else 0)) = some (.int (g + (if g < k then 1 else 0))) := rfl
  cases P
  · simp [l_steps_from_1, mSl, mPart, mNoP, asI, mMe, h1, h2, h3, h4, h5, mkF0, mkF1, fin0, fin1, st0, st1, bnd, Sr.ret, opt, mN, mNB, mB, der, m1, m2, m2b, m2r, mT, asB, mChain, mAnd, mOr, mNot, mAndV, mOrV, mNotV, mIf, mNil, mCons, mTup, mLst, mIsN, mNotN, Sr.isNon, mCal, mCal1, mIsi, mFldB, mC0, mC1, ap0, ap1, chkO, chkL, putL, mMk, apM, skp, sq, sDrop, sRet, sRetO, sIf, sSet, sSetO, sAsg, sPar, gN, gsN, gsC, gT, gA, sApp, sPutI, sNever, mItems, dItems, mRng, mRng2, gRng, gRng2, sFor, turn, gI, gI0, gLe, gGt, gGe, gAddI, gAddS, gAddT, gAddL, Sr.gSub, gMul, gMulI, gDiv, gMod, gPow, gNeg, gNe, dEq, eqS, gLen, gMax2, gMin2, gAbs, gLtT, dInts, putD, gIsi, dKind, tInt, tOnly, List.map_cons, List.map_nil, List.length_cons, List.length_nil, List.cons_append, List.nil_append, List.getElem?_cons_zero, List.getElem?_cons_succ, List.set_cons_zero, List.set_cons_succ, List.replicate, Option.some_or, Option.none_or, Option.map_some, Option.map_none, Option.bind_some, Option.bind_none]
  · cases B1
    · cases B2
      · simp [l_steps_from_1, mSl, mPart, mNoP, asI, mMe, h1, h2, h3, h4, h5, h6, h7, mkF0, mkF1, fin0, fin1, st0, st1, bnd, Sr.ret, opt, mN, mNB, mB, der, m1, m2, m2b, m2r, mT, asB, mChain, mAnd, mOr, mNot, mAndV, mOrV, mNotV, mIf, mNil, mCons, mTup, mLst, mIsN, mNotN, Sr.isNon, mCal, mCal1, mIsi, mFldB, mC0, mC1, ap0, ap1, chkO, chkL, putL, mMk, apM, skp, sq, sDrop, sRet, sRetO, sIf, sSet, sSetO, sAsg, sPar, gN, gsN, gsC, gT, gA, sApp, sPutI, sNever, mItems, dItems, mRng, mRng2, gRng, gRng2, sFor, turn, gI, gI0, gLe, gGt, gGe, gAddI, gAddS, gAddT, gAddL, Sr.gSub, gMul, gMulI, gDiv, gMod, gPow, gNeg, gNe, dEq, eqS, gLen, gMax2, gMin2, gAbs, gLtT, dInts, putD, gIsi, dKind, tInt, tOnly, List.map_cons, List.map_nil, List.length_cons, List.length_nil, List.cons_append, List.nil_append, List.getElem?_cons_zero, List.getElem?_cons_succ, List.set_cons_zero, List.set_cons_succ, List.replicate, Option.some_or, Option.none_or, Option.map_some, Option.map_none, Option.bind_some, Option.bind_none]
      · simp at h11
        subst h11
        simp [l_steps_from_1, mSl, mPart, mNoP, asI, mMe, h1, h2, h3, h4, h5, h6, h7, h8, h9, h10, hz, hz3, mkF0, mkF1, fin0, fin1, st0, st1, bnd, Sr.ret, opt, mN, mNB, mB, der, m1, m2, m2b, m2r, mT, asB, mChain, mAnd, mOr, mNot, mAndV, mOrV, mNotV, mIf, mNil, mCons, mTup, mLst, mIsN, mNotN, Sr.isNon, mCal, mCal1, mIsi, mFldB, mC0, mC1, ap0, ap1, chkO, chkL, putL, mMk, apM, skp, sq, sDrop, sRet, sRetO, sIf, sSet, sSetO, sAsg, sPar, gN, gsN, gsC, gT, gA, sApp, sPutI, sNever, mItems, dItems, mRng, mRng2, gRng, gRng2, sFor, turn, gI, gI0, gLe, gGt, gGe, gAddI, gAddS, gAddT, gAddL, Sr.gSub, gMul, gMulI, gDiv, gMod, gPow, gNeg, gNe, dEq, eqS, gLen, gMax2, gMin2, gAbs, gLtT, dInts, putD, gIsi, dKind, tInt, tOnly, List.map_cons, List.map_nil, List.length_cons, List.length_nil, List.cons_append, List.nil_append, List.getElem?_cons_zero, List.getElem?_cons_succ, List.set_cons_zero, List.set_cons_succ, List.replicate, Option.some_or, Option.none_or, Option.map_some, Option.map_none, Option.bind_some, Option.bind_none]
    · simp only [if_true] at h11
      subst h11
      simp [l_steps_from_1, mSl, mPart, mNoP, asI, mMe, h1, h2, h3, h4, h5, h6, h8, h9, h10, lt, i1, ad, hz, hz3, mkF0, mkF1, fin0, fin1, st0, st1, bnd, Sr.ret, opt, mN, mNB, mB, der, m1, m2, m2b, m2r, mT, asB, mChain, mAnd, mOr, mNot, mAndV, mOrV, mNotV, mIf, mNil, mCons, mTup, mLst, mIsN, mNotN, Sr.isNon, mCal, mCal1, mIsi, mFldB, mC0, mC1, ap0, ap1, chkO, chkL, putL, mMk, apM, skp, sq, sDrop, sRet, sRetO, sIf, sSet, sSetO, sAsg, sPar, gN, gsN, gsC, gT, gA, sApp, sPutI, sNever, mItems, dItems, mRng, mRng2, gRng, gRng2, sFor, turn, gI, gI0, gLe, gGt, gGe, gAddI, gAddS, gAddT, gAddL, Sr.gSub, gMul, gMulI, gDiv, gMod, gPow, gNeg, gNe, dEq, eqS, gLen, gMax2, gMin2, gAbs, gLtT, dInts, putD, gIsi, dKind, tInt, tOnly, List.map_cons, List.map_nil, List.length_cons, List.length_nil, List.cons_append, List.nil_append, List.getElem?_cons_zero, List.getElem?_cons_succ, List.set_cons_zero, List.set_cons_succ, List.replicate, Option.some_or, Option.none_or, Option.map_some, Option.map_none, Option.bind_some, Option.bind_none]
end
theorem fcd_eq (s c : Bool) : fcd s c = Hi.fcd s c := rfl
def add1 (a b k : Nat) (x : Hi.Sit) (m : Nat) (s c : Bool) : List D := ((Hi.step1 a b k x m s c).map fun y => stD (s, c, y)).toList
theorem t_sf (R : D) (a b n k : Nat) (x : Hi.Sit) (hl : x.fl.length ≤ 20) (ha : x.age < 10) (hk : x.age ≤ k) (hk2 : k < 10) (Q : D) (m : Nat) (hm : m < 100) (s c : Bool) (sd : Int) (hQ : gIx Q (.int sd) = some (.int (m : Nat))) (F : List D) (hF : F.length ≤ 100) (a3 j9 j10 j11 j12 : Sl) :
    ∃ k11 k12, turn (gT 2 (gsC (gN 9) (gsC (gN 10) gsN))) l_steps_from_1 (.ct [.int sd, .str (chk [c])]) [.val R, .val (lim (a : Nat) (b : Nat) (n : Nat) (k : Nat)), .val (.str (enc x)), a3, .val (.int (x.age : Nat)), .own (.lst F), .val Q, .val (.str (sts [s])), .val (.bl (s == x.st)), j9, j10, j11, j12] = .ok .nx [.val R, .val (lim (a : Nat) (b : Nat) (n : Nat) (k : Nat)), .val (.str (enc x)), a3, .val (.int (x.age : Nat)), .own (.lst (F ++ add1 a b k x m s c)), .val Q, .val (.str (sts [s])), .val (.bl (s == x.st)), .val (.int sd), .val (.str (chk [c])), k11, k12] := by
  have h3 := add_S x.fl [fcd s c] (by simp; omega)
  have h5 := s_letP a b n k (x.fl ++ [fcd s c])
  have h7 : gEq (.int ((x.age : Nat) : Int)) (.int ((k : Nat) : Int)) = some (.bl (x.age == k)) := by
    have : decide (((x.age : Nat) : Int) = ((k : Nat) : Int)) = (x.age == k) := by
      rw [Bool.eq_iff_iff]; simp; omega
    simp only [gEq, dEq, eqS]
    rw [this]; rfl
  have h9 : gSl (.str (S (x.fl ++ [fcd s c]))) (some 1) none = some (.str (S (x.fl ++ [fcd s c]).tail)) := by
    simp only [gSl]
    rw [if_pos (by rw [S_len]; exact sz (by simp; omega))]
    congr 2
    unfold cutS
    rw [S_len]
    have e1 : HT.sIx (x.fl ++ [fcd s c]).length 0 (some (1 : Int)) = 1 := by
      simp only [HT.sIx, List.length_append, List.length_singleton]
      split <;> omega
    have e2 : HT.sIx (x.fl ++ [fcd s c]).length (x.fl ++ [fcd s c]).length none = (x.fl ++ [fcd s c]).length := rfl
    rw [e1, e2]
    unfold S
    congr 1
    show (List.take ((x.fl ++ [fcd s c]).length - 1) (List.drop 1 (x.fl ++ [fcd s c]))).toArray = _
    rw [List.take_of_length_le (by rw [List.length_drop]; omega), List.drop_one]
  have h11 : (((if s == x.st then x.age + (if x.age < k then 1 else 0) else 1 : Nat) : Nat) : Int) = if (s == x.st) = true then ((x.age : Nat) : Int) + (if ((x.age : Nat) : Int) < ((k : Nat) : Int) then 1 else 0) else 1 := by
    by_cases q : (s == x.st) = true
    · rw [if_pos q, if_pos q]
      by_cases q2 : x.age < k
      · rw [if_pos q2, if_pos (by omega)]; rfl
      · rw [if_neg q2, if_neg (by omega)]; rfl
    · rw [if_neg q, if_neg q]; rfl
  have h10 := s_spell ⟨m, s, if s == x.st then x.age + (if x.age < k then 1 else 0) else 1, (x.fl ++ [fcd s c]).tail⟩ hm (by dsimp only; split <;> (try split) <;> omega) (by rw [List.length_tail]; simp; omega)
  have hb := b_sf (lim (a : Nat) (b : Nat) (n : Nat) (k : Nat)) R (enc x) (S x.fl) (sts [s]) (chk [c]) (S [fcd s c]) _ _ _ (x.age : Nat) (k : Nat) (m : Nat) sd _ _ (s == x.st) (x.age == k) F a3 j9 j10 j11 j12 hF Q (enc_fl x (by omega)) (s_flagP s c) h3 rfl h5 rfl h7 hQ h9 h10 h11
  have e : (if (Hi.letB a b ((x.fl ++ [fcd s c]).map (· == 112)) ((x.fl ++ [fcd s c]).map (· == 102)) && ((s == x.st) || (x.age == k))) = true then [D.tup [.str (sts [s]), .str (chk [c]), .str (enc ⟨m, s, if s == x.st then x.age + (if x.age < k then 1 else 0) else 1, (x.fl ++ [fcd s c]).tail⟩)]] else []) = add1 a b k x m s c := by
    unfold add1 Hi.step1 Hi.lets
    rw [← fcd_eq]
    split <;> rfl
  rw [e] at hb
  exact ⟨_, _, hb⟩
theorem len_add1 (a b k : Nat) (x : Hi.Sit) (m : Nat) (s c : Bool) : (add1 a b k x m s c).length ≤ 1 := by
  unfold add1
  cases Hi.step1 a b k x m s c <;> simp
theorem t_sf2 (R : D) (a b n k : Nat) (x : Hi.Sit) (hl : x.fl.length ≤ 20) (ha : x.age < 10) (hk : x.age ≤ k) (hk2 : k < 10) (Q : D) (p f : Nat) (hp : p < 100) (hf : f < 100) (s : Bool) (h1 : gIx Q (.int 1) = some (.int (p : Nat))) (h2 : gIx Q (.int 2) = some (.int (f : Nat))) (F : List D) (hF : F.length ≤ 90) (j7 j8 j9 j10 j11 j12 : Sl) :
    ∃ k8 k9 k10 k11 k12, turn (gN 7) l_steps_from_2 (.str (sts [s])) [.val R, .val (lim (a : Nat) (b : Nat) (n : Nat) (k : Nat)), .val (.str (enc x)), .val (.str (sts [x.st])), .val (.int (x.age : Nat)), .own (.lst F), .val Q, j7, j8, j9, j10, j11, j12] = .ok .nx [.val R, .val (lim (a : Nat) (b : Nat) (n : Nat) (k : Nat)), .val (.str (enc x)), .val (.str (sts [x.st])), .val (.int (x.age : Nat)), .own (.lst (F ++ add1 a b k x p s true ++ add1 a b k x f s false)), .val Q, .val (.str (sts [s])), k8, k9, k10, k11, k12] := by
  obtain ⟨u1, u2, e1⟩ := t_sf R a b n k x hl ha hk hk2 Q p hp s true 1 h1 F (by omega) (.val (.str (sts [x.st]))) j9 j10 j11 j12
  have l1 := len_add1 a b k x p s true
  obtain ⟨v1, v2, e2⟩ := t_sf R a b n k x hl ha hk hk2 Q f hf s false 2 h2 (F ++ add1 a b k x p s true) (by simp; omega) (.val (.str (sts [x.st]))) (.val (.int 1)) (.val (.str (chk [true]))) u1 u2
  have q : gEq (.str (sts [s])) (.str (sts [x.st])) = some (.bl (s == x.st)) := by cases s <;> cases x.st <;> kernel_rfl
  have c1 : chk [true] = ("+" : Str) := by decide
  have c2 : chk [false] = ("-" : Str) := by decide
  refine ⟨.val (.bl (s == x.st)), .val (.int 2), .val (.str (chk [false])), v1, v2, ?_⟩
  have ht : turn (gN 7) l_steps_from_2 (.str (sts [s])) [.val R, .val (lim (a : Nat) (b : Nat) (n : Nat) (k : Nat)), .val (.str (enc x)), .val (.str (sts [x.st])), .val (.int (x.age : Nat)), .own (.lst F), .val Q, j7, j8, j9, j10, j11, j12] = forL (gT 2 (gsC (gN 9) (gsC (gN 10) gsN))) l_steps_from_1 [.ct [.int 1, .str (chk [true])], .ct [.int 2, .str (chk [false])]] [.val R, .val (lim (a : Nat) (b : Nat) (n : Nat) (k : Nat)), .val (.str (enc x)), .val (.str (sts [x.st])), .val (.int (x.age : Nat)), .own (.lst F), .val Q, .val (.str (sts [s])), .val (.bl (s == x.st)), j9, j10, j11, j12] := by
    rw [c1, c2]
    generalize hX : forL (gT 2 (gsC (gN 9) (gsC (gN 10) gsN))) l_steps_from_1 = X
    generalize sts [s] = zs at *
    generalize sts [x.st] = zx at *
    generalize lim (a : Nat) (b : Nat) (n : Nat) (k : Nat) = LL at *
    generalize D.int ((x.age : Nat) : Int) = AA at *
    simp [l_steps_from_2, sFor, hX, q, mkF0, mkF1, fin0, fin1, st0, st1, bnd, Sr.ret, opt, mN, mNB, mB, der, m1, m2, m2b, m2r, mT, asB, mChain, mAnd, mOr, mNot, mAndV, mOrV, mNotV, mIf, mNil, mCons, mTup, mLst, mIsN, mNotN, Sr.isNon, mCal, mCal1, mIsi, mFldB, gFld, mC0, mC1, ap0, ap1, chkO, chkL, putL, mMk, apM, skp, sq, sDrop, sRet, sRetO, sIf, sSet, sSetO, sAsg, sPar, gN, gsN, gsC, gT, gA, sApp, sPutI, sNever, mItems, dItems, mRng, mRng2, gRng, gRng2, turn, gI, gI0, gLt, gLe, gGt, gGe, gAdd, gAddI, gAddS, gAddT, gAddL, Sr.gSub, gMul, gMulI, gDiv, gMod, gPow, gNeg, gNe, dEq, eqS, gLen, gInt1, gMax2, gMin2, gAbs, gIx, gLtT, dInts, putD, gIsi, dKind, tInt, tOnly, List.map_cons, List.map_nil, List.length_cons, List.length_nil, List.cons_append, List.nil_append, List.getElem?_cons_zero, List.getElem?_cons_succ, List.set_cons_zero, List.set_cons_succ, List.replicate, Option.some_or, Option.none_or, Option.map_some, Option.map_none, Option.bind_some, Option.bind_none]
  rw [ht, forL_cons_nx e1, forL_cons_nx e2]
  simp only [forL, skp, Sr.ret]
theorem b_sfr (R Lm Q : D) (z zx za : Str) (g r : Int) (F : List D) (k7 k8 k9 k10 k11 k12 : Sl) (h1 : gIx (.str z) (.int 2) = some (.str zx)) (h2 : gIx (.str z) (.int 3) = some (.str za)) (h3 : gIntS [.str za] = some (.int g)) (T : D) (h4 : gFld "Rule" "table" R = some T) (h5 : f_row_of .non [.str z] = .ok (.int r) .non) (h6 : gIx T (.int r) = some Q) (X : List D → M Fl) (hX : forL (gN 7) l_steps_from_2 = X)
    (h : X [.str "D", .str "U"] [.val R, .val Lm, .val (.str z), .val (.str zx), .val (.int g), .own (.lst []), .val Q, .no, .no, .no, .no, .no, .no] = .ok .nx [.val R, .val Lm, .val (.str z), .val (.str zx), .val (.int g), .own (.lst F), .val Q, k7, k8, k9, k10, k11, k12]) : f_steps_from .non [R, Lm, .str z] = .ok (.lst F) .non := by
  simp only [f_steps_from, b_steps_from, sFor, hX]
  simp [sParM, xCons, xConsO, xNil, putM, h1, h2, h3, h4, h5, h6, h, sizeLine, mkF0, mkF1, fin0, fin1, st0, st1, bnd, Sr.ret, opt, mN, mNB, mB, der, m1, m2, m2b, m2r, mT, asB, mChain, mAnd, mOr, mNot, mAndV, mOrV, mNotV, mIf, mNil, mCons, mTup, mLst, mIsN, mNotN, Sr.isNon, mCal, mCal1, mIsi, mFldB, mC0, mC1, ap0, ap1, chkO, chkL, putL, mMk, apM, skp, sq, sDrop, sRet, sRetO, sIf, sSet, sSetO, sAsg, sPar, gN, gsN, gsC, gT, gA, sApp, sPutI, sNever, mItems, dItems, mRng, mRng2, gRng, gRng2, turn, gI, gI0, gLt, gLe, gGt, gGe, gAdd, gAddI, gAddS, gAddT, gAddL, Sr.gSub, gMul, gMulI, gDiv, gMod, gPow, gNeg, gEq, gNe, dEq, eqS, gLen, gInt1, gMax2, gMin2, gAbs, gLtT, dInts, putD, gIsi, dKind, tInt, tOnly, List.map_cons, List.map_nil, List.length_cons, List.length_nil, List.cons_append, List.nil_append, List.getElem?_cons_zero, List.getElem?_cons_succ, List.set_cons_zero, List.set_cons_succ, List.replicate, Option.some_or, Option.none_or, Option.map_some, Option.map_none, Option.bind_some, Option.bind_none]
theorem s_sf (t : Tb.Tab) (ok : Tb.Ok t) (h100 : t.length ≤ 100) (a b n k : Nat) (x : Hi.Sit) (hx : Hi.SitOk a b n k t.length x) (hn : n ≤ 20) (hk2 : k < 10) : f_steps_from .non [ruleO t, lim (a : Nat) (b : Nat) (n : Nat) (k : Nat), .str (enc x)] = .ok (.lst ((Hi.steps a b k x (Tb.row t x.row).2.1 (Tb.row t x.row).2.2).map stD)) .non := by
  have hlen := hx.len
  have hage := hx.age
  have hrow := hx.row
  have hok := ok (Tb.row t x.row) (by rw [Tb.row_eq hrow]; exact List.getElem_mem hrow)
  have q1 : gIx (encR (Tb.row t x.row)) (.int 1) = some (.int ((Tb.row t x.row).2.1 : Nat)) := rfl
  have q2 : gIx (encR (Tb.row t x.row)) (.int 2) = some (.int ((Tb.row t x.row).2.2 : Nat)) := rfl
  obtain ⟨u1, u2, u3, u4, u5, e1⟩ := t_sf2 (ruleO t) a b n k x (by omega) (by omega) hage.2 hk2 (encR (Tb.row t x.row)) _ _ (by omega) (by omega) false q1 q2 [] (by simp) .no .no .no .no .no .no
  have l1 := len_add1 a b k x (Tb.row t x.row).2.1 false true
  have l2 := len_add1 a b k x (Tb.row t x.row).2.2 false false
  obtain ⟨v1, v2, v3, v4, v5, e2⟩ := t_sf2 (ruleO t) a b n k x (by omega) (by omega) hage.2 hk2 (encR (Tb.row t x.row)) _ _ (by omega) (by omega) true q1 q2 ([] ++ add1 a b k x (Tb.row t x.row).2.1 false true ++ add1 a b k x (Tb.row t x.row).2.2 false false) (by simp; omega) (.val (.str (sts [false]))) u1 u2 u3 u4 u5
  have c1 : sts [false] = ("D" : Str) := by decide
  have c2 : sts [true] = ("U" : Str) := by decide
  have e : ([] ++ add1 a b k x (Tb.row t x.row).2.1 false true ++ add1 a b k x (Tb.row t x.row).2.2 false false ++ add1 a b k x (Tb.row t x.row).2.1 true true ++ add1 a b k x (Tb.row t x.row).2.2 true false) = (Hi.steps a b k x (Tb.row t x.row).2.1 (Tb.row t x.row).2.2).map stD := by
    unfold Hi.steps add1
    simp only [List.filterMap_cons, List.filterMap_nil, if_true, Bool.false_eq_true, if_false]
    cases Hi.step1 a b k x (Tb.row t x.row).2.1 false true <;> cases Hi.step1 a b k x (Tb.row t x.row).2.2 false false <;> cases Hi.step1 a b k x (Tb.row t x.row).2.1 true true <;> cases Hi.step1 a b k x (Tb.row t x.row).2.2 true false <;> rfl
  have h6 : gIx (encT t) (.int ((x.row : Nat) : Int)) = some (encR (Tb.row t x.row)) := ix_tab hrow
  refine b_sfr (ruleO t) (lim (a : Nat) (b : Nat) (n : Nat) (k : Nat)) (encR (Tb.row t x.row)) (enc x) (sts [x.st]) (S [48 + x.age]) (x.age : Nat) (x.row : Nat) _ (.val (.str (sts [true]))) v1 v2 v3 v4 v5 (enc_st x (by omega)) (enc_age x (by omega)) (one_int x.age (by omega)) _ (fld_rule t) (s_rowof x (by omega) (by omega)) h6 _ rfl ?_
  rw [← c1, ← c2, forL_cons_nx e1, forL_cons_nx e2, e]
  simp only [forL, skp, Sr.ret]
section
variable (T N Q : D) (z zf zs zc zq zz zt zy : Str) (g w m sd : Int) (P C : Bool) (F : List D) (j8 j9 j10 : Sl)
theorem b_ls (hF : F.length ≤ 100) (h1 : gSl (.str z) (some 4) none = some (.str zf)) (h2 : f__law_flag .non [.str zs, .str zc] = .ok (.str zq) .non) (h3 : gAdd (.str zf) (.str zq) = some (.str zz)) (h5 : f__law_let .non [N, .str zz] = .ok (.bl P) .non) (h6 : gEq (.str zc) (.str "-") = some (.bl C)) (h7 : sd = 1 + (if C then 1 else 0)) (h8 : gIx Q (.int sd) = some (.int m)) (h9 : gSl (.str zz) (some 1) none = some (.str zt)) (h10 : 0 < w → f__law_spelled .non [.int m, .str zs, .int w, .str zt] = .ok (.str zy) .non) :
    turn (gN 8) l__law_steps_1 (.str zc) [.val T, .val N, .val (.str z), .val Q, .val (.int g), .own (.lst F), .val (.str zs), .val (.int w), j8, j9, j10] = .ok .nx [.val T, .val N, .val (.str z), .val Q, .val (.int g), .own (.lst (F ++ if decide (0 < w) && P then [.tup [.str zs, .str zc, .str zy]] else [])), .val (.str zs), .val (.int w), .val (.str zc), .val (.str zz), if decide (0 < w) && P then .val (.int m) else j10] := by
  have hz : F.length < sizeLine := by
    have e : sizeLine = 16777216 := by decide
    omega
  have hz3 : (3 : Nat) ≤ sizeLine := by decide
  have q1 : gGt (.int w) (.int 0) = some (.bl (decide (0 < w))) := rfl
  have q2 : gInt1 [.bl C] = some (.int (if C then 1 else 0)) := rfl
  have q3 : gAdd (.int 1) (.int (if C then 1 else 0)) = some (.int sd) := by rw [h7]; rfl
  by_cases hw : 0 < w
  · rw [decide_eq_true hw] at q1 ⊢
    have h10 := h10 hw
    cases P <;> simp [l__law_steps_1, mSl, mPart, mNoP, asI, q1, q2, q3, h1, h2, h3, h5, h6, h8, h9, h10, hz, hz3, mkF0, mkF1, fin0, fin1, st0, st1, bnd, Sr.ret, opt, mN, mNB, mB, der, m1, m2, m2b, m2r, mT, asB, mChain, mAnd, mOr, mNot, mAndV, mOrV, mNotV, mIf, mNil, mCons, mTup, mLst, mIsN, mNotN, Sr.isNon, mCal, mCal1, mIsi, mFldB, gFld, mC0, mC1, ap0, ap1, chkO, chkL, putL, mMk, apM, skp, sq, sDrop, sRet, sRetO, sIf, sSet, sSetO, sAsg, sPar, gN, gsN, gsC, gT, gA, sApp, sPutI, sNever, mItems, dItems, mRng, mRng2, gRng, gRng2, sFor, turn, gI, gI0, gLt, gLe, gGe, gAddI, gAddS, gAddT, gAddL, Sr.gSub, gMul, gMulI, gDiv, gMod, gPow, gNeg, gNe, dEq, eqS, gLen, gMax2, gMin2, gAbs, gLtT, dInts, putD, gIsi, dKind, tInt, tOnly, List.map_cons, List.map_nil, List.length_cons, List.length_nil, List.cons_append, List.nil_append, List.getElem?_cons_zero, List.getElem?_cons_succ, List.set_cons_zero, List.set_cons_succ, List.replicate, Option.some_or, Option.none_or, Option.map_some, Option.map_none, Option.bind_some, Option.bind_none]
  · rw [decide_eq_false hw] at q1 ⊢
    simp [l__law_steps_1, mSl, mPart, mNoP, asI, q1, h1, h2, h3, mkF0, mkF1, fin0, fin1, st0, st1, bnd, Sr.ret, opt, mN, mNB, mB, der, m1, m2, m2b, m2r, mT, asB, mChain, mAnd, mOr, mNot, mAndV, mOrV, mNotV, mIf, mNil, mCons, mTup, mLst, mIsN, mNotN, Sr.isNon, mCal, mCal1, mIsi, mFldB, gFld, mC0, mC1, ap0, ap1, chkO, chkL, putL, mMk, apM, skp, sq, sDrop, sRet, sRetO, sIf, sSet, sSetO, sAsg, sPar, gN, gsN, gsC, gT, gA, sApp, sPutI, sNever, mItems, dItems, mRng, mRng2, gRng, gRng2, sFor, turn, gI, gI0, gLt, gLe, gGe, gAddI, gAddS, gAddT, gAddL, Sr.gSub, gMul, gMulI, gDiv, gMod, gPow, gNeg, gNe, dEq, eqS, gLen, gMax2, gMin2, gAbs, gLtT, dInts, putD, gIsi, dKind, tInt, tOnly, List.map_cons, List.map_nil, List.length_cons, List.length_nil, List.cons_append, List.nil_append, List.getElem?_cons_zero, List.getElem?_cons_succ, List.set_cons_zero, List.set_cons_succ, List.replicate, Option.some_or, Option.none_or, Option.map_some, Option.map_none, Option.bind_some, Option.bind_none]
end
theorem cut_tail (l : List Nat) (h : l.length ≤ 1000) : gSl (.str (S l)) (some 1) none = some (.str (S l.tail)) := by
  simp only [gSl]
  rw [if_pos (by rw [S_len]; exact sz (by omega))]
  congr 2
  unfold cutS
  rw [S_len]
  have e1 : HT.sIx l.length 0 (some (1 : Int)) = min 1 l.length := by
    simp only [HT.sIx]
    split <;> omega
  have e2 : HT.sIx l.length l.length none = l.length := rfl
  rw [e1, e2]
  unfold S
  congr 1
  show (List.take (l.length - min 1 l.length) (List.drop (min 1 l.length) l)).toArray = _
  cases l with
  | nil => rfl
  | cons c l => simp
def grw (k : Nat) (x : Hi.Sit) (s : Bool) : Nat := if s == x.st then x.age + (if x.age < k then 1 else 0) else if x.age == k then 1 else 0
theorem t_ls (T : D) (a b n k : Nat) (x : Hi.Sit) (hl : x.fl.length ≤ 20) (ha : 1 ≤ x.age) (hk : x.age ≤ k) (hk2 : k < 10) (Q : D) (m : Nat) (hm : m < 100) (s c : Bool) (hQ : gIx Q (.int (1 + (if !c then 1 else 0))) = some (.int (m : Nat))) (F : List D) (hF : F.length ≤ 100) (j8 j9 j10 : Sl) :
    ∃ k9 k10, turn (gN 8) l__law_steps_1 (.str (chk [c])) [.val T, .val (nums (a : Nat) (b : Nat) (n : Nat) (k : Nat)), .val (.str (enc x)), .val Q, .val (.int (x.age : Nat)), .own (.lst F), .val (.str (sts [s])), .val (.int (grw k x s : Nat)), j8, j9, j10] = .ok .nx [.val T, .val (nums (a : Nat) (b : Nat) (n : Nat) (k : Nat)), .val (.str (enc x)), .val Q, .val (.int (x.age : Nat)), .own (.lst (F ++ add1 a b k x m s c)), .val (.str (sts [s])), .val (.int (grw k x s : Nat)), .val (.str (chk [c])), k9, k10] := by
  have h3 := add_S x.fl [fcd s c] (by simp; omega)
  have h5 := s_let a b n k (x.fl ++ [fcd s c])
  have h6 : gEq (.str (chk [c])) (.str "-") = some (.bl (!c)) := by cases c <;> kernel_rfl
  have h9 := cut_tail (x.fl ++ [fcd s c]) (by simp; omega)
  have hgw : grw k x s ≤ k + 1 := by
    unfold grw
    split <;> split <;> omega
  have h10 := s_lspell ⟨m, s, grw k x s, (x.fl ++ [fcd s c]).tail⟩ hm (by dsimp only; unfold grw; split <;> split <;> omega) (by rw [List.length_tail]; simp; omega)
  have hb := b_ls T (nums (a : Nat) (b : Nat) (n : Nat) (k : Nat)) Q (enc x) (S x.fl) (sts [s]) (chk [c]) (S [fcd s c]) _ _ _ (x.age : Nat) (grw k x s : Nat) (m : Nat) _ _ (!c) F j8 j9 j10 hF (enc_fl x (by omega)) (s_flag s c) h3 h5 h6 rfl hQ h9 (fun _ => h10)
  have e : (if (decide ((0 : Int) < ((grw k x s : Nat) : Int)) && Hi.letB a b ((x.fl ++ [fcd s c]).map (· == 112)) ((x.fl ++ [fcd s c]).map (· == 102))) = true then [D.tup [.str (sts [s]), .str (chk [c]), .str (enc ⟨m, s, grw k x s, (x.fl ++ [fcd s c]).tail⟩)]] else []) = add1 a b k x m s c := by
    unfold add1 Hi.step1 Hi.lets
    rw [← fcd_eq]
    generalize Hi.letB a b ((x.fl ++ [fcd s c]).map (· == 112)) ((x.fl ++ [fcd s c]).map (· == 102)) = P
    unfold grw
    by_cases q : (s == x.st) = true
    · have q2 : decide ((0 : Int) < ((x.age + (if x.age < k then 1 else 0) : Nat) : Int)) = true := by rw [decide_eq_true_eq]; omega
      simp only [q, if_true, Bool.true_or, Bool.and_true, q2, Bool.true_and]
      cases P <;> rfl
    · simp only [Bool.not_eq_true] at q
      cases r : x.age == k
      · simp only [q, r, Bool.false_eq_true, if_false, Bool.or_self, Bool.and_false]
        rfl
      · simp only [q, r, Bool.false_eq_true, if_false, if_true, Bool.or_true, Bool.and_true]
        cases P <;> rfl
  rw [e] at hb
  exact ⟨_, _, hb⟩
theorem b_ls2 (T N Q : D) (z zs zx : Str) (g k w : Int) (F : Sl) (S1 : Bool) (E : En) (j6 j7 j8 j9 j10 : Sl) (h1 : gIx N (.int 3) = some (.int k)) (h2 : gIx (.str z) (.int 2) = some (.str zx)) (h3 : gNe (.str zs) (.str zx) = some (.bl (!S1))) (hw : w = if S1 then g + (if g < k then 1 else 0) else if g = k then 1 else 0) (X : List D → M Fl) (hX : forL (gN 8) l__law_steps_1 = X)
    (h : X [.str "+", .str "-"] [.val T, .val N, .val (.str z), .val Q, .val (.int g), F, .val (.str zs), .val (.int w), j8, j9, j10] = .ok .nx E) :
    turn (gN 6) l__law_steps_2 (.str zs) [.val T, .val N, .val (.str z), .val Q, .val (.int g), F, j6, j7, j8, j9, j10] = .ok .nx E := by
  have lt : gLt (.int g) (.int k) = some (.bl (decide (g < k))) := rfl
  have i1 : gInt1 [.bl (decide (g < k))] = some (.int (if g < k then 1 else 0)) := by
    by_cases h : g < k <;> simp [gInt1, h]
  have ad : gAdd (.int g) (.int (if g < k then 1 else 0)) = some (.int (g + (if g < k then 1 else 0))) := rfl
  have eq : gEq (.int g) (.int k) = some (.bl (decide (g = k))) := by simp [gEq, dEq, eqS]
  have di : mItems (ret (.str "+-")) = mItems (ret (.str "+-")) := rfl
  have dd : dItems (.str "+-") = some [.str "+", .str "-"] := by kernel_rfl
  simp only [l__law_steps_2, sFor, hX]
  cases S1
  · by_cases q : g = k
    · subst q
      simp at hw
      subst hw
      have i0 : gInt1 [.bl false] = some (.int 0) := rfl
      have a0 : gAdd (.int g) (.int 0) = some (.int (g + 0)) := rfl
      simp [h1, h2, h3, lt, i0, a0, ad, eq, dd, h, mkF0, mkF1, fin0, fin1, st0, st1, bnd, Sr.ret, opt, mN, mNB, mB, der, m1, m2, m2b, m2r, mT, asB, mChain, mAnd, mOr, mNot, mAndV, mOrV, mNotV, mIf, mNil, mCons, mTup, mLst, mIsN, mNotN, Sr.isNon, mCal, mCal1, mIsi, mFldB, gFld, mC0, mC1, ap0, ap1, chkO, chkL, putL, mMk, apM, skp, sq, sDrop, sRet, sRetO, sIf, sSet, sSetO, sAsg, sPar, gN, gsN, gsC, gT, gA, sApp, sPutI, sNever, mItems, mRng, mRng2, gRng, gRng2, turn, gI, gI0, gLe, gGt, gGe, gAddI, gAddS, gAddT, gAddL, Sr.gSub, gMul, gMulI, gDiv, gMod, gPow, gNeg, dEq, eqS, gLen, gMax2, gMin2, gAbs, gLtT, dInts, putD, gIsi, dKind, tInt, tOnly, List.map_cons, List.map_nil, List.length_cons, List.length_nil, List.cons_append, List.nil_append, List.getElem?_cons_zero, List.getElem?_cons_succ, List.set_cons_zero, List.set_cons_succ, List.replicate, Option.some_or, Option.none_or, Option.map_some, Option.map_none, Option.bind_some, Option.bind_none]
    · rw [decide_eq_false q] at eq
      simp [q] at hw
      subst hw
      simp [h1, h2, h3, lt, i1, ad, eq, dd, h, mkF0, mkF1, fin0, fin1, st0, st1, bnd, Sr.ret, opt, mN, mNB, mB, der, m1, m2, m2b, m2r, mT, asB, mChain, mAnd, mOr, mNot, mAndV, mOrV, mNotV, mIf, mNil, mCons, mTup, mLst, mIsN, mNotN, Sr.isNon, mCal, mCal1, mIsi, mFldB, gFld, mC0, mC1, ap0, ap1, chkO, chkL, putL, mMk, apM, skp, sq, sDrop, sRet, sRetO, sIf, sSet, sSetO, sAsg, sPar, gN, gsN, gsC, gT, gA, sApp, sPutI, sNever, mItems, mRng, mRng2, gRng, gRng2, turn, gI, gI0, gLe, gGt, gGe, gAddI, gAddS, gAddT, gAddL, Sr.gSub, gMul, gMulI, gDiv, gMod, gPow, gNeg, dEq, eqS, gLen, gMax2, gMin2, gAbs, gLtT, dInts, putD, gIsi, dKind, tInt, tOnly, List.map_cons, List.map_nil, List.length_cons, List.length_nil, List.cons_append, List.nil_append, List.getElem?_cons_zero, List.getElem?_cons_succ, List.set_cons_zero, List.set_cons_succ, List.replicate, Option.some_or, Option.none_or, Option.map_some, Option.map_none, Option.bind_some, Option.bind_none]
  · simp only [if_true] at hw
    subst hw
    simp [h1, h2, h3, lt, i1, ad, dd, h, mkF0, mkF1, fin0, fin1, st0, st1, bnd, Sr.ret, opt, mN, mNB, mB, der, m1, m2, m2b, m2r, mT, asB, mChain, mAnd, mOr, mNot, mAndV, mOrV, mNotV, mIf, mNil, mCons, mTup, mLst, mIsN, mNotN, Sr.isNon, mCal, mCal1, mIsi, mFldB, gFld, mC0, mC1, ap0, ap1, chkO, chkL, putL, mMk, apM, skp, sq, sDrop, sRet, sRetO, sIf, sSet, sSetO, sAsg, sPar, gN, gsN, gsC, gT, gA, sApp, sPutI, sNever, mItems, mRng, mRng2, gRng, gRng2, turn, gI, gI0, gLe, gGt, gGe, gAddI, gAddS, gAddT, gAddL, Sr.gSub, gMul, gMulI, gDiv, gMod, gPow, gNeg, dEq, eqS, gLen, gMax2, gMin2, gAbs, gLtT, dInts, putD, gIsi, dKind, tInt, tOnly, List.map_cons, List.map_nil, List.length_cons, List.length_nil, List.cons_append, List.nil_append, List.getElem?_cons_zero, List.getElem?_cons_succ, List.set_cons_zero, List.set_cons_succ, List.replicate, Option.some_or, Option.none_or, Option.map_some, Option.map_none, Option.bind_some, Option.bind_none]
theorem t_ls2 (T : D) (a b n k : Nat) (x : Hi.Sit) (hl : x.fl.length ≤ 20) (ha : 1 ≤ x.age) (hk : x.age ≤ k) (hk2 : k < 10) (Q : D) (p f : Nat) (hp : p < 100) (hf : f < 100) (s : Bool) (h1 : gIx Q (.int 1) = some (.int (p : Nat))) (h2 : gIx Q (.int 2) = some (.int (f : Nat))) (F : List D) (hF : F.length ≤ 90) (j6 j7 j8 j9 j10 : Sl) :
    ∃ k8 k9 k10 k7, turn (gN 6) l__law_steps_2 (.str (sts [s])) [.val T, .val (nums (a : Nat) (b : Nat) (n : Nat) (k : Nat)), .val (.str (enc x)), .val Q, .val (.int (x.age : Nat)), .own (.lst F), j6, j7, j8, j9, j10] = .ok .nx [.val T, .val (nums (a : Nat) (b : Nat) (n : Nat) (k : Nat)), .val (.str (enc x)), .val Q, .val (.int (x.age : Nat)), .own (.lst (F ++ add1 a b k x p s true ++ add1 a b k x f s false)), .val (.str (sts [s])), k7, k8, k9, k10] := by
  obtain ⟨u1, u2, e1⟩ := t_ls T a b n k x hl ha hk hk2 Q p hp s true h1 F (by omega) j8 j9 j10
  have l1 := len_add1 a b k x p s true
  obtain ⟨v1, v2, e2⟩ := t_ls T a b n k x hl ha hk hk2 Q f hf s false h2 (F ++ add1 a b k x p s true) (by simp; omega) (.val (.str (chk [true]))) u1 u2
  have c1 : chk [true] = ("+" : Str) := by decide
  have c2 : chk [false] = ("-" : Str) := by decide
  have q : gNe (.str (sts [s])) (.str (sts [x.st])) = some (.bl (!(s == x.st))) := by cases s <;> cases x.st <;> kernel_rfl
  have hw : ((grw k x s : Nat) : Int) = if (s == x.st) = true then ((x.age : Nat) : Int) + (if ((x.age : Nat) : Int) < ((k : Nat) : Int) then 1 else 0) else if ((x.age : Nat) : Int) = ((k : Nat) : Int) then 1 else 0 := by
    unfold grw
    by_cases q : (s == x.st) = true
    · rw [if_pos q, if_pos q]
      by_cases q2 : x.age < k
      · rw [if_pos q2, if_pos (by omega)]; rfl
      · rw [if_neg q2, if_neg (by omega)]; rfl
    · rw [if_neg q, if_neg q]
      by_cases q2 : x.age = k
      · rw [if_pos (by simpa using q2), if_pos (by omega)]; rfl
      · rw [if_neg (by simpa using q2), if_neg (by omega)]; rfl
  refine ⟨.val (.str (chk [false])), v1, v2, .val (.int (grw k x s : Nat)), b_ls2 T (nums (a : Nat) (b : Nat) (n : Nat) (k : Nat)) Q (enc x) (sts [s]) (sts [x.st]) (x.age : Nat) (k : Nat) _ (.own (.lst F)) (s == x.st) _ j6 j7 j8 j9 j10 rfl (enc_st x (by omega)) q hw _ rfl ?_⟩
  rw [← c1, ← c2, forL_cons_nx e1, forL_cons_nx e2]
  simp only [forL, skp, Sr.ret]
theorem b_lsr (T N Q : D) (z zt za : Str) (g r : Int) (F : List D) (k6 k7 k8 k9 k10 : Sl) (h0 : gSl (.str z) none (some 2) = some (.str zt)) (h1 : gIntS [.str zt] = some (.int r)) (h2 : gIx (.str z) (.int 3) = some (.str za)) (h3 : gIntS [.str za] = some (.int g)) (h6 : gIx T (.int r) = some Q) (X : List D → M Fl) (hX : forL (gN 6) l__law_steps_2 = X)
    (h : X [.str "D", .str "U"] [.val T, .val N, .val (.str z), .val Q, .val (.int g), .own (.lst []), .no, .no, .no, .no, .no] = .ok .nx [.val T, .val N, .val (.str z), .val Q, .val (.int g), .own (.lst F), k6, k7, k8, k9, k10]) : f__law_steps .non [T, N, .str z] = .ok (.tup F) .non := by
  have dd : dItems (.str "DU") = some [.str "D", .str "U"] := by kernel_rfl
  simp only [f__law_steps, b__law_steps, sFor, hX]
  simp [sParM, xCons, xConsO, xNil, putM, mSl, mPart, mNoP, asI, gTuple, h0, h1, h2, h3, h6, dd, h, sizeLine, mkF0, mkF1, fin0, fin1, st0, st1, bnd, Sr.ret, opt, mN, mNB, mB, der, m1, m2, m2b, m2r, mT, asB, mChain, mAnd, mOr, mNot, mAndV, mOrV, mNotV, mIf, mNil, mCons, mTup, mLst, mIsN, mNotN, Sr.isNon, mCal, mCal1, mIsi, mFldB, gFld, mC0, mC1, ap0, ap1, chkO, chkL, putL, mMk, apM, skp, sq, sDrop, sRet, sRetO, sIf, sSet, sSetO, sAsg, sPar, gN, gsN, gsC, gT, gA, sApp, sPutI, sNever, mItems, mRng, mRng2, gRng, gRng2, turn, gI, gI0, gLt, gLe, gGt, gGe, gAdd, gAddI, gAddS, gAddT, gAddL, Sr.gSub, gMul, gMulI, gDiv, gMod, gPow, gNeg, gEq, gNe, dEq, eqS, gLen, gInt1, gMax2, gMin2, gAbs, gLtT, dInts, putD, gIsi, dKind, tInt, tOnly, List.map_cons, List.map_nil, List.length_cons, List.length_nil, List.cons_append, List.nil_append, List.getElem?_cons_zero, List.getElem?_cons_succ, List.set_cons_zero, List.set_cons_succ, List.replicate, Option.some_or, Option.none_or, Option.map_some, Option.map_none, Option.bind_some, Option.bind_none]
theorem s_ls (t : Tb.Tab) (ok : Tb.Ok t) (h100 : t.length ≤ 100) (a b n k : Nat) (x : Hi.Sit) (hx : Hi.SitOk a b n k t.length x) (hn : n ≤ 20) (hk2 : k < 10) : f__law_steps .non [encT t, nums (a : Nat) (b : Nat) (n : Nat) (k : Nat), .str (enc x)] = .ok (.tup ((Hi.steps a b k x (Tb.row t x.row).2.1 (Tb.row t x.row).2.2).map stD)) .non := by
  have hlen := hx.len
  have hage := hx.age
  have hrow := hx.row
  have hok := ok (Tb.row t x.row) (by rw [Tb.row_eq hrow]; exact List.getElem_mem hrow)
  have q1 : gIx (encR (Tb.row t x.row)) (.int 1) = some (.int ((Tb.row t x.row).2.1 : Nat)) := rfl
  have q2 : gIx (encR (Tb.row t x.row)) (.int 2) = some (.int ((Tb.row t x.row).2.2 : Nat)) := rfl
  obtain ⟨u1, u2, u3, u4, e1⟩ := t_ls2 (encT t) a b n k x (by omega) hage.1 hage.2 hk2 (encR (Tb.row t x.row)) _ _ (by omega) (by omega) false q1 q2 [] (by simp) .no .no .no .no .no
  have l1 := len_add1 a b k x (Tb.row t x.row).2.1 false true
  have l2 := len_add1 a b k x (Tb.row t x.row).2.2 false false
  obtain ⟨v1, v2, v3, v4, e2⟩ := t_ls2 (encT t) a b n k x (by omega) hage.1 hage.2 hk2 (encR (Tb.row t x.row)) _ _ (by omega) (by omega) true q1 q2 ([] ++ add1 a b k x (Tb.row t x.row).2.1 false true ++ add1 a b k x (Tb.row t x.row).2.2 false false) (by simp; omega) (.val (.str (sts [false]))) u4 u1 u2 u3
  have c1 : sts [false] = ("D" : Str) := by decide
  have c2 : sts [true] = ("U" : Str) := by decide
  have e : ([] ++ add1 a b k x (Tb.row t x.row).2.1 false true ++ add1 a b k x (Tb.row t x.row).2.2 false false ++ add1 a b k x (Tb.row t x.row).2.1 true true ++ add1 a b k x (Tb.row t x.row).2.2 true false) = (Hi.steps a b k x (Tb.row t x.row).2.1 (Tb.row t x.row).2.2).map stD := by
    unfold Hi.steps add1
    simp only [List.filterMap_cons, List.filterMap_nil, if_true, Bool.false_eq_true, if_false]
    cases Hi.step1 a b k x (Tb.row t x.row).2.1 false true <;> cases Hi.step1 a b k x (Tb.row t x.row).2.2 false false <;> cases Hi.step1 a b k x (Tb.row t x.row).2.1 true true <;> cases Hi.step1 a b k x (Tb.row t x.row).2.2 true false <;> rfl
  have h6 : gIx (encT t) (.int ((x.row : Nat) : Int)) = some (encR (Tb.row t x.row)) := ix_tab hrow
  refine b_lsr (encT t) (nums (a : Nat) (b : Nat) (n : Nat) (k : Nat)) (encR (Tb.row t x.row)) (enc x) _ (S [48 + x.age]) (x.age : Nat) (x.row : Nat) _ (.val (.str (sts [true]))) v4 v1 v2 v3 (enc_top x (by omega)) (two_int x.row (by omega)) (enc_age x (by omega)) (one_int x.age (by omega)) h6 _ rfl ?_
  rw [← c1, ← c2, forL_cons_nx e1, forL_cons_nx e2, e]
  simp only [forL, skp, Sr.ret]
def sitD (x : Hi.Sit) : D := .str (enc x)
theorem b_begP (L : D) (n m k : Int) (zf z1 z2 : Str) (g2 : gFld "Limits" "most_checks" L = some (.int n)) (h1 : gSub (.int n) (.int 1) = some (.int m)) (h2 : gMulA (.str ".") (.int m) = some (.str zf)) (g3 : gFld "Limits" "least_stay" L = some (.int k)) (h3 : f_spelled .non [.int 0, .str "D", .int k, .str zf] = .ok (.str z1) .non) (h4 : f_spelled .non [.int 0, .str "U", .int k, .str zf] = .ok (.str z2) .non) : f_beginnings .non [L] = .ok (.lst [.str z1, .str z2]) .non := by
  simp [f_beginnings, b_beginnings, sizeLine, g2, g3, h1, h2, h3, h4, mkF0, mkF1, fin0, fin1, st0, st1, bnd, Sr.ret, opt, mN, mNB, mB, der, m1, m2, m2b, m2r, mT, asB, mChain, mAnd, mOr, mNot, mAndV, mOrV, mNotV, mIf, mNil, mCons, mTup, mLst, mIsN, mNotN, Sr.isNon, mCal, mCal1, mIsi, mFldB, mC0, mC1, ap0, ap1, chkO, chkL, putL, mMk, apM, skp, sq, sDrop, sRet, sRetO, sIf, sSet, sSetO, sAsg, sPar, gN, gsN, gsC, gT, gA, sApp, sPutI, sNever, mItems, dItems, mRng, mRng2, gRng, gRng2, sFor, turn, gI, gI0, gLt, gLe, gGt, gGe, gAdd, gAddI, gAddS, gAddT, gAddL, gMul, gMulI, gDiv, gMod, gPow, gNeg, gEq, gNe, dEq, eqS, gLen, gInt1, gMax2, gMin2, gAbs, gIx, gLtT, dInts, putD, gIsi, dKind, tInt, tOnly, List.map_cons, List.map_nil, List.length_cons, List.length_nil, List.cons_append, List.nil_append, List.getElem?_cons_zero, List.getElem?_cons_succ, List.set_cons_zero, List.set_cons_succ, List.replicate, Option.some_or, Option.none_or, Option.map_some, Option.map_none, Option.bind_some, Option.bind_none]
theorem sub_n1 (n k : Nat) (h : k ≤ n) : gSub (.int ((n : Nat) : Int)) (.int ((k : Nat) : Int)) = some (.int ((n - k : Nat) : Int)) := by
  show some (D.int ((n : Int) - (k : Int))) = _
  congr 2
  omega
theorem flat1' (m : Nat) : (List.replicate m [46]).flatten = List.replicate m 46 := by
  induction m with
  | zero => rfl
  | succ m ih => rw [List.replicate_succ, List.flatten_cons, ih]; rfl
theorem s_begP (a b n k : Nat) (hn : 1 ≤ n) (hn2 : n ≤ 20) (hk : k < 10) : f_beginnings .non [lim (a : Nat) (b : Nat) (n : Nat) (k : Nat)] = .ok (.lst [sitD (Hi.begS n k false), sitD (Hi.begS n k true)]) .non := by
  have h1 := sub_n1 n 1 hn
  have h2 := mul_S [46] (n - 1) (by omega) (by simp)
  rw [flat1'] at h2
  have e0 : S [46] = ("." : Str) := by decide
  rw [e0] at h2
  have c1 : sts [false] = ("D" : Str) := by decide
  have c2 : sts [true] = ("U" : Str) := by decide
  have q1 := s_spell (Hi.begS n k false) (by show 0 < 100; omega) hk (by show (List.replicate (n - 1) 46).length ≤ 100; rw [List.length_replicate]; omega)
  have q2 := s_spell (Hi.begS n k true) (by show 0 < 100; omega) hk (by show (List.replicate (n - 1) 46).length ≤ 100; rw [List.length_replicate]; omega)
  have q1 : f_spelled .non [.int 0, .str (sts [false]), .int (k : Nat), .str (S (List.replicate (n - 1) 46))] = .ok (.str (enc (Hi.begS n k false))) .non := q1
  have q2 : f_spelled .non [.int 0, .str (sts [true]), .int (k : Nat), .str (S (List.replicate (n - 1) 46))] = .ok (.str (enc (Hi.begS n k true))) .non := q2
  rw [c1] at q1
  rw [c2] at q2
  exact b_begP _ (n : Nat) ((n - 1 : Nat) : Int) (k : Nat) _ _ _ rfl h1 h2 rfl q1 q2
theorem s_begL (a b n k : Nat) (hn : 1 ≤ n) (hn2 : n ≤ 20) (hk : k < 10) : f__law_beginnings .non [nums (a : Nat) (b : Nat) (n : Nat) (k : Nat)] = .ok (.lst [sitD (Hi.begS n k false), sitD (Hi.begS n k true)]) .non := by
  have key : ∀ (N : D) (n m k : Int) (zf z1 z2 : Str), gIx N (.int 2) = some (.int n) → gSub (.int n) (.int 1) = some (.int m) → gMulA (.str ".") (.int m) = some (.str zf) → gIx N (.int 3) = some (.int k) → f__law_spelled .non [.int 0, .str "D", .int k, .str zf] = .ok (.str z1) .non → f__law_spelled .non [.int 0, .str "U", .int k, .str zf] = .ok (.str z2) .non → f__law_beginnings .non [N] = .ok (.lst [.str z1, .str z2]) .non := by
    intro N n m k zf z1 z2 g2 h1 h2 g3 h3 h4
    simp [f__law_beginnings, b__law_beginnings, sizeLine, g2, g3, h1, h2, h3, h4, mkF0, mkF1, fin0, fin1, st0, st1, bnd, Sr.ret, opt, mN, mNB, mB, der, m1, m2, m2b, m2r, mT, asB, mChain, mAnd, mOr, mNot, mAndV, mOrV, mNotV, mIf, mNil, mCons, mTup, mLst, mIsN, mNotN, Sr.isNon, mCal, mCal1, mIsi, mFldB, gFld, mC0, mC1, ap0, ap1, chkO, chkL, putL, mMk, apM, skp, sq, sDrop, sRet, sRetO, sIf, sSet, sSetO, sAsg, sPar, gN, gsN, gsC, gT, gA, sApp, sPutI, sNever, mItems, dItems, mRng, mRng2, gRng, gRng2, sFor, turn, gI, gI0, gLt, gLe, gGt, gGe, gAdd, gAddI, gAddS, gAddT, gAddL, gMul, gMulI, gDiv, gMod, gPow, gNeg, gEq, gNe, dEq, eqS, gLen, gInt1, gMax2, gMin2, gAbs, gLtT, dInts, putD, gIsi, dKind, tInt, tOnly, List.map_cons, List.map_nil, List.length_cons, List.length_nil, List.cons_append, List.nil_append, List.getElem?_cons_zero, List.getElem?_cons_succ, List.set_cons_zero, List.set_cons_succ, List.replicate, Option.some_or, Option.none_or, Option.map_some, Option.map_none, Option.bind_some, Option.bind_none]
  have h1 := sub_n1 n 1 hn
  have h2 := mul_S [46] (n - 1) (by omega) (by simp)
  rw [flat1'] at h2
  have e0 : S [46] = ("." : Str) := by decide
  rw [e0] at h2
  have c1 : sts [false] = ("D" : Str) := by decide
  have c2 : sts [true] = ("U" : Str) := by decide
  have q1 := s_lspell (Hi.begS n k false) (by show 0 < 100; omega) hk (by show (List.replicate (n - 1) 46).length ≤ 100; rw [List.length_replicate]; omega)
  have q2 := s_lspell (Hi.begS n k true) (by show 0 < 100; omega) hk (by show (List.replicate (n - 1) 46).length ≤ 100; rw [List.length_replicate]; omega)
  have q1 : f__law_spelled .non [.int 0, .str (sts [false]), .int (k : Nat), .str (S (List.replicate (n - 1) 46))] = .ok (.str (enc (Hi.begS n k false))) .non := q1
  have q2 : f__law_spelled .non [.int 0, .str (sts [true]), .int (k : Nat), .str (S (List.replicate (n - 1) 46))] = .ok (.str (enc (Hi.begS n k true))) .non := q2
  rw [c1] at q1
  rw [c2] at q2
  exact key _ (n : Nat) ((n - 1 : Nat) : Int) (k : Nat) _ _ _ rfl h1 h2 rfl q1 q2
theorem eq_s1 (x y : Bool) : gEq (.str (sts [x])) (.str (sts [y])) = some (.bl (x == y)) := by cases x <;> cases y <;> kernel_rfl
theorem eq_c1 (x y : Bool) : gEq (.str (chk [x])) (.str (chk [y])) = some (.bl (x == y)) := by cases x <;> cases y <;> kernel_rfl
def one1 : Tb.Tab := [(true, 0, 0)]
theorem one_ok : Tb.Ok one1 := by
  intro r hr
  unfold one1 at hr ⊢
  rw [List.mem_singleton] at hr
  subst hr
  exact ⟨by decide, by decide⟩
theorem one_small : Tb.small one1 0 = one1 := by decide +kernel
theorem s_some : f_some_rule .non [] = .ok (ruleO one1) .non := by
  have h := s_rule one1 one_ok (by decide) (by decide)
  rw [one_small] at h
  have e : encT one1 = .tup [.tup [.str "U", .int 0, .int 0]] := by rfl
  rw [e] at h
  have hz3 : (3 : Nat) ≤ sizeLine := by decide
  have hz1 : (1 : Nat) ≤ sizeLine := by decide
  simp [f_some_rule, b_some_rule, h, hz1, hz3, mkF0, mkF1, fin0, fin1, st0, st1, bnd, Sr.ret, opt, mN, mNB, mB, der, m1, m2, m2b, m2r, mT, asB, mChain, mAnd, mOr, mNot, mAndV, mOrV, mNotV, mIf, mNil, mCons, mTup, mLst, mIsN, mNotN, Sr.isNon, mCal, mCal1, mIsi, mFldB, gFld, mC0, mC1, ap0, ap1, chkO, chkL, putL, mMk, apM, skp, sq, sDrop, sRet, sRetO, sIf, sSet, sSetO, sAsg, sPar, gN, gsN, gsC, gT, gA, sApp, sPutI, sNever, mItems, dItems, mRng, mRng2, gRng, gRng2, sFor, turn, gI, gI0, gLt, gLe, gGt, gGe, gAdd, gAddI, gAddS, gAddT, gAddL, Sr.gSub, gMul, gMulI, gDiv, gMod, gPow, gNeg, gEq, gNe, dEq, eqS, gLen, gInt1, gMax2, gMin2, gAbs, gIx, gLtT, dInts, putD, gIsi, dKind, tInt, tOnly, List.map_cons, List.map_nil, List.length_cons, List.length_nil, List.cons_append, List.nil_append, List.getElem?_cons_zero, List.getElem?_cons_succ, List.set_cons_zero, List.set_cons_succ, List.replicate, Option.some_or, Option.none_or, Option.map_some, Option.map_none, Option.bind_some, Option.bind_none]
theorem one_row (x : Hi.Sit) (h : x.row < 1) : Tb.row one1 x.row = (true, 0, 0) := by
  have : x.row = 0 := by omega
  rw [this]
  rfl
def nxD (q : Bool × Hi.Sit) : D := .tup [.str (sts [q.1]), .str (enc q.2)]
theorem t_nx (zi zq zs wi ws : Str) (p q : Bool) (f : Bool) (z : Str) (d : D) (a0 a4 : Sl) (h1 : gEq (.str wi) (.str ws) = some (.bl p)) (h2 : gIx (.str z) (.int 2) = some (.str zq)) (h3 : gEq (.str zi) (.str zq) = some (.bl q)) : t_next_situations_1 [a0, .val (.str z), .val (.str ws), .val (.bl f), a4, .val (.str zi), .val (.str wi), .val d] = .ok (p && (q || !f)) [a0, .val (.str z), .val (.str ws), .val (.bl f), a4, .val (.str zi), .val (.str wi), .val d] := by
  cases p <;> cases q <;> cases f <;> simp [t_next_situations_1, h1, h2, h3, mkF0, mkF1, fin0, fin1, st0, st1, bnd, Sr.ret, opt, mN, mNB, mB, der, m1, m2, m2b, m2r, mT, asB, mChain, mAnd, mOr, mNot, mAndV, mOrV, mNotV, mIf, mNil, mCons, mTup, mLst, mIsN, mNotN, Sr.isNon, mCal, mCal1, mIsi, mFldB, gFld, mC0, mC1, ap0, ap1, chkO, chkL, putL, mMk, apM, skp, sq, sDrop, sRet, sRetO, sIf, sSet, sSetO, sAsg, sPar, gN, gsN, gsC, gT, gA, sApp, sPutI, sNever, mItems, dItems, mRng, mRng2, gRng, gRng2, sFor, turn, gI, gI0, gLt, gLe, gGt, gGe, gAdd, gAddI, gAddS, gAddT, gAddL, Sr.gSub, gMul, gMulI, gDiv, gMod, gPow, gNeg, gNe, dEq, eqS, gLen, gInt1, gMax2, gMin2, gAbs, gLtT, dInts, putD, gIsi, dKind, tInt, tOnly, List.map_cons, List.map_nil, List.length_cons, List.length_nil, List.cons_append, List.nil_append, List.getElem?_cons_zero, List.getElem?_cons_succ, List.set_cons_zero, List.set_cons_succ, List.replicate, Option.some_or, Option.none_or, Option.map_some, Option.map_none, Option.bind_some, Option.bind_none]
theorem b_nx (L : D) (z zc : Str) (f : Bool) (Q : D) (Os : List D) (E : En) (h0 : f_some_rule .non [] = .ok (ruleO one1) .non) (h1 : f_steps_from .non [ruleO one1, L, .str z] = .ok Q .non) (Y : M D) (hY : mLc [5, 6, 7] (mItems (mN 4)) (gT 3 (gsC (gN 5) (gsC (gN 6) (gsC (gN 7) gsN)))) t_next_situations_1 e_next_situations_1 = Y) (h2 : Y [.val L, .val (.str z), .val (.str zc), .val (.bl f), .val Q, .no, .no, .no] = .ok (.lst Os) E) : f_next_situations .non [L, .str z, .str zc, .bl f] = .ok (.lst Os) .non := by
  generalize ruleO one1 = R at *
  simp only [f_next_situations, b_next_situations, hY]
  simp [h0, h1, h2, mkF0, mkF1, fin0, fin1, st0, st1, bnd, Sr.ret, opt, mN, mNB, mB, der, m1, m2, m2b, m2r, mT, asB, mChain, mAnd, mOr, mNot, mAndV, mOrV, mNotV, mIf, mNil, mCons, mTup, mLst, mIsN, mNotN, Sr.isNon, mCal, mCal1, mIsi, mFldB, gFld, mC0, mC1, ap0, ap1, chkO, chkL, putL, mMk, apM, skp, sq, sDrop, sRet, sRetO, sIf, sSet, sSetO, sAsg, sPar, gN, gsN, gsC, gT, gA, sApp, sPutI, sNever, mItems, dItems, mRng, mRng2, gRng, gRng2, sFor, turn, gI, gI0, gLt, gLe, gGt, gGe, gAdd, gAddI, gAddS, gAddT, gAddL, Sr.gSub, gMul, gMulI, gDiv, gMod, gPow, gNeg, gEq, gNe, dEq, eqS, gLen, gInt1, gMax2, gMin2, gAbs, gIx, gLtT, dInts, putD, gIsi, dKind, tInt, tOnly, List.map_cons, List.map_nil, List.length_cons, List.length_nil, List.cons_append, List.nil_append, List.getElem?_cons_zero, List.getElem?_cons_succ, List.set_cons_zero, List.set_cons_succ, List.replicate, Option.some_or, Option.none_or, Option.map_some, Option.map_none, Option.bind_some, Option.bind_none]
theorem s_nexts (a b n k : Nat) (x : Hi.Sit) (hx : Hi.SitOk a b n k 1 x) (hn : n ≤ 20) (hk2 : k < 10) (c f : Bool) : f_next_situations .non [lim (a : Nat) (b : Nat) (n : Nat) (k : Nat), sitD x, .str (chk [c]), .bl f] = .ok (.lst ((Hi.nexts a b k x c f).map nxD)) .non := by
  have h1 := s_sf one1 one_ok (by decide) a b n k x hx hn hk2
  rw [one_row x hx.row] at h1
  have hlen := hx.len
  have hl4 : (Hi.steps a b k x 0 0).length ≤ 4 := by
    unfold Hi.steps
    exact Nat.le_trans (List.length_filterMap_le _ _) (by simp)
  have hm : mItems (mN 4) [.val (lim (a : Nat) (b : Nat) (n : Nat) (k : Nat)), .val (sitD x), .val (.str (chk [c])), .val (.bl f), .val (.lst ((Hi.steps a b k x 0 0).map stD)), .no, .no, .no] = .ok ((Hi.steps a b k x 0 0).map stD) [.val (lim (a : Nat) (b : Nat) (n : Nat) (k : Nat)), .val (sitD x), .val (.str (chk [c])), .val (.bl f), .val (.lst ((Hi.steps a b k x 0 0).map stD)), .no, .no, .no] := by
    simp [mItems, mN, bnd, opt, dItems]
  have hz2 : (2 : Nat) ≤ sizeLine := by decide
  have h' := lcL_filter (w := gT 3 (gsC (gN 5) (gsC (gN 6) (gsC (gN 7) gsN)))) (t := t_next_situations_1) (el := e_next_situations_1) (vs := [5, 6, 7]) stD (fun q => nxD (q.1, q.2.2)) (fun q => q.2.1 == c && (q.1 == x.st || !f)) [.val (lim (a : Nat) (b : Nat) (n : Nat) (k : Nat)), .val (sitD x), .val (.str (chk [c])), .val (.bl f), .val (.lst ((Hi.steps a b k x 0 0).map stD)), .no, .no, .no] (Hi.steps a b k x 0 0) [] (by simp; omega) (fun q hq => by
    have t := t_nx (sts [q.1]) _ (sts [q.1]) (chk [q.2.1]) (chk [c]) (q.2.1 == c) (q.1 == x.st) f (enc x) (sitD q.2.2) (.val (lim (a : Nat) (b : Nat) (n : Nat) (k : Nat))) (.val (.lst ((Hi.steps a b k x 0 0).map stD))) (eq_c1 _ _) (enc_st x (by omega)) (eq_s1 _ _)
    exact ⟨_, _, rfl, t, fun _ => rfl, fun _ => ⟨[.val (lim (a : Nat) (b : Nat) (n : Nat) (k : Nat)), .val (sitD x), .val (.str (chk [c])), .val (.bl f), .val (.lst ((Hi.steps a b k x 0 0).map stD)), .val (.str (sts [q.1])), .val (.str (chk [q.2.1])), .val (sitD q.2.2)], by simp [e_next_situations_1, nxD, sitD, hz2, mkF0, mkF1, fin0, fin1, st0, st1, bnd, Sr.ret, opt, mN, mNB, mB, der, m1, m2, m2b, m2r, mT, asB, mChain, mAnd, mOr, mNot, mAndV, mOrV, mNotV, mIf, mNil, mCons, mTup, mLst, mIsN, mNotN, Sr.isNon, mCal, mCal1, mIsi, mFldB, gFld, mC0, mC1, ap0, ap1, chkO, chkL, putL, mMk, apM, skp, sq, sDrop, sRet, sRetO, sIf, sSet, sSetO, sAsg, sPar, gN, gsN, gsC, gT, gA, sApp, sPutI, sNever, mItems, dItems, mRng, mRng2, gRng, gRng2, sFor, turn, gI, gI0, gLt, gLe, gGt, gGe, gAdd, gAddI, gAddS, gAddT, gAddL, Sr.gSub, gMul, gMulI, gDiv, gMod, gPow, gNeg, gEq, gNe, dEq, eqS, gLen, gInt1, gMax2, gMin2, gAbs, gIx, gLtT, dInts, putD, gIsi, dKind, tInt, tOnly, List.map_cons, List.map_nil, List.length_cons, List.length_nil, List.cons_append, List.nil_append, List.getElem?_cons_zero, List.getElem?_cons_succ, List.set_cons_zero, List.set_cons_succ, List.replicate, Option.some_or, Option.none_or, Option.map_some, Option.map_none, Option.bind_some, Option.bind_none], rfl⟩⟩)
  have e : (Hi.nexts a b k x c f).map nxD = ((Hi.steps a b k x 0 0).filter fun q => q.2.1 == c && (q.1 == x.st || !f)).map fun q => nxD (q.1, q.2.2) := by
    unfold Hi.nexts
    rw [List.map_map]
    rfl
  rw [e]
  exact b_nx _ (enc x) (chk [c]) f _ _ _ s_some h1 _ rfl (by rw [show D.str (enc x) = sitD x from rfl, mLc_of (vs := [5, 6, 7]) hm h']; rfl)
theorem t_lx (zi zq wi ws : Str) (p q f : Bool) (z : Str) (d : D) (F : List D) (hF : F.length ≤ 100) (a0 j5 j6 j7 : Sl) (h1 : gEq (.str wi) (.str ws) = some (.bl p)) (h2 : gIx (.str z) (.int 2) = some (.str zq)) (h3 : gEq (.str zi) (.str zq) = some (.bl q)) : turn (gT 3 (gsC (gN 5) (gsC (gN 6) (gsC (gN 7) gsN)))) l__law_log_steps_1 (.tup [.str zi, .str wi, d]) [a0, .val (.str z), .val (.str ws), .val (.bl f), .own (.lst F), j5, j6, j7] = .ok .nx [a0, .val (.str z), .val (.str ws), .val (.bl f), .own (.lst (F ++ if (p && (q || !f)) = true then [.tup [.str zi, d]] else [])), .val (.str zi), .val (.str wi), .val d] := by
  have hz : F.length < sizeLine := by
    have e : sizeLine = 16777216 := by decide
    omega
  have hz2 : (2 : Nat) ≤ sizeLine := by decide
  cases p <;> cases q <;> cases f <;> simp [l__law_log_steps_1, h1, h2, h3, hz, hz2, mkF0, mkF1, fin0, fin1, st0, st1, bnd, Sr.ret, opt, mN, mNB, mB, der, m1, m2, m2b, m2r, mT, asB, mChain, mAnd, mOr, mNot, mAndV, mOrV, mNotV, mIf, mNil, mCons, mTup, mLst, mIsN, mNotN, Sr.isNon, mCal, mCal1, mIsi, mFldB, gFld, mC0, mC1, ap0, ap1, chkO, chkL, putL, mMk, apM, skp, sq, sDrop, sRet, sRetO, sIf, sSet, sSetO, sAsg, sPar, gN, gsN, gsC, gT, gA, sApp, sPutI, sNever, mItems, dItems, mRng, mRng2, gRng, gRng2, sFor, turn, gI, gI0, gLt, gLe, gGt, gGe, gAdd, gAddI, gAddS, gAddT, gAddL, Sr.gSub, gMul, gMulI, gDiv, gMod, gPow, gNeg, gNe, dEq, eqS, gLen, gInt1, gMax2, gMin2, gAbs, gLtT, dInts, putD, gIsi, dKind, tInt, tOnly, List.map_cons, List.map_nil, List.length_cons, List.length_nil, List.cons_append, List.nil_append, List.getElem?_cons_zero, List.getElem?_cons_succ, List.set_cons_zero, List.set_cons_succ, List.replicate, Option.some_or, Option.none_or, Option.map_some, Option.map_none, Option.bind_some, Option.bind_none]
theorem f_lx (x : Hi.Sit) (hl : x.fl.length ≤ 100) (c f : Bool) (a0 : Sl) : ∀ (qs : List (Bool × Bool × Hi.Sit)) (F : List D) (j5 j6 j7 : Sl), F.length + qs.length ≤ 100 → ∃ k5 k6 k7, forL (gT 3 (gsC (gN 5) (gsC (gN 6) (gsC (gN 7) gsN)))) l__law_log_steps_1 (qs.map stD) [a0, .val (sitD x), .val (.str (chk [c])), .val (.bl f), .own (.lst F), j5, j6, j7] = .ok .nx [a0, .val (sitD x), .val (.str (chk [c])), .val (.bl f), .own (.lst (F ++ (qs.filter fun q => q.2.1 == c && (q.1 == x.st || !f)).map fun q => nxD (q.1, q.2.2))), k5, k6, k7]
  | [], F, j5, j6, j7, _ => ⟨j5, j6, j7, by simp [forL, skp, Sr.ret]⟩
  | q :: qs, F, j5, j6, j7, h => by
    rw [List.length_cons] at h
    have h1 := t_lx (sts [q.1]) _ (chk [q.2.1]) (chk [c]) (q.2.1 == c) (q.1 == x.st) f (enc x) (sitD q.2.2) F (by omega) a0 j5 j6 j7 (eq_c1 _ _) (enc_st x hl) (eq_s1 _ _)
    have h1 : turn (gT 3 (gsC (gN 5) (gsC (gN 6) (gsC (gN 7) gsN)))) l__law_log_steps_1 (stD q) [a0, .val (sitD x), .val (.str (chk [c])), .val (.bl f), .own (.lst F), j5, j6, j7] = _ := h1
    obtain ⟨k5, k6, k7, h2⟩ := f_lx x hl c f a0 qs (F ++ if (q.2.1 == c && (q.1 == x.st || !f)) = true then [.tup [.str (sts [q.1]), sitD q.2.2]] else []) (.val (.str (sts [q.1]))) (.val (.str (chk [q.2.1]))) (.val (sitD q.2.2)) (by split <;> simp <;> omega)
    refine ⟨k5, k6, k7, ?_⟩
    have h2 : forL (gT 3 (gsC (gN 5) (gsC (gN 6) (gsC (gN 7) gsN)))) l__law_log_steps_1 (qs.map stD) [a0, .val (.str (enc x)), .val (.str (chk [c])), .val (.bl f), _, _, _, _] = _ := h2
    rw [List.map_cons, forL_cons_nx h1, h2, List.filter_cons]
    congr 2
    split <;> simp [nxD, sitD]
theorem b_lx (N : D) (z zc : Str) (f : Bool) (qs Os : List D) (k5 k6 k7 : Sl) (h1 : f__law_steps .non [.tup [.tup [.str "U", .int 0, .int 0]], N, .str z] = .ok (.tup qs) .non) (X : List D → M Fl) (hX : forL (gT 3 (gsC (gN 5) (gsC (gN 6) (gsC (gN 7) gsN)))) l__law_log_steps_1 = X) (h2 : X qs [.val N, .val (.str z), .val (.str zc), .val (.bl f), .own (.lst []), .no, .no, .no] = .ok .nx [.val N, .val (.str z), .val (.str zc), .val (.bl f), .own (.lst Os), k5, k6, k7]) : f__law_log_steps .non [N, .str z, .str zc, .bl f] = .ok (.lst Os) .non := by
  have hz3 : (3 : Nat) ≤ sizeLine := by decide
  have hz1 : (1 : Nat) ≤ sizeLine := by decide
  simp only [f__law_log_steps, b__law_log_steps, sFor, hX]
  simp [h1, h2, hz1, hz3, mkF0, mkF1, fin0, fin1, st0, st1, bnd, Sr.ret, opt, mN, mNB, mB, der, m1, m2, m2b, m2r, mT, asB, mChain, mAnd, mOr, mNot, mAndV, mOrV, mNotV, mIf, mNil, mCons, mTup, mLst, mIsN, mNotN, Sr.isNon, mCal, mCal1, mIsi, mFldB, gFld, mC0, mC1, ap0, ap1, chkO, chkL, putL, mMk, apM, skp, sq, sDrop, sRet, sRetO, sIf, sSet, sSetO, sAsg, sPar, gN, gsN, gsC, gT, gA, sApp, sPutI, sNever, mItems, dItems, mRng, mRng2, gRng, gRng2, turn, gI, gI0, gLt, gLe, gGt, gGe, gAdd, gAddI, gAddS, gAddT, gAddL, Sr.gSub, gMul, gMulI, gDiv, gMod, gPow, gNeg, gEq, gNe, dEq, eqS, gLen, gInt1, gMax2, gMin2, gAbs, gIx, gLtT, dInts, putD, gIsi, dKind, tInt, tOnly, List.map_cons, List.map_nil, List.length_cons, List.length_nil, List.cons_append, List.nil_append, List.getElem?_cons_zero, List.getElem?_cons_succ, List.set_cons_zero, List.set_cons_succ, List.replicate, Option.some_or, Option.none_or, Option.map_some, Option.map_none, Option.bind_some, Option.bind_none]
theorem s_lsteps (a b n k : Nat) (x : Hi.Sit) (hx : Hi.SitOk a b n k 1 x) (hn : n ≤ 20) (hk2 : k < 10) (c f : Bool) : f__law_log_steps .non [nums (a : Nat) (b : Nat) (n : Nat) (k : Nat), sitD x, .str (chk [c]), .bl f] = .ok (.lst ((Hi.nexts a b k x c f).map nxD)) .non := by
  have h1 := s_ls one1 one_ok (by decide) a b n k x hx hn hk2
  rw [one_row x hx.row] at h1
  have e : encT one1 = .tup [.tup [.str "U", .int 0, .int 0]] := by rfl
  rw [e] at h1
  have hlen := hx.len
  have hl4 : (Hi.steps a b k x 0 0).length ≤ 4 := by
    unfold Hi.steps
    exact Nat.le_trans (List.length_filterMap_le _ _) (by simp)
  obtain ⟨k5, k6, k7, h2⟩ := f_lx x (by omega) c f (.val (nums (a : Nat) (b : Nat) (n : Nat) (k : Nat))) (Hi.steps a b k x 0 0) [] .no .no .no (by simp; omega)
  have e : (Hi.nexts a b k x c f).map nxD = ((Hi.steps a b k x 0 0).filter fun q => q.2.1 == c && (q.1 == x.st || !f)).map fun q => nxD (q.1, q.2.2) := by
    unfold Hi.nexts
    rw [List.map_map]
    rfl
  rw [e]
  exact b_lx _ (enc x) (chk [c]) f _ _ k5 k6 k7 h1 _ rfl h2
def pE (p : Int × Str) : D := .tup [.int p.1, .str p.2]
def fwD (v : Hi.Fw) : D := .tup [.int ((v.1 : Nat) : Int), .str (sts v.2)]
def opD : Option Hi.Fw → D
  | none => .non
  | some v => fwD v
def bstD (l : Hi.BL) : List (Key × D) := l.map fun p => (.inr (enc p.1), fwD p.2)
structure Binv (a b n k m : Nat) (l : Hi.BL) : Prop where
  ndB : (l.map (·.1)).Nodup
  okB : ∀ p ∈ l, Hi.SitOk a b n k 1 p.1
  lnB : ∀ p ∈ l, p.2.2.length = m
theorem binvLen {a b n k m : Nat} {l : Hi.BL} (h : Binv a b n k m l) (hn5 : n ≤ 5) (hk4 : k ≤ 4) : l.length ≤ 1000 := by
  have := Hi.sits_len hn5 hk4 h.ndB (fun x hx => by
    rw [List.mem_map] at hx
    obtain ⟨p, hp, rfl⟩ := hx
    exact h.okB p hp)
  rw [List.length_map] at this
  exact this
theorem binvNil (a b n k m : Nat) : Binv a b n k m [] := ⟨by simp, fun p h => by simp at h, fun p h => by simp at h⟩
theorem binvAdd {a b n k m : Nat} {l : Hi.BL} (h : Binv a b n k m l) {r : Hi.Sit × Hi.Fw} (hy : Hi.SitOk a b n k 1 r.1) (hm : r.2.2.length = m) : Binv a b n k m (Hi.addB l r) := ⟨Hi.addB_keys l r h.ndB, fun p hp => by
  rcases (Hi.addB_mem hp).1 with hp | e
  · rw [List.mem_map] at hp
    obtain ⟨q, hq, e⟩ := hp
    rw [← e]; exact h.okB q hq
  · rw [e]; exact hy, fun p hp => by
  rcases (Hi.addB_mem hp).2 with hp | e
  · rw [List.mem_map] at hp
    obtain ⟨q, hq, e⟩ := hp
    rw [← e]; exact h.lnB q hq
  · rw [e]; exact hm⟩
theorem key_uniqB : ∀ {l : Hi.BL}, (l.map (·.1)).Nodup → ∀ {p q : Hi.Sit × Hi.Fw}, p ∈ l → q ∈ l → p.1 = q.1 → p = q
  | [], _, _, _, hp, _, _ => by simp at hp
  | r :: l, nd, p, q, hp, hq, e => by
    rw [List.map_cons] at nd
    unfold List.Nodup at nd
    rw [List.pairwise_cons] at nd
    rcases List.mem_cons.1 hp with h1 | h1 <;> rcases List.mem_cons.1 hq with h2 | h2
    · rw [h1, h2]
    · rw [h1] at e; exact absurd e (nd.1 _ (List.mem_map.2 ⟨q, h2, rfl⟩))
    · rw [h2] at e; exact absurd e.symm (nd.1 _ (List.mem_map.2 ⟨p, h1, rfl⟩))
    · exact key_uniqB nd.2 h1 h2 e
theorem enc_iff {a b n k : Nat} {x y : Hi.Sit} (hx : Hi.SitOk a b n k 1 x) (hy : Hi.SitOk a b n k 1 y) : ((Sum.inr (enc x) : Key) = .inr (enc y)) ↔ x = y := by
  have h1 := hx.row
  have h2 := hy.row
  constructor
  · intro h; exact enc_inj (by omega) (by omega) (Sum.inr.inj h)
  · intro h; rw [h]
def curB (l : Hi.BL) (y : Hi.Sit) : Option Hi.Fw := (l.find? fun p => decide (p.1 = y)).map (·.2)
def bet (o : Option Hi.Fw) (v : Hi.Fw) : Hi.Fw := match o with
  | none => v
  | some u => Hi.minv v u
theorem val_bst {a b n k : Nat} {y : Hi.Sit} (hy : Hi.SitOk a b n k 1 y) : ∀ l : Hi.BL, (∀ p ∈ l, Hi.SitOk a b n k 1 p.1) → valD (bstD l) (.inr (enc y)) = (curB l y).map fwD
  | [], _ => rfl
  | p :: l, h => by
    have ih := val_bst hy l (fun q hq => h q (by simp [hq]))
    unfold valD bstD curB at ih ⊢
    rw [List.map_cons, List.find?_cons, List.find?_cons]
    by_cases e : p.1 = y
    · rw [decide_eq_true e, decide_eq_true ((enc_iff (h p (by simp)) hy).2 e)]
      rfl
    · rw [decide_eq_false e, decide_eq_false (fun z => e ((enc_iff (h p (by simp)) hy).1 z))]
      exact ih
theorem put_bst {a b n k m : Nat} {l : Hi.BL} (h : Binv a b n k m l) {y : Hi.Sit} (hy : Hi.SitOk a b n k 1 y) (v : Hi.Fw) : putG (bstD l) (.inr (enc y)) (fwD (bet (curB l y) v)) = bstD (Hi.addB l (y, v)) := by
  have hany : ((bstD l).any fun kv => decide (kv.1 = (Sum.inr (enc y) : Key))) = l.any fun p => decide (p.1 = y) := by
    unfold bstD
    rw [List.any_map]
    rw [Bool.eq_iff_iff, List.any_eq_true, List.any_eq_true]
    constructor
    · rintro ⟨p, hp, q⟩
      exact ⟨p, hp, decide_eq_true ((enc_iff (h.okB p hp) hy).1 (of_decide_eq_true q))⟩
    · rintro ⟨p, hp, q⟩
      exact ⟨p, hp, decide_eq_true ((enc_iff (h.okB p hp) hy).2 (of_decide_eq_true q))⟩
  unfold putG Hi.addB
  rw [hany]
  by_cases c : (l.any fun p => decide (p.1 = y)) = true
  · rw [if_pos c, if_pos c]
    unfold bstD
    rw [List.map_map, List.map_map]
    refine List.map_congr_left fun q hq => ?_
    show (if (Sum.inr (enc q.1) : Key) = .inr (enc y) then ((Sum.inr (enc q.1) : Key), fwD (bet (curB l y) v)) else (.inr (enc q.1), fwD q.2)) = ((Sum.inr (enc (if q.1 = y then (q.1, Hi.minv v q.2) else q).1) : Key), fwD (if q.1 = y then (q.1, Hi.minv v q.2) else q).2)
    by_cases z : q.1 = y
    · rw [if_pos ((enc_iff (h.okB q hq) hy).2 z), if_pos z]
      have hc : curB l y = some q.2 := by
        unfold curB
        cases f : l.find? fun p => decide (p.1 = y) with
        | none =>
          rw [List.find?_eq_none] at f
          exact absurd (decide_eq_true z) (f q hq)
        | some p =>
          have h0 : decide (p.1 = y) = true := List.find?_some (p := fun p : Hi.Sit × Hi.Fw => decide (p.1 = y)) f
          have := key_uniqB h.ndB (List.mem_of_find?_eq_some f) hq ((of_decide_eq_true h0).trans z.symm)
          rw [this]
          rfl
      rw [hc]
      rfl
    · rw [if_neg (fun z' => z ((enc_iff (h.okB q hq) hy).1 z')), if_neg z]
  · have hc : curB l y = none := by
      unfold curB
      rw [Option.map_eq_none_iff, List.find?_eq_none]
      intro p hp z
      exact c (List.any_eq_true.2 ⟨p, hp, z⟩)
    rw [if_neg c, if_neg c, hc]
    unfold bstD
    rw [List.map_append]
    rfl
theorem same_bst {a b n k m : Nat} {l : Hi.BL} (h : Binv a b n k m l) {y : Hi.Sit} {v u : Hi.Fw} (hc : curB l y = some u) (hl : Hi.ltv v u = false) : Hi.addB l (y, v) = l := by
  unfold curB at hc
  rw [Option.map_eq_some_iff] at hc
  obtain ⟨p, f, e⟩ := hc
  have h0 : decide (p.1 = y) = true := List.find?_some (p := fun p : Hi.Sit × Hi.Fw => decide (p.1 = y)) f
  have hp := List.mem_of_find?_eq_some f
  unfold Hi.addB
  rw [if_pos (List.any_eq_true.2 ⟨p, hp, h0⟩)]
  refine (List.map_congr_left fun q hq => ?_).trans (List.map_id l)
  show (if q.1 = y then (q.1, Hi.minv v q.2) else q) = q
  split
  · rename_i z
    have := key_uniqB h.ndB hq hp (z.trans (of_decide_eq_true h0).symm)
    have e2 : q.2 = u := by rw [this]; exact e
    have : Hi.minv v q.2 = q.2 := by
      unfold Hi.minv
      rw [e2, hl]
      rfl
    rw [this]
  · rfl
theorem lt_sts (v u : Hi.Fw) : ltIS ((v.1 : Nat) : Int) ((u.1 : Nat) : Int) (sts v.2) (sts u.2) = Hi.ltv v u := by
  unfold ltIS Hi.ltv
  have e : ∀ s : List Bool, (sts s).cps.toList = s.map Hi.ud := fun s => by
    unfold sts
    rfl
  rw [e, e]
  by_cases h : v.1 = u.1
  · rw [if_pos h, if_pos (by omega)]
  · rw [if_neg h, if_neg (by omega)]
    by_cases g : v.1 < u.1
    · rw [decide_eq_true g, decide_eq_true (by omega)]
    · rw [decide_eq_false g, decide_eq_false (by omega)]
theorem lt_fw (v u : Hi.Fw) : gLtIS (fwD v) (fwD u) = some (.bl (Hi.ltv v u)) := by
  rw [← lt_sts]
  rfl
theorem ne_fl (s c : Bool) : gNe (.str (S [fcd s c])) (.str ".") = some (.bl (!(s == c))) := by cases s <;> cases c <;> kernel_rfl
theorem int_dif (s c : Bool) : gInt1 [.bl (!(s == c))] = some (.int (Hi.dif s c : Nat)) := by cases s <;> cases c <;> rfl
theorem add_nat (x y : Nat) : gAdd (.int (x : Nat)) (.int (y : Nat)) = some (.int ((x + y : Nat) : Int)) := rfl
section
variable (a0 a1 a2 a3 a6 a12 : Sl)
theorem b_fe1 (K : List (Key × D)) (K' w : D) (zi zy zc zf zs zs' : Str) (e e' ip : Int) (p N B : Bool) (j9 j10 j11 : Sl) (hf : f_flag_of .non [.str zi, .str zc] = .ok (.str zf) .non) (ne : gNe (.str zf) (.str ".") = some (.bl p)) (ii : gInt1 [.bl p] = some (.int ip)) (ad : gAdd (.int e) (.int ip) = some (.int e')) (as : gAdd (.str zs) (.str zi) = some (.str zs')) (n : gDnot (.str zy) (.dk K) = some (.bl N)) (g : N = false → gDg (.dk K) (.str zy) = some w ∧ gLtIS (pE (e', zs')) w = some (.bl B)) (q : gPutD (.dk K) (.str zy) (pE (e', zs')) = some K') :
    turn (gT 2 (gsC (gN 9) (gsC (gN 10) gsN))) l_fewest_errors_1 (.tup [.str zi, .str zy]) [a0, a1, a2, a3, .val (.str zc), .own (.dk K), a6, .val (.int e), .val (.str zs), j9, j10, j11, a12] = .ok .nx [a0, a1, a2, a3, .val (.str zc), .own (if (N || B) = true then K' else .dk K), a6, .val (.int e), .val (.str zs), .val (.str zi), .val (.str zy), .val (pE (e', zs')), a12] := by
  have hz2 : (2 : Nat) ≤ sizeLine := by decide
  simp only [pE] at *
  cases N
  · obtain ⟨g1, g2⟩ := g rfl
    cases B <;> simp [l_fewest_errors_1, sPutD, putDD, chkD, isDct, hf, ne, ii, ad, as, n, g1, g2, q, hz2, mkF0, mkF1, fin0, fin1, st0, st1, bnd, Sr.ret, opt, mN, mNB, mB, der, m1, m2, m2b, m2r, mT, asB, mChain, mAnd, mOr, mNot, mAndV, mOrV, mNotV, mIf, mNil, mCons, mTup, mLst, mIsN, mNotN, Sr.isNon, mCal, mCal1, mIsi, mFldB, gFld, mC0, mC1, ap0, ap1, chkO, chkL, putL, mMk, apM, skp, sq, sDrop, sRet, sRetO, sIf, sSet, sSetO, sAsg, sPar, gN, gsN, gsC, gT, gA, sApp, sPutI, sNever, mItems, dItems, mRng, mRng2, gRng, gRng2, sFor, turn, gI, gI0, gLt, gLe, gGt, gGe, gAddI, gAddS, gAddT, gAddL, Sr.gSub, gMul, gMulI, gDiv, gMod, gPow, gNeg, gEq, dEq, eqS, gLen, gMax2, gMin2, gAbs, gIx, gLtT, dInts, putD, gIsi, dKind, tInt, tOnly, List.map_cons, List.map_nil, List.length_cons, List.length_nil, List.cons_append, List.nil_append, List.getElem?_cons_zero, List.getElem?_cons_succ, List.set_cons_zero, List.set_cons_succ, List.replicate, Option.some_or, Option.none_or, Option.map_some, Option.map_none, Option.bind_some, Option.bind_none]
  · simp [l_fewest_errors_1, sPutD, putDD, chkD, isDct, hf, ne, ii, ad, as, n, q, hz2, mkF0, mkF1, fin0, fin1, st0, st1, bnd, Sr.ret, opt, mN, mNB, mB, der, m1, m2, m2b, m2r, mT, asB, mChain, mAnd, mOr, mNot, mAndV, mOrV, mNotV, mIf, mNil, mCons, mTup, mLst, mIsN, mNotN, Sr.isNon, mCal, mCal1, mIsi, mFldB, gFld, mC0, mC1, ap0, ap1, chkO, chkL, putL, mMk, apM, skp, sq, sDrop, sRet, sRetO, sIf, sSet, sSetO, sAsg, sPar, gN, gsN, gsC, gT, gA, sApp, sPutI, sNever, mItems, dItems, mRng, mRng2, gRng, gRng2, sFor, turn, gI, gI0, gLt, gLe, gGt, gGe, gAddI, gAddS, gAddT, gAddL, Sr.gSub, gMul, gMulI, gDiv, gMod, gPow, gNeg, gEq, dEq, eqS, gLen, gMax2, gMin2, gAbs, gIx, gLtT, dInts, putD, gIsi, dKind, tInt, tOnly, List.map_cons, List.map_nil, List.length_cons, List.length_nil, List.cons_append, List.nil_append, List.getElem?_cons_zero, List.getElem?_cons_succ, List.set_cons_zero, List.set_cons_succ, List.replicate, Option.some_or, Option.none_or, Option.map_some, Option.map_none, Option.bind_some, Option.bind_none]
theorem f_fe1 {a b n k m : Nat} (hn5 : n ≤ 5) (hk4 : k ≤ 4) (c : Bool) (v : Hi.Fw) (hv : v.2.length + 1 = m) (hm : m ≤ 500) : ∀ (qs : List (Bool × Hi.Sit)) (l : Hi.BL) (j9 j10 j11 : Sl), Binv a b n k m l → (∀ q ∈ qs, Hi.SitOk a b n k 1 q.2) → ∃ k9 k10 k11, forL (gT 2 (gsC (gN 9) (gsC (gN 10) gsN))) l_fewest_errors_1 (qs.map nxD) [a0, a1, a2, a3, .val (.str (chk [c])), .own (.dk (bstD l)), a6, .val (.int (v.1 : Nat)), .val (.str (sts v.2)), j9, j10, j11, a12] = .ok .nx [a0, a1, a2, a3, .val (.str (chk [c])), .own (.dk (bstD ((qs.map fun q => (q.2, (v.1 + Hi.dif q.1 c, v.2 ++ [q.1]))).foldl Hi.addB l))), a6, .val (.int (v.1 : Nat)), .val (.str (sts v.2)), k9, k10, k11, a12] ∧ Binv a b n k m ((qs.map fun q => (q.2, (v.1 + Hi.dif q.1 c, v.2 ++ [q.1]))).foldl Hi.addB l)
  | [], l, j9, j10, j11, hi, _ => ⟨j9, j10, j11, rfl, hi⟩
  | q :: qs, l, j9, j10, j11, hi, h => by
    have hy := h q (by simp)
    have hc := val_bst hy l hi.okB
    have as := add_s v.2 [q.1] (by simp; omega)
    have pb := put_bst hi hy (v.1 + Hi.dif q.1 c, v.2 ++ [q.1])
    have hlen := binvLen hi hn5 hk4
    have hi2 := binvAdd hi (r := (q.2, (v.1 + Hi.dif q.1 c, v.2 ++ [q.1]))) hy (by simp; omega)
    have pq : ∀ w, gPutD (.dk (bstD l)) (.str (enc q.2)) w = some (.dk (putG (bstD l) (.inr (enc q.2)) w)) := fun w => by
      have hz : (bstD l).length < sizeLine := by
        have e : sizeLine = 16777216 := by decide
        unfold bstD; rw [List.length_map]; omega
      have e0 : gPutD (.dk (bstD l)) (.str (enc q.2)) w = if (bstD l).length < sizeLine then (dKey (.str (enc q.2))).map (fun k => D.dk (putG (bstD l) k w)) else none := rfl
      rw [e0, if_pos hz]
      rfl
    have hn : gDnot (.str (enc q.2)) (.dk (bstD l)) = some (.bl (!(valD (bstD l) (.inr (enc q.2))).isSome)) := rfl
    have hg : gDg (.dk (bstD l)) (.str (enc q.2)) = valD (bstD l) (.inr (enc q.2)) := by
      show (some (valD (bstD l) (.inr (enc q.2)))).bind id = _
      rfl
    rw [hc] at hn hg
    have key : ∃ K' N B w, gDnot (.str (enc q.2)) (.dk (bstD l)) = some (.bl N) ∧ (N = false → gDg (.dk (bstD l)) (.str (enc q.2)) = some w ∧ gLtIS (pE (((v.1 + Hi.dif q.1 c : Nat) : Int), sts (v.2 ++ [q.1]))) w = some (.bl B)) ∧ gPutD (.dk (bstD l)) (.str (enc q.2)) (pE (((v.1 + Hi.dif q.1 c : Nat) : Int), sts (v.2 ++ [q.1]))) = some K' ∧ (if (N || B) = true then K' else .dk (bstD l)) = D.dk (bstD (Hi.addB l (q.2, (v.1 + Hi.dif q.1 c, v.2 ++ [q.1])))) := by
      cases hcur : curB l q.2 with
      | none =>
        rw [hcur] at hn hg pb
        exact ⟨_, true, false, .non, hn, (fun z => absurd z (by decide)), pq _, congrArg D.dk pb⟩
      | some u =>
        rw [hcur] at hn hg pb
        refine ⟨_, false, Hi.ltv (v.1 + Hi.dif q.1 c, v.2 ++ [q.1]) u, fwD u, hn, (fun _ => ⟨hg, lt_fw (v.1 + Hi.dif q.1 c, v.2 ++ [q.1]) u⟩), pq _, ?_⟩
        cases hb : Hi.ltv (v.1 + Hi.dif q.1 c, v.2 ++ [q.1]) u with
        | true =>
          have e : bet (some u) (v.1 + Hi.dif q.1 c, v.2 ++ [q.1]) = (v.1 + Hi.dif q.1 c, v.2 ++ [q.1]) := by
            show Hi.minv _ _ = _
            unfold Hi.minv
            rw [if_pos hb]
          rw [e] at pb
          exact congrArg D.dk pb
        | false =>
          rw [same_bst hi hcur hb]
          rfl
    obtain ⟨K', N, B, w, h1, h2, h3, h4⟩ := key
    have t := b_fe1 a0 a1 a2 a3 a6 a12 (bstD l) K' w (sts [q.1]) (enc q.2) (chk [c]) _ (sts v.2) _ (v.1 : Nat) _ _ _ N B j9 j10 j11 (s_flagP q.1 c) (ne_fl q.1 c) (int_dif q.1 c) (add_nat _ _) as h1 h2 h3
    rw [h4] at t
    obtain ⟨k9, k10, k11, ih, hl⟩ := f_fe1 hn5 hk4 c v hv hm qs _ (.val (.str (sts [q.1]))) (.val (.str (enc q.2))) (.val (pE (((v.1 + Hi.dif q.1 c : Nat) : Int), sts (v.2 ++ [q.1])))) hi2 (fun q' hq' => h q' (by simp [hq']))
    exact ⟨k9, k10, k11, by rw [List.map_cons]; exact (forL_cons_nx t).trans ih, hl⟩
end
theorem b_fe2 (L d : D) (zc zs : Str) (m i : Int) (f : Bool) (qs : List D) (a1 a2 : Sl) (K : D) (E : En) (j6 j7 j8 j9 j10 j11 j12 : Sl) (he : gEq (.int i) (.int 0) = some (.bl f)) (h1 : f_next_situations .non [L, d, .str zc, .bl f] = .ok (.lst qs) .non) (X : List D → M Fl) (hX : forL (gT 2 (gsC (gN 9) (gsC (gN 10) gsN))) l_fewest_errors_1 = X)
    (h : X qs [.val L, a1, a2, .val (.int i), .val (.str zc), .own K, .val d, .val (.int m), .val (.str zs), j9, j10, j11, j12] = .ok .nx E) : turn (gT 2 (gsC (gN 6) (gsC (gT 2 (gsC (gN 7) (gsC (gN 8) gsN))) gsN))) l_fewest_errors_2 (.tup [d, .tup [.int m, .str zs]]) [.val L, a1, a2, .val (.int i), .val (.str zc), .own K, j6, j7, j8, j9, j10, j11, j12] = .ok .nx E := by
  simp only [l_fewest_errors_2, sFor, hX]
  simp [he, h1, h, mkF0, mkF1, fin0, fin1, st0, st1, bnd, Sr.ret, opt, mN, mNB, mB, der, m1, m2, m2b, m2r, mT, asB, mChain, mAnd, mOr, mNot, mAndV, mOrV, mNotV, mIf, mNil, mCons, mTup, mLst, mIsN, mNotN, Sr.isNon, mCal, mCal1, mIsi, mFldB, gFld, mC0, mC1, ap0, ap1, chkO, chkL, putL, mMk, apM, skp, sq, sDrop, sRet, sRetO, sIf, sSet, sSetO, sAsg, sPar, gN, gsN, gsC, gT, gA, sApp, sPutI, sNever, mItems, dItems, mRng, mRng2, gRng, gRng2, turn, gI, gI0, gLt, gLe, gGt, gGe, gAdd, gAddI, gAddS, gAddT, gAddL, Sr.gSub, gMul, gMulI, gDiv, gMod, gPow, gNeg, gNe, dEq, eqS, gLen, gInt1, gMax2, gMin2, gAbs, gIx, gLtT, dInts, putD, gIsi, dKind, tInt, tOnly, List.map_cons, List.map_nil, List.length_cons, List.length_nil, List.cons_append, List.nil_append, List.getElem?_cons_zero, List.getElem?_cons_succ, List.set_cons_zero, List.set_cons_succ, List.replicate, Option.some_or, Option.none_or, Option.map_some, Option.map_none, Option.bind_some, Option.bind_none]
theorem items_bst (l : Hi.BL) : itemsD (bstD l) = l.map fun p => D.tup [sitD p.1, fwD p.2] := by
  unfold itemsD bstD
  rw [List.map_map]
  rfl
theorem f_fe2 {a b n k m : Nat} (hn : 1 ≤ n) (hn5 : n ≤ 5) (hk4 : k ≤ 4) (hm : m + 1 ≤ 500) (c f : Bool) (i : Int) (he : gEq (.int i) (.int 0) = some (.bl f)) (a1 a2 : Sl) : ∀ (l acc : Hi.BL) (j6 j7 j8 j9 j10 j11 j12 : Sl), (∀ p ∈ l, Hi.SitOk a b n k 1 p.1 ∧ p.2.2.length = m) → Binv a b n k (m + 1) acc → ∃ k6 k7 k8 k9 k10 k11 k12, forL (gT 2 (gsC (gN 6) (gsC (gT 2 (gsC (gN 7) (gsC (gN 8) gsN))) gsN))) l_fewest_errors_2 (l.map fun p => D.tup [sitD p.1, fwD p.2]) [.val (lim (a : Nat) (b : Nat) (n : Nat) (k : Nat)), a1, a2, .val (.int i), .val (.str (chk [c])), .own (.dk (bstD acc)), j6, j7, j8, j9, j10, j11, j12] = .ok .nx [.val (lim (a : Nat) (b : Nat) (n : Nat) (k : Nat)), a1, a2, .val (.int i), .val (.str (chk [c])), .own (.dk (bstD (l.foldl (fun acc p => (Hi.ext a b k p c f).foldl Hi.addB acc) acc))), k6, k7, k8, k9, k10, k11, k12]
  | [], acc, j6, j7, j8, j9, j10, j11, j12, _, _ => ⟨j6, j7, j8, j9, j10, j11, j12, rfl⟩
  | p :: l, acc, j6, j7, j8, j9, j10, j11, j12, h, hi => by
    have hp := (h p (by simp)).1
    have hq := (h p (by simp)).2
    have q1 := s_nexts a b n k p.1 hp (by omega) (by omega) c f
    obtain ⟨k9, k10, k11, f1, i1⟩ := f_fe1 (.val (lim (a : Nat) (b : Nat) (n : Nat) (k : Nat))) a1 a2 (.val (.int i)) (.val (sitD p.1)) j12 hn5 hk4 c p.2 (m := m + 1) (by omega) hm (Hi.nexts a b k p.1 c f) acc j9 j10 j11 hi (fun q hq => Hi.next_ok hp (s := q.1) hq)
    have t1 := b_fe2 (lim (a : Nat) (b : Nat) (n : Nat) (k : Nat)) (sitD p.1) (chk [c]) (sts p.2.2) (p.2.1 : Nat) i f _ a1 a2 (.dk (bstD acc)) _ j6 j7 j8 j9 j10 j11 j12 he q1 _ rfl f1
    obtain ⟨m6, m7, m8, m9, m10, m11, m12, ih⟩ := f_fe2 hn hn5 hk4 hm c f i he a1 a2 l _ (.val (sitD p.1)) (.val (.int (p.2.1 : Nat))) (.val (.str (sts p.2.2))) k9 k10 k11 j12 (fun q hq => h q (by simp [hq])) i1
    exact ⟨m6, m7, m8, m9, m10, m11, m12, by rw [List.map_cons]; exact (forL_cons_nx t1).trans ih⟩
theorem b_fe3 (L Z K : D) (zc : Str) (i : Int) (ds : List (Key × D)) (ts : List D) (hds : itemsD ds = ts) (j3 j4 j5 j6 j7 j8 j9 j10 j11 j12 k6 k7 k8 k9 k10 k11 k12 : Sl) (X : List D → M Fl) (hX : forL (gT 2 (gsC (gN 6) (gsC (gT 2 (gsC (gN 7) (gsC (gN 8) gsN))) gsN))) l_fewest_errors_2 = X)
    (h : X ts [.val L, .val Z, .no, .val (.int i), .val (.str zc), .own (.dk []), j6, j7, j8, j9, j10, j11, j12] = .ok .nx [.val L, .val Z, .no, .val (.int i), .val (.str zc), .own K, k6, k7, k8, k9, k10, k11, k12]) :
    turn (gT 2 (gsC (gN 3) (gsC (gN 4) gsN))) l_fewest_errors_3 (.tup [.int i, .str zc]) [.val L, .val Z, .own (.dk ds), j3, j4, j5, j6, j7, j8, j9, j10, j11, j12] = .ok .nx [.val L, .val Z, .own K, .val (.int i), .val (.str zc), .no, k6, k7, k8, k9, k10, k11, k12] := by
  simp only [l_fewest_errors_3]
  simp [sForI, sMove, hds, hX, h, mkF0, mkF1, fin0, fin1, st0, st1, bnd, Sr.ret, opt, mN, mNB, mB, der, m1, m2, m2b, m2r, mT, asB, mChain, mAnd, mOr, mNot, mAndV, mOrV, mNotV, mIf, mNil, mCons, mTup, mLst, mIsN, mNotN, Sr.isNon, mCal, mCal1, mIsi, mFldB, gFld, mC0, mC1, ap0, ap1, chkO, chkL, putL, mMk, apM, skp, sq, sDrop, sRet, sRetO, sIf, sSet, sSetO, sAsg, sPar, gN, gsN, gsC, gT, gA, sApp, sPutI, sNever, mItems, dItems, mRng, mRng2, gRng, gRng2, sFor, turn, gI, gI0, gLt, gLe, gGt, gGe, gAdd, gAddI, gAddS, gAddT, gAddL, Sr.gSub, gMul, gMulI, gDiv, gMod, gPow, gNeg, gEq, gNe, dEq, eqS, gLen, gInt1, gMax2, gMin2, gAbs, gIx, gLtT, dInts, putD, gIsi, dKind, tInt, tOnly, List.map_cons, List.map_nil, List.length_cons, List.length_nil, List.cons_append, List.nil_append, List.getElem?_cons_zero, List.getElem?_cons_succ, List.set_cons_zero, List.set_cons_succ, List.replicate, Option.some_or, Option.none_or, Option.map_some, Option.map_none, Option.bind_some, Option.bind_none]
theorem f_fe3 {a b n k : Nat} (hn : 1 ≤ n) (hk : 1 ≤ k) (hn5 : n ≤ 5) (hk4 : k ≤ 4) (Z : D) : ∀ (cs w : List Bool) (j3 j4 j5 j6 j7 j8 j9 j10 j11 j12 : Sl), w.length + cs.length ≤ 100 → ∃ k3 k4 k5 k6 k7 k8 k9 k10 k11 k12, forL (gT 2 (gsC (gN 3) (gsC (gN 4) gsN))) l_fewest_errors_3 ((cs.zipIdx w.length).map fun q => D.tup [.int (q.2 : Nat), .str (chk [q.1])]) [.val (lim (a : Nat) (b : Nat) (n : Nat) (k : Nat)), .val Z, .own (.dk (bstD (Hi.bests a b n k w.reverse))), j3, j4, j5, j6, j7, j8, j9, j10, j11, j12] = .ok .nx [.val (lim (a : Nat) (b : Nat) (n : Nat) (k : Nat)), .val Z, .own (.dk (bstD (Hi.bests a b n k (w ++ cs).reverse))), k3, k4, k5, k6, k7, k8, k9, k10, k11, k12]
  | [], w, j3, j4, j5, j6, j7, j8, j9, j10, j11, j12, _ => ⟨j3, j4, j5, j6, j7, j8, j9, j10, j11, j12, by simp [forL, skp, Sr.ret]⟩
  | c :: cs, w, j3, j4, j5, j6, j7, j8, j9, j10, j11, j12, hl => by
    rw [List.length_cons] at hl
    have he : gEq (.int ((w.length : Nat) : Int)) (.int 0) = some (.bl w.reverse.isEmpty) := by
      have : decide (((w.length : Nat) : Int) = 0) = w.reverse.isEmpty := by
        rw [Bool.eq_iff_iff, decide_eq_true_eq, List.isEmpty_iff, List.reverse_eq_nil_iff]
        constructor
        · intro h; exact List.length_eq_zero_iff.1 (by omega)
        · rintro rfl; rfl
      simp only [gEq, dEq, eqS]
      rw [this]; rfl
    obtain ⟨u6, u7, u8, u9, u10, u11, u12, f⟩ := f_fe2 (a := a) (b := b) (m := w.length) hn hn5 hk4 (by omega) c w.reverse.isEmpty (w.length : Nat) he (.val Z) .no (Hi.bests a b n k w.reverse) [] j6 j7 j8 j9 j10 j11 j12 (fun p hp => ⟨Hi.bests_ok hn hk w.reverse p hp, by rw [Hi.bests_val hn hk w.reverse p hp, List.length_reverse]⟩) (binvNil a b n k _)
    have t := b_fe3 (lim (a : Nat) (b : Nat) (n : Nat) (k : Nat)) Z _ (chk [c]) (w.length : Nat) _ _ (items_bst (Hi.bests a b n k w.reverse)) j3 j4 j5 j6 j7 j8 j9 j10 j11 j12 u6 u7 u8 u9 u10 u11 u12 _ rfl f
    have e : (Hi.bests a b n k w.reverse).foldl (fun acc p => (Hi.ext a b k p c w.reverse.isEmpty).foldl Hi.addB acc) [] = Hi.bests a b n k (w ++ [c]).reverse := by
      rw [List.reverse_append]; rfl
    rw [e] at t
    obtain ⟨k3, k4, k5, k6, k7, k8, k9, k10, k11, k12, h2⟩ := f_fe3 hn hk hn5 hk4 Z cs (w ++ [c]) (.val (.int (w.length : Nat))) (.val (.str (chk [c]))) .no u6 u7 u8 u9 u10 u11 u12 (by simp; omega)
    rw [List.length_append, List.length_singleton] at h2
    refine ⟨k3, k4, k5, k6, k7, k8, k9, k10, k11, k12, ?_⟩
    rw [List.zipIdx_cons, List.map_cons, forL_cons_nx t, h2]
    simp
theorem y_fe (L : D) (z e1 e2 : Str) (hb : f_beginnings .non [L] = .ok (.lst [.str e1, .str e2]) .non) (hne : e1 ≠ e2) : mDc [6] (mItems (mC0 f_beginnings [] (mCons (mN 0) mNil))) (gN 6) t_fewest_errors_1 t_fewest_errors_1k e_fewest_errors_1 [.val L, .val (.str z), .no, .no, .no, .no, .no, .no, .no, .no, .no, .no, .no] = .ok (.dk [(.inr e1, pE (0, "")), (.inr e2, pE (0, ""))]) [.val L, .val (.str z), .no, .no, .no, .no, .no, .no, .no, .no, .no, .no, .no] := by
  have k1 : dKey (.str e1) = some (.inr e1) := rfl
  have k2 : dKey (.str e2) = some (.inr e2) := rfl
  have p1 : putG ([] : List (Key × D)) (.inr e1) (.tup [.int 0, .str ""]) = [(.inr e1, .tup [.int 0, .str ""])] := rfl
  have p2 : putG [((.inr e1 : Key), D.tup [.int 0, .str ""])] (.inr e2) (.tup [.int 0, .str ""]) = [(.inr e1, .tup [.int 0, .str ""]), (.inr e2, .tup [.int 0, .str ""])] := by
    unfold putG
    have : ([((.inr e1 : Key), D.tup [.int 0, .str ""])].any fun kv => decide (kv.1 = .inr e2)) = false := by
      simp [hne]
    rw [this]
    rfl
  have z0 : (0 : Nat) < sizeLine := by decide
  have z1 : (1 : Nat) < sizeLine := by decide
  have z2 : (2 : Nat) ≤ sizeLine := by decide
  simp [mDc, dcL, t_fewest_errors_1, t_fewest_errors_1k, e_fewest_errors_1, mYes, pE, hb, k1, k2, p1, p2, z0, z1, z2, wipE, rst, mkF0, mkF1, fin0, fin1, st0, st1, bnd, Sr.ret, opt, mN, mNB, mB, der, m1, m2, m2b, m2r, mT, asB, mChain, mAnd, mOr, mNot, mAndV, mOrV, mNotV, mIf, mNil, mCons, mTup, mLst, mIsN, mNotN, Sr.isNon, mCal, mCal1, mIsi, mFldB, gFld, mC0, mC1, ap0, ap1, chkO, chkL, putL, mMk, apM, skp, sq, sDrop, sRet, sRetO, sIf, sSet, sSetO, sAsg, sPar, gN, gsN, gsC, gT, gA, sApp, sPutI, sNever, mItems, dItems, mRng, mRng2, gRng, gRng2, sFor, turn, gI, gI0, gLt, gLe, gGt, gGe, gAdd, gAddI, gAddS, gAddT, gAddL, Sr.gSub, gMul, gMulI, gDiv, gMod, gPow, gNeg, gEq, gNe, dEq, eqS, gLen, gInt1, gMax2, gMin2, gAbs, gIx, gLtT, dInts, putD, gIsi, dKind, tInt, tOnly, List.map_cons, List.map_nil, List.length_cons, List.length_nil, List.cons_append, List.nil_append, List.getElem?_cons_zero, List.getElem?_cons_succ, List.set_cons_zero, List.set_cons_succ, List.replicate, Option.some_or, Option.none_or, Option.map_some, Option.map_none, Option.bind_some, Option.bind_none]
section
variable (a0 a1 a2 a3 a4 a5 a6 a7 a8 a9 a10 : Sl)
theorem t_leN (d : D) (j11 : Sl) : turn (gN 11) l_fewest_errors_4 d [a0, a1, a2, a3, a4, a5, a6, a7, a8, a9, a10, j11, .val .non] = .ok .nx [a0, a1, a2, a3, a4, a5, a6, a7, a8, a9, a10, .val d, .val d] := by
  simp [l_fewest_errors_4, mkF0, mkF1, fin0, fin1, st0, st1, bnd, Sr.ret, opt, mN, mNB, mB, der, m1, m2, m2b, m2r, mT, asB, mChain, mAnd, mOr, mNot, mAndV, mOrV, mNotV, mIf, mNil, mCons, mTup, mLst, mIsN, mNotN, Sr.isNon, mCal, mCal1, mIsi, mFldB, gFld, mC0, mC1, ap0, ap1, chkO, chkL, putL, mMk, apM, skp, sq, sDrop, sRet, sRetO, sIf, sSet, sSetO, sAsg, sPar, gN, gsN, gsC, gT, gA, sApp, sPutI, sNever, mItems, dItems, mRng, mRng2, gRng, gRng2, sFor, turn, gI, gI0, gLt, gLe, gGt, gGe, gAdd, gAddI, gAddS, gAddT, gAddL, Sr.gSub, gMul, gMulI, gDiv, gMod, gPow, gNeg, gEq, gNe, dEq, eqS, gLen, gInt1, gMax2, gMin2, gAbs, gIx, gLtT, dInts, putD, gIsi, dKind, tInt, tOnly, List.map_cons, List.map_nil, List.length_cons, List.length_nil, List.cons_append, List.nil_append, List.getElem?_cons_zero, List.getElem?_cons_succ, List.set_cons_zero, List.set_cons_succ, List.replicate, Option.some_or, Option.none_or, Option.map_some, Option.map_none, Option.bind_some, Option.bind_none]
theorem t_leF (x y : Hi.Fw) (j11 : Sl) : turn (gN 11) l_fewest_errors_4 (fwD x) [a0, a1, a2, a3, a4, a5, a6, a7, a8, a9, a10, j11, .val (fwD y)] = .ok .nx [a0, a1, a2, a3, a4, a5, a6, a7, a8, a9, a10, .val (fwD x), .val (fwD (Hi.minv x y))] := by
  have g := lt_fw x y
  have hn : Sr.isNon (fwD y) = false := rfl
  unfold Hi.minv
  generalize Hi.ltv x y = B at *
  generalize hdx : fwD x = dx at *
  generalize hdy : fwD y = dy at *
  cases B <;> simp [l_fewest_errors_4, g, hn, hdx, hdy, mkF0, mkF1, fin0, fin1, st0, st1, bnd, Sr.ret, opt, mN, mNB, mB, der, m1, m2, m2b, m2r, mT, asB, mChain, mAnd, mOr, mNot, mAndV, mOrV, mNotV, mIf, mNil, mCons, mTup, mLst, mIsN, mNotN, mCal, mCal1, mIsi, mFldB, gFld, mC0, mC1, ap0, ap1, chkO, chkL, putL, mMk, apM, skp, sq, sDrop, sRet, sRetO, sIf, sSet, sSetO, sAsg, sPar, gN, gsN, gsC, gT, gA, sApp, sPutI, sNever, mItems, dItems, mRng, mRng2, gRng, gRng2, sFor, turn, gI, gI0, gLt, gLe, gGt, gGe, gAdd, gAddI, gAddS, gAddT, gAddL, Sr.gSub, gMul, gMulI, gDiv, gMod, gPow, gNeg, gEq, gNe, dEq, eqS, gLen, gInt1, gMax2, gMin2, gAbs, gIx, gLtT, dInts, putD, gIsi, dKind, tInt, tOnly, List.map_cons, List.map_nil, List.length_cons, List.length_nil, List.cons_append, List.nil_append, List.getElem?_cons_zero, List.getElem?_cons_succ, List.set_cons_zero, List.set_cons_succ, List.replicate, Option.some_or, Option.none_or, Option.map_some, Option.map_none, Option.bind_some, Option.bind_none]
theorem f_le : ∀ (l : List Hi.Fw) (o : Option Hi.Fw) (j11 : Sl), ∃ k11, forL (gN 11) l_fewest_errors_4 (l.map fwD) [a0, a1, a2, a3, a4, a5, a6, a7, a8, a9, a10, j11, .val (opD o)] = .ok .nx [a0, a1, a2, a3, a4, a5, a6, a7, a8, a9, a10, k11, .val (opD (l.foldl Hi.lstep o))]
  | [], o, j11 => ⟨j11, rfl⟩
  | x :: l, none, j11 => by
    obtain ⟨k11, ih⟩ := f_le l (some x) (.val (fwD x))
    exact ⟨k11, by rw [List.map_cons]; exact (forL_cons_nx (t_leN a0 a1 a2 a3 a4 a5 a6 a7 a8 a9 a10 (fwD x) j11)).trans ih⟩
  | x :: l, some y, j11 => by
    obtain ⟨k11, ih⟩ := f_le l (some (Hi.minv x y)) (.val (fwD x))
    exact ⟨k11, by rw [List.map_cons]; exact (forL_cons_nx (t_leF a0 a1 a2 a3 a4 a5 a6 a7 a8 a9 a10 x y j11)).trans ih⟩
end
theorem b_fe (L : D) (z : Str) (ds K : List (Key × D)) (v : D) (ts vs : List D) (j3 j4 j5 j6 j7 j8 j9 j10 j11 j12 k6 k11 : Sl) (h0 : f_check_log .non [L, .str z] = .ok .non .non) (Y : M D) (hY : mDc [6] (mItems (mC0 f_beginnings [] (mCons (mN 0) mNil))) (gN 6) t_fewest_errors_1 t_fewest_errors_1k e_fewest_errors_1 = Y)
    (y : Y [.val L, .val (.str z), .no, .no, .no, .no, .no, .no, .no, .no, .no, .no, .no] = .ok (.dk ds) [.val L, .val (.str z), .no, .no, .no, .no, k6, .no, .no, .no, .no, .no, .no]) (hz : gEnumA [.str z] = some ts) (X : List D → M Fl) (hX : forL (gT 2 (gsC (gN 3) (gsC (gN 4) gsN))) l_fewest_errors_3 = X)
    (h : X ts [.val L, .val (.str z), .own (.dk ds), .no, .no, .no, k6, .no, .no, .no, .no, .no, .no] = .ok .nx [.val L, .val (.str z), .own (.dk K), j3, j4, j5, j6, j7, j8, j9, j10, j11, j12]) (hv : K.map (·.2) = vs) (X2 : List D → M Fl) (hX2 : forL (gN 11) l_fewest_errors_4 = X2)
    (h2 : X2 vs [.val L, .val (.str z), .own (.dk K), j3, j4, j5, j6, j7, j8, j9, j10, j11, .val .non] = .ok .nx [.val L, .val (.str z), .own (.dk K), j3, j4, j5, j6, j7, j8, j9, j10, k11, .val v]) : f_fewest_errors .non [L, .str z] = .ok v .non := by
  have e0 : dItems (.lst (K.map (·.2))) = some vs := by rw [hv]; rfl
  simp only [f_fewest_errors, b_fewest_errors, hY, sFor, hX, hX2]
  simp [mVals, mEnumA, h0, y, hz, h, e0, h2, mkF0, mkF1, fin0, fin1, st0, st1, bnd, Sr.ret, opt, mN, mNB, mB, der, m1, m2, m2b, m2r, mT, asB, mChain, mAnd, mOr, mNot, mAndV, mOrV, mNotV, mIf, mNil, mCons, mTup, mLst, mIsN, mNotN, Sr.isNon, mCal, mCal1, mIsi, mFldB, gFld, mC0, mC1, ap0, ap1, chkO, chkL, putL, mMk, apM, skp, sq, sDrop, sRet, sRetO, sIf, sSet, sSetO, sAsg, sPar, gN, gsN, gsC, gT, gA, sApp, sPutI, sNever, mItems, mRng, mRng2, gRng, gRng2, turn, gI, gI0, gLt, gLe, gGt, gGe, gAdd, gAddI, gAddS, gAddT, gAddL, Sr.gSub, gMul, gMulI, gDiv, gMod, gPow, gNeg, gEq, gNe, dEq, eqS, gLen, gInt1, gMax2, gMin2, gAbs, gIx, gLtT, dInts, putD, gIsi, dKind, tInt, tOnly, List.map_cons, List.map_nil, List.length_cons, List.length_nil, List.cons_append, List.nil_append, List.getElem?_cons_zero, List.getElem?_cons_succ, List.set_cons_zero, List.set_cons_succ, List.replicate, Option.some_or, Option.none_or, Option.map_some, Option.map_none, Option.bind_some, Option.bind_none]
theorem beg_ne {a b n k : Nat} (hn : 1 ≤ n) (hk : 1 ≤ k) : enc (Hi.begS n k false) ≠ enc (Hi.begS n k true) := fun z => by
  have := (enc_iff (Hi.begS_ok (a := a) (b := b) hn hk (Nat.le_refl 1) false) (Hi.begS_ok hn hk (Nat.le_refl 1) true)).1 (by rw [z])
  exact absurd (congrArg Hi.Sit.st this) (by show ¬ (false = true); decide)
theorem chars_ck : ∀ s : List Bool, charsD (chk s) = s.map fun b => D.str (chk [b])
  | [] => rfl
  | b :: s => by
    have := chars_ck s
    unfold charsD chk at this ⊢
    simp only [List.map_cons] at this ⊢
    rw [this]
    cases b <;> rfl
theorem enum_ck (w : List Bool) : gEnumA [.str (chk w)] = some ((w.zipIdx 0).map fun q => D.tup [.int (q.2 : Nat), .str (chk [q.1])]) := by
  show some (enumL (charsD (chk w))) = _
  rw [chars_ck]
  unfold enumL
  rw [List.zipIdx_map, List.map_map]
  rfl
theorem s_fe (a b n k : Nat) (hn : 1 ≤ n) (hk : 1 ≤ k) (hn5 : n ≤ 5) (hk4 : k ≤ 4) (w : List Bool) (hw : w.length ≤ 60) (h0 : f_check_log .non [lim (a : Nat) (b : Nat) (n : Nat) (k : Nat), .str (chk w)] = .ok .non .non) : f_fewest_errors .non [lim (a : Nat) (b : Nat) (n : Nat) (k : Nat), .str (chk w)] = .ok (opD (Hi.lst ((Hi.bests a b n k w.reverse).map (·.2)))) .non := by
  have y := y_fe (lim (a : Nat) (b : Nat) (n : Nat) (k : Nat)) (chk w) _ _ (s_begP a b n k hn (by omega) (by omega)) (beg_ne (a := a) (b := b) hn hk)
  have e0 : sts [] = ("" : Str) := by decide
  have eb : [((.inr (enc (Hi.begS n k false)) : Key), pE (0, "")), (.inr (enc (Hi.begS n k true)), pE (0, ""))] = bstD (Hi.bests a b n k ([] : List Bool).reverse) := by
    rw [← e0]; rfl
  rw [eb] at y
  obtain ⟨k3, k4, k5, k6, k7, k8, k9, k10, k11, k12, f⟩ := f_fe3 (a := a) (b := b) hn hk hn5 hk4 (.str (chk w)) w [] .no .no .no .no .no .no .no .no .no .no (by simp; omega)
  have hv : (bstD (Hi.bests a b n k w.reverse)).map (·.2) = ((Hi.bests a b n k w.reverse).map (·.2)).map fwD := by
    unfold bstD
    rw [List.map_map, List.map_map]
    rfl
  obtain ⟨m11, f2⟩ := f_le (.val (lim (a : Nat) (b : Nat) (n : Nat) (k : Nat))) (.val (.str (chk w))) (.own (.dk (bstD (Hi.bests a b n k w.reverse)))) k3 k4 k5 k6 k7 k8 k9 k10 ((Hi.bests a b n k w.reverse).map (·.2)) none k11
  exact b_fe _ _ _ _ _ _ _ k3 k4 k5 k6 k7 k8 k9 k10 k11 k12 .no m11 h0 _ rfl y (enum_ck w) _ rfl f hv _ rfl f2
theorem bools_map {A : Type} (p : A → Bool) : ∀ l : List A, dBools (l.map fun x => .bl (p x)) = some (l.map p)
  | [] => rfl
  | x :: l => by rw [List.map_cons, dBools, bools_map p l]; rfl
theorem s_made_of (z g : Str) (hz : z.length ≤ 16777216) : f_is_made_of .non [.str z, .str g] = .ok (.bl (z.cps.toList.all fun c => decide (c ∈ g.cps.toList))) .non := by
  have h := mLc_map (m := mItems (mN 0)) (w := gN 2) (t := t_is_made_of_1) (el := e_is_made_of_1) (vs := [2]) (e := [.val (.str z), .val (.str g), .no]) (e1 := [.val (.str z), .val (.str g), .no]) (xs := z.cps.toList) (fun c => .str ⟨#[c]⟩) (fun c => .bl (decide (c ∈ g.cps.toList))) (by simp [mItems, mN, bnd, opt, dItems]) (by simpa [Str.length] using hz) (fun c hc => by
    refine ⟨[.val (.str z), .val (.str g), .val (.str ⟨#[c]⟩)], [.val (.str z), .val (.str g), .val (.str ⟨#[c]⟩)], [.val (.str z), .val (.str g), .val (.str ⟨#[c]⟩)], rfl, rfl, ?_, rfl⟩
    simp [e_is_made_of_1, m2, bnd, mN, opt, gIn, gInG])
  have ha : gAll (.lst (z.cps.toList.map fun c => D.bl (decide (c ∈ g.cps.toList)))) = some (.bl (z.cps.toList.all fun c => decide (c ∈ g.cps.toList))) := by
    simp only [gAll, bools_map]
    simp [List.all_map]
  have k1 : isB_str (.str z) = some true := rfl
  have e0 : st0 3 [.str z, .str g] = [.val (.str z), .val (.str g), .no] := rfl
  generalize (z.cps.toList.map fun c => D.bl (decide (c ∈ g.cps.toList))) = L at h ha
  generalize (z.cps.toList.all fun c => decide (c ∈ g.cps.toList)) = B at ha ⊢
  simp [f_is_made_of, b_is_made_of, mkF0, e0, h, k1, ha, mAndV, mIsi, m1, bnd, mN, opt, Sr.ret, asB, sRet, fin0]
def okChk (z : Str) : Bool := (z.cps.toList.all fun c => decide (c ∈ ("+-" : Str).cps.toList)) && decide (z.length ≤ 60)
theorem pm_eq : gAdd (.str "+") (.str "-") = some (.str "+-") := by kernel_rfl
theorem s_check_ok (z : Str) (h : okChk z = true) : f_check_checks .non [.str z] = .ok .non .non := by
  unfold okChk at h
  rw [Bool.and_eq_true, decide_eq_true_eq] at h
  have hm := s_made_of z "+-" (by omega)
  rw [h.1] at hm
  have hg : gLen (.str z) = some (.int (z.length : Nat)) := by simp only [gLen]; rw [if_pos (by have e : sizeLine = 16777216 := by decide
                                                                                                omega)]
  have hl : ¬ (60 < (z.length : Int)) := by omega
  simp [f_check_checks, b_check_checks, hm, pm_eq, hg, hl, mkF0, mkF1, fin0, fin1, st0, st1, bnd, Sr.ret, opt, mN, mNB, mB, der, m1, m2, m2b, m2r, mT, asB, mChain, mAnd, mOr, mNot, mAndV, mOrV, mNotV, mIf, mNil, mCons, mTup, mLst, mIsN, mNotN, Sr.isNon, mCal, mCal1, mIsi, mFldB, gFld, mC0, mC1, ap0, ap1, chkO, chkL, putL, mMk, apM, skp, sq, sDrop, sRet, sRetO, sIf, sSet, sSetO, sAsg, sPar, gN, gsN, gsC, gT, gA, sApp, sPutI, sNever, mItems, dItems, mRng, mRng2, gRng, gRng2, sFor, turn, gI, gI0, gLt, gLe, gGt, gGe, gAddI, gAddS, gAddT, gAddL, Sr.gSub, gMul, gMulI, gDiv, gMod, gPow, gNeg, gEq, gNe, dEq, eqS, gInt1, gMax2, gMin2, gAbs, gIx, gLtT, dInts, putD, gIsi, dKind, tInt, tOnly, List.map_cons, List.map_nil, List.length_cons, List.length_nil, List.cons_append, List.nil_append, List.getElem?_cons_zero, List.getElem?_cons_succ, List.set_cons_zero, List.set_cons_succ, List.replicate, Option.some_or, Option.none_or, Option.map_some, Option.map_none, Option.bind_some, Option.bind_none]
theorem chk_ok (w : List Bool) (h : w.length ≤ 60) : okChk (chk w) = true := by
  unfold okChk
  rw [chk_len, decide_eq_true h, Bool.and_true, List.all_eq_true]
  intro c hc
  have hc : c ∈ w.map (fun b => if b then 43 else 45) := hc
  rw [List.mem_map] at hc
  obtain ⟨b, _, rfl⟩ := hc
  cases b <;> decide
theorem ix_pm (r : Int) (h0 : 0 ≤ r) (h1 : r < 2) : ∃ b, gIx (.str "+-") (.int r) = some (.str (chk [b])) := by
  have : r = 0 ∨ r = 1 := by omega
  rcases this with rfl | rfl
  · exact ⟨true, by kernel_rfl⟩
  · exact ⟨false, by kernel_rfl⟩
theorem ix_last (u : List Bool) (h : u ≠ []) (hl : u.length ≤ 10000) : ∃ b, gIx (.str (chk u)) (.int (-1)) = some (.str (chk [b])) := by
  have hz : (chk u).length ≤ sizeLine := by rw [chk_len]; have e : sizeLine = 16777216 := by decide
                                            omega
  have hpos : 0 < u.length := List.length_pos_iff.mpr h
  have hn : (chk u).cps.toList.length = u.length := by unfold chk; simp
  refine ⟨u[u.length - 1]'(by omega), ?_⟩
  simp only [gIx]
  rw [if_pos hz]
  have ha : L2.atI (chk u).cps.toList (-1) = some ((chk u).cps.toList[u.length - 1]'(by omega)) := by
    have hi : L2.ixN (chk u).cps.toList.length (-1) = some (u.length - 1) := by
      rw [hn]
      unfold L2.ixN
      simp
      omega
    unfold L2.atI
    rw [hi]
    exact List.getElem?_eq_getElem (by omega)
  rw [ha]
  unfold chk
  simp
theorem ne_empty (u : List Bool) : gNe (.str (chk u)) (.str "") = some (.bl (!u.isEmpty)) := by
  have e : ("" : Str) = chk [] := by decide
  have h : decide (chk u = chk []) = u.isEmpty := by
    cases u with
    | nil => rfl
    | cons b u =>
      have : ¬ chk (b :: u) = chk [] := fun z => by
        have := congrArg Str.length z
        simp [chk_len] at this
      simp [this]
  rw [e]
  simp only [gNe, dEq, eqS, h]
  rfl
theorem t_checks (o most size : Int → D) (x1 x2 : Sl) (o : D) (ho : PenOk o) (way : Int) (hw : 0 ≤ way ∧ way < 3) (u : List Bool) (hu : u.length ≤ 1000) (j5 : Sl) (d : D) :
    ∃ u' o' k5, turn (gN 5) l__law_checks_1 d [.own o, x1, x2, .val (.int way), .val (.str (chk u)), j5] = .ok .nx [.own o', x1, x2, .val (.int way), .val (.str (chk u')), k5] ∧ u'.length = u.length + 1 ∧ PenOk o' := by
  have hadd : ∀ b, gAdd (.str (chk u)) (.str (chk [b])) = some (.str (chk (u ++ [b]))) := fun b => by
    have hz : u.length + 1 ≤ 16777216 := by omega
    simp [gAdd, gAddI, gI0, gAddS, chk_len, chk_app, sizeLine, hz]
  have hne := ne_empty u
  have plain : ∀ o, PenOk o → ∃ b o', mN 4 = mN 4 ∧ f__law_draw o [.int 2] = .ok b o' ∧ (∃ c, gIx (.str "+-") b = some (.str (chk [c]))) ∧ PenOk o' := fun o ho => by
    obtain ⟨r, o1, e1, h1, h2, v1⟩ := s_draw o 2 ho (by omega) (by omega)
    exact ⟨.int r, o1, rfl, e1, ix_pm r h1 h2, v1⟩
  by_cases hway : 0 < way
  · cases hE : u.isEmpty with
    | true =>
      rw [hE] at hne
      obtain ⟨b, o', _, e1, ⟨c, e2⟩, v1⟩ := plain o ho
      exact ⟨u ++ [c], o', _, by simp [l__law_checks_1, hway, hne, e1, e2, hadd, mkF0, mkF1, fin0, fin1, st0, st1, bnd, Sr.ret, opt, mN, mNB, mB, der, m1, m2, m2b, m2r, mT, asB, mChain, mAnd, mOr, mNot, mAndV, mOrV, mNotV, mIf, mNil, mCons, mTup, mLst, mIsN, mNotN, Sr.isNon, mCal, mCal1, mIsi, mFldB, gFld, mC0, mC1, ap0, ap1, chkO, chkL, putL, mMk, apM, skp, sq, sDrop, sRet, sRetO, sIf, sSet, sSetO, sAsg, sPar, gN, gsN, gsC, gT, gA, sApp, sPutI, sNever, mItems, dItems, mRng, mRng2, gRng, gRng2, sFor, turn, gI, gI0, gLt, gLe, gGt, gGe, gAddI, gAddS, gAddT, gAddL, Sr.gSub, gMul, gMulI, gDiv, gMod, gPow, gNeg, gEq, dEq, eqS, gLen, gInt1, gMax2, gMin2, gAbs, gLtT, dInts, putD, gIsi, dKind, tInt, tOnly, List.map_cons, List.map_nil, List.length_cons, List.length_nil, List.cons_append, List.nil_append, List.getElem?_cons_zero, List.getElem?_cons_succ, List.set_cons_zero, List.set_cons_succ, List.replicate, Option.some_or, Option.none_or, Option.map_some, Option.map_none, Option.bind_some, Option.bind_none]; rfl, by simp, v1⟩
    | false =>
      rw [hE] at hne
      obtain ⟨r, o1, e3, h3, h4, v3⟩ := s_draw o (2 + way) ho (by omega) (by omega)
      have hsum : gAdd (.int 2) (.int way) = some (.int (2 + way)) := rfl
      by_cases hr : 0 < r
      · obtain ⟨c, e2⟩ := ix_last u (by intro z; rw [z] at hE; cases hE) (by omega)
        exact ⟨u ++ [c], o1, _, by simp [l__law_checks_1, hway, hne, hsum, e3, hr, e2, hadd, mkF0, mkF1, fin0, fin1, st0, st1, bnd, Sr.ret, opt, mN, mNB, mB, der, m1, m2, m2b, m2r, mT, asB, mChain, mAnd, mOr, mNot, mAndV, mOrV, mNotV, mIf, mNil, mCons, mTup, mLst, mIsN, mNotN, Sr.isNon, mCal, mCal1, mIsi, mFldB, gFld, mC0, mC1, ap0, ap1, chkO, chkL, putL, mMk, apM, skp, sq, sDrop, sRet, sRetO, sIf, sSet, sSetO, sAsg, sPar, gN, gsN, gsC, gT, gA, sApp, sPutI, sNever, mItems, dItems, mRng, mRng2, gRng, gRng2, sFor, turn, gI, gI0, gLt, gLe, gGt, gGe, gAddI, gAddS, gAddT, gAddL, Sr.gSub, gMul, gMulI, gDiv, gMod, gPow, gNeg, gEq, dEq, eqS, gLen, gInt1, gMax2, gMin2, gAbs, gLtT, dInts, putD, gIsi, dKind, tInt, tOnly, List.map_cons, List.map_nil, List.length_cons, List.length_nil, List.cons_append, List.nil_append, List.getElem?_cons_zero, List.getElem?_cons_succ, List.set_cons_zero, List.set_cons_succ, List.replicate, Option.some_or, Option.none_or, Option.map_some, Option.map_none, Option.bind_some, Option.bind_none]; rfl, by simp, v3⟩
      · obtain ⟨b, o', _, e1, ⟨c, e2⟩, v1⟩ := plain o1 v3
        exact ⟨u ++ [c], o', _, by simp [l__law_checks_1, hway, hne, hsum, e3, hr, e1, e2, hadd, mkF0, mkF1, fin0, fin1, st0, st1, bnd, Sr.ret, opt, mN, mNB, mB, der, m1, m2, m2b, m2r, mT, asB, mChain, mAnd, mOr, mNot, mAndV, mOrV, mNotV, mIf, mNil, mCons, mTup, mLst, mIsN, mNotN, Sr.isNon, mCal, mCal1, mIsi, mFldB, gFld, mC0, mC1, ap0, ap1, chkO, chkL, putL, mMk, apM, skp, sq, sDrop, sRet, sRetO, sIf, sSet, sSetO, sAsg, sPar, gN, gsN, gsC, gT, gA, sApp, sPutI, sNever, mItems, dItems, mRng, mRng2, gRng, gRng2, sFor, turn, gI, gI0, gLt, gLe, gGt, gGe, gAddI, gAddS, gAddT, gAddL, Sr.gSub, gMul, gMulI, gDiv, gMod, gPow, gNeg, gEq, dEq, eqS, gLen, gInt1, gMax2, gMin2, gAbs, gLtT, dInts, putD, gIsi, dKind, tInt, tOnly, List.map_cons, List.map_nil, List.length_cons, List.length_nil, List.cons_append, List.nil_append, List.getElem?_cons_zero, List.getElem?_cons_succ, List.set_cons_zero, List.set_cons_succ, List.replicate, Option.some_or, Option.none_or, Option.map_some, Option.map_none, Option.bind_some, Option.bind_none]; rfl, by simp, v1⟩
  · obtain ⟨b, o', _, e1, ⟨c, e2⟩, v1⟩ := plain o ho
    exact ⟨u ++ [c], o', _, by simp [l__law_checks_1, hway, e1, e2, hadd, mkF0, mkF1, fin0, fin1, st0, st1, bnd, Sr.ret, opt, mN, mNB, mB, der, m1, m2, m2b, m2r, mT, asB, mChain, mAnd, mOr, mNot, mAndV, mOrV, mNotV, mIf, mNil, mCons, mTup, mLst, mIsN, mNotN, Sr.isNon, mCal, mCal1, mIsi, mFldB, gFld, mC0, mC1, ap0, ap1, chkO, chkL, putL, mMk, apM, skp, sq, sDrop, sRet, sRetO, sIf, sSet, sSetO, sAsg, sPar, gN, gsN, gsC, gT, gA, sApp, sPutI, sNever, mItems, dItems, mRng, mRng2, gRng, gRng2, sFor, turn, gI, gI0, gLt, gLe, gGt, gGe, gAddI, gAddS, gAddT, gAddL, Sr.gSub, gMul, gMulI, gDiv, gMod, gPow, gNeg, gEq, dEq, eqS, gLen, gInt1, gMax2, gMin2, gAbs, gLtT, dInts, putD, gIsi, dKind, tInt, tOnly, List.map_cons, List.map_nil, List.length_cons, List.length_nil, List.cons_append, List.nil_append, List.getElem?_cons_zero, List.getElem?_cons_succ, List.set_cons_zero, List.set_cons_succ, List.replicate, Option.some_or, Option.none_or, Option.map_some, Option.map_none, Option.bind_some, Option.bind_none]; rfl, by simp, v1⟩
theorem s_checks (o : D) (ho : PenOk o) (most : Int) (h0 : 0 ≤ most) (h1 : most ≤ 300) : ∃ w o', f__law_checks o [.int most] = .ok (.str (chk w)) o' ∧ (w.length : Int) ≤ most ∧ PenOk o' := by
  obtain ⟨n, o1, e1, g1, g2, v1⟩ := s_draw o (most + 1) ho (by omega) (by omega)
  obtain ⟨way, o2, e2, g3, g4, v2⟩ := s_draw o1 3 v1 (by omega) (by omega)
  have H := forL_map (w := gN 5) (b := l__law_checks_1) D.int (fun (k : Nat) e => ∃ (u : List Bool) (o' : D) (k5 : Sl), e = [.own o', .val (.int most), .val (.int n), .val (.int way), .val (.str (chk u)), k5] ∧ u.length = k ∧ PenOk o') (fun k _ => k + 1) 0 (irng 0 n) [.own o2, .val (.int most), .val (.int n), .val (.int way), .val (.str (chk [])), .no]
    (by
      rintro pre x post hp e ⟨u, o', k5, rfl, hu, vo⟩
      have hl : pre.length ≤ n.toNat := by
        have := congrArg List.length hp
        simp [irng] at this
        omega
      have hf : ∀ (l : List Int) (a : Nat), l.foldl (fun k _ => k + 1) a = a + l.length := by
        intro l
        induction l with
        | nil => intro a; rfl
        | cons y l ih => intro a; rw [List.foldl_cons, ih, List.length_cons]; omega
      rw [hf] at hu ⊢
      obtain ⟨u', o'', k5', h, hlen, v⟩ := t_checks (fun _ => .non) (fun _ => .non) (fun _ => .non) (.val (.int most)) (.val (.int n)) o' vo way ⟨g3, g4⟩ u (by omega) k5 (.int x)
      exact ⟨_, h, u', o'', k5', rfl, by omega, v⟩)
    ⟨[], o2, .no, rfl, rfl, v2⟩
  obtain ⟨e', h, u, o', k5, rfl, hu, vo⟩ := H
  have hf : ∀ (l : List Int) (a : Nat), l.foldl (fun k _ => k + 1) a = a + l.length := by
    intro l
    induction l with
    | nil => intro a; rfl
    | cons y l ih => intro a; rw [List.foldl_cons, ih, List.length_cons]; omega
  rw [hf] at hu
  have hlen : (irng 0 n).length = n.toNat := by simp [irng]
  have hok : okR n = true := by unfold okR; simp; omega
  have em : ("" : Str) = chk [] := by decide
  have hr : gRng [.int n] = some ((irng 0 n).map D.int) := by simp only [gRng, hok, if_true]; rw [rngL_eq]
  refine ⟨u, o', ?_, by omega, vo⟩
  have hsum : gAdd (.int most) (.int 1) = some (.int (most + 1)) := rfl
  simp [f__law_checks, b__law_checks, hsum, e1, e2, em, hr, h, mkF0, mkF1, fin0, fin1, st0, st1, bnd, Sr.ret, opt, mN, mNB, mB, der, m1, m2, m2b, m2r, mT, asB, mChain, mAnd, mOr, mNot, mAndV, mOrV, mNotV, mIf, mNil, mCons, mTup, mLst, mIsN, mNotN, Sr.isNon, mCal, mCal1, mIsi, mFldB, gFld, mC0, mC1, ap0, ap1, chkO, chkL, putL, mMk, apM, skp, sq, sDrop, sRet, sRetO, sIf, sSet, sSetO, sAsg, sPar, gN, gsN, gsC, gT, gA, sApp, sPutI, sNever, mItems, dItems, mRng, mRng2, gRng2, sFor, turn, gI, gI0, gLt, gLe, gGt, gGe, gAddI, gAddS, gAddT, gAddL, Sr.gSub, gMul, gMulI, gDiv, gMod, gPow, gNeg, gEq, gNe, dEq, eqS, gLen, gInt1, gMax2, gMin2, gAbs, gIx, gLtT, dInts, putD, gIsi, dKind, tInt, tOnly, List.map_cons, List.map_nil, List.length_cons, List.length_nil, List.cons_append, List.nil_append, List.getElem?_cons_zero, List.getElem?_cons_succ, List.set_cons_zero, List.set_cons_succ, List.replicate, Option.some_or, Option.none_or, Option.map_some, Option.map_none, Option.bind_some, Option.bind_none]
theorem s_checklim (a b c d : Int) : f_check_limits .non [lim a b c d] = .ok .non .non := by
  have h : isl_Limits.lookup ("Limits" : Str) = some true := by decide
  simp [f_check_limits, b_check_limits, isC_Limits, h, mkF0, mkF1, fin0, fin1, st0, st1, bnd, Sr.ret, opt, mN, mNB, mB, der, m1, m2, m2b, m2r, mT, asB, mChain, mAnd, mOr, mNot, mAndV, mOrV, mNotV, mIf, mNil, mCons, mTup, mLst, mIsN, mNotN, Sr.isNon, mCal, mCal1, mIsi, mFldB, gFld, mC0, mC1, ap0, ap1, chkO, chkL, putL, mMk, apM, skp, sq, sDrop, sRet, sRetO, sIf, sSet, sSetO, sAsg, sPar, gN, gsN, gsC, gT, gA, sApp, sPutI, sNever, mItems, dItems, mRng, mRng2, gRng, gRng2, sFor, turn, gI, gI0, gLt, gLe, gGt, gGe, gAdd, gAddI, gAddS, gAddT, gAddL, Sr.gSub, gMul, gMulI, gDiv, gMod, gPow, gNeg, gEq, gNe, dEq, eqS, gLen, gInt1, gMax2, gMin2, gAbs, gIx, gLtT, dInts, putD, gIsi, dKind, tInt, tOnly, List.map_cons, List.map_nil, List.length_cons, List.length_nil, List.cons_append, List.nil_append, List.getElem?_cons_zero, List.getElem?_cons_succ, List.set_cons_zero, List.set_cons_succ, List.replicate, Option.some_or, Option.none_or, Option.map_some, Option.map_none, Option.bind_some, Option.bind_none]
theorem b_chklog (L z : D) (h1 : f_check_limits .non [L] = .ok .non .non) (h2 : f_check_checks .non [z] = .ok .non .non) : f_check_log .non [L, z] = .ok .non .non := by
  simp [f_check_log, b_check_log, h1, h2, mkF0, mkF1, fin0, fin1, st0, st1, bnd, Sr.ret, opt, mN, mNB, mB, der, m1, m2, m2b, m2r, mT, asB, mChain, mAnd, mOr, mNot, mAndV, mOrV, mNotV, mIf, mNil, mCons, mTup, mLst, mIsN, mNotN, Sr.isNon, mCal, mCal1, mIsi, mFldB, gFld, mC0, mC1, ap0, ap1, chkO, chkL, putL, mMk, apM, skp, sq, sDrop, sRet, sRetO, sIf, sSet, sSetO, sAsg, sPar, gN, gsN, gsC, gT, gA, sApp, sPutI, sNever, mItems, dItems, mRng, mRng2, gRng, gRng2, sFor, turn, gI, gI0, gLt, gLe, gGt, gGe, gAdd, gAddI, gAddS, gAddT, gAddL, Sr.gSub, gMul, gMulI, gDiv, gMod, gPow, gNeg, gEq, gNe, dEq, eqS, gLen, gInt1, gMax2, gMin2, gAbs, gIx, gLtT, dInts, putD, gIsi, dKind, tInt, tOnly, List.map_cons, List.map_nil, List.length_cons, List.length_nil, List.cons_append, List.nil_append, List.getElem?_cons_zero, List.getElem?_cons_succ, List.set_cons_zero, List.set_cons_succ, List.replicate, Option.some_or, Option.none_or, Option.map_some, Option.map_none, Option.bind_some, Option.bind_none]
theorem s_chklog (a b c d : Int) (w : List Bool) (h : w.length ≤ 60) : f_check_log .non [lim a b c d, .str (chk w)] = .ok .non .non :=
  b_chklog _ _ (s_checklim a b c d) (s_check_ok _ (chk_ok w h))
def sd (s : List Bool) : D := .str (sts s)
theorem take_S (l : List Nat) (j : Nat) (hl : l.length ≤ 100000) : gSl (.str (S l)) none (some (j : Int)) = some (.str (S (l.take j))) := by
  have h := cut_S l 0 j (by omega) (by omega) hl
  rw [List.drop_zero, Nat.sub_zero] at h
  rw [← h]
  simp only [gSl]
  congr 3
theorem take_c (w : List Bool) (j : Nat) (h : w.length ≤ 1000) : gSl (.str (chk w)) none (some (j : Int)) = some (.str (chk (w.take j))) := by
  have := take_S (w.map fun b => if b then 43 else 45) j (by rw [List.length_map]; omega)
  rw [← chk_S, ← List.map_take, ← chk_S] at this
  exact this
theorem add_lst (a b : List D) (h : a.length + b.length ≤ 100000) : gAdd (.lst a) (.lst b) = some (.lst (a ++ b)) := by
  have hz : a.length + b.length ≤ 16777216 := by omega
  simp [gAdd, gAddI, gI0, gAddS, gAddT, gAddL, sizeLine, hz]
theorem b_ea (a0 a1 a2 a3 a4 : Sl) (z z' : D) (h : gAdd z (.str "D") = some z') : e__law_log_1 [a0, a1, a2, a3, a4, .val z] = .ok z' [a0, a1, a2, a3, a4, .val z] := by
  simp [e__law_log_1, h, mkF0, mkF1, fin0, fin1, st0, st1, bnd, Sr.ret, opt, mN, mNB, mB, der, m1, m2, m2b, m2r, mT, asB, mChain, mAnd, mOr, mNot, mAndV, mOrV, mNotV, mIf, mNil, mCons, mTup, mLst, mIsN, mNotN, Sr.isNon, mCal, mCal1, mIsi, mFldB, gFld, mC0, mC1, ap0, ap1, chkO, chkL, putL, mMk, apM, skp, sq, sDrop, sRet, sRetO, sIf, sSet, sSetO, sAsg, sPar, gN, gsN, gsC, gT, gA, sApp, sPutI, sNever, mItems, dItems, mRng, mRng2, gRng, gRng2, sFor, turn, gI, gI0, gLt, gLe, gGt, gGe, gAddI, gAddS, gAddT, gAddL, Sr.gSub, gMul, gMulI, gDiv, gMod, gPow, gNeg, gEq, gNe, dEq, eqS, gLen, gInt1, gMax2, gMin2, gAbs, gIx, gLtT, dInts, putD, gIsi, dKind, tInt, tOnly, List.map_cons, List.map_nil, List.length_cons, List.length_nil, List.cons_append, List.nil_append, List.getElem?_cons_zero, List.getElem?_cons_succ, List.set_cons_zero, List.set_cons_succ, List.replicate, Option.some_or, Option.none_or, Option.map_some, Option.map_none, Option.bind_some, Option.bind_none]
theorem b_eb (a0 a1 a2 a3 a4 : Sl) (z z' : D) (h : gAdd z (.str "U") = some z') : e__law_log_2 [a0, a1, a2, a3, a4, .val z] = .ok z' [a0, a1, a2, a3, a4, .val z] := by
  simp [e__law_log_2, h, mkF0, mkF1, fin0, fin1, st0, st1, bnd, Sr.ret, opt, mN, mNB, mB, der, m1, m2, m2b, m2r, mT, asB, mChain, mAnd, mOr, mNot, mAndV, mOrV, mNotV, mIf, mNil, mCons, mTup, mLst, mIsN, mNotN, Sr.isNon, mCal, mCal1, mIsi, mFldB, gFld, mC0, mC1, ap0, ap1, chkO, chkL, putL, mMk, apM, skp, sq, sDrop, sRet, sRetO, sIf, sSet, sSetO, sAsg, sPar, gN, gsN, gsC, gT, gA, sApp, sPutI, sNever, mItems, dItems, mRng, mRng2, gRng, gRng2, sFor, turn, gI, gI0, gLt, gLe, gGt, gGe, gAddI, gAddS, gAddT, gAddL, Sr.gSub, gMul, gMulI, gDiv, gMod, gPow, gNeg, gEq, gNe, dEq, eqS, gLen, gInt1, gMax2, gMin2, gAbs, gIx, gLtT, dInts, putD, gIsi, dKind, tInt, tOnly, List.map_cons, List.map_nil, List.length_cons, List.length_nil, List.cons_append, List.nil_append, List.getElem?_cons_zero, List.getElem?_cons_succ, List.set_cons_zero, List.set_cons_succ, List.replicate, Option.some_or, Option.none_or, Option.map_some, Option.map_none, Option.bind_some, Option.bind_none]
theorem add_sd (s : List Bool) (h : s.length ≤ 500) : gAdd (sd s) (.str "D") = some (sd (s ++ [false])) ∧ gAdd (sd s) (.str "U") = some (sd (s ++ [true])) := by
  have e1 : ("D" : Str) = sts [false] := by decide
  have e2 : ("U" : Str) = sts [true] := by decide
  rw [e1, e2]
  exact ⟨add_s s [false] (by simp; omega), add_s s [true] (by simp; omega)⟩
theorem m_it2 (a0 a1 a3 a4 a5 : Sl) (l : List D) : mItems (mN 2) [a0, a1, .val (.lst l), a3, a4, a5] = .ok l [a0, a1, .val (.lst l), a3, a4, a5] := by
  simp [mItems, mN, bnd, opt, dItems]
theorem m_it4 (a0 a1 a2 a3 a5 : Sl) (l : List D) : mItems (mN 4) [a0, a1, a2, a3, .val (.lst l), a5] = .ok l [a0, a1, a2, a3, .val (.lst l), a5] := by
  simp [mItems, mN, bnd, opt, dItems]
theorem r_rst5 (a0 a1 a2 a3 a4 j5 : Sl) : ∃ k5, rst [5] [a0, a1, a2, a3, a4, j5] [a0, a1, a2, a3, a4, .no] = [a0, a1, a2, a3, a4, k5] := ⟨_, rfl⟩
theorem y_app1 (a0 a1 a3 a4 j5 : Sl) (L : List (List Bool)) (hs : ∀ s ∈ L, s.length ≤ 500) (hL : L.length ≤ 10000) : ∃ k5, mLc [5] (mItems (mN 2)) (gN 5) t__law_log_1 e__law_log_1 [a0, a1, .val (.lst (L.map sd)), a3, a4, j5] = .ok (.lst (L.map fun s => sd (s ++ [false]))) [a0, a1, .val (.lst (L.map sd)), a3, a4, k5] := by
  obtain ⟨k5, hk⟩ := r_rst5 a0 a1 (.val (.lst (L.map sd))) a3 a4 j5
  refine ⟨k5, ?_⟩
  have h := mLc_map (w := gN 5) (t := t__law_log_1) (el := e__law_log_1) (vs := [5]) sd (fun s => sd (s ++ [false])) (m_it2 a0 a1 a3 a4 j5 (L.map sd)) (by omega) (fun s hm => ⟨_, _, _, rfl, rfl, b_ea _ _ _ _ _ _ _ (add_sd s (hs s hm)).1, rfl⟩)
  rw [h]
  exact congrArg _ hk
theorem y_app2 (a0 a1 a3 a4 j5 : Sl) (L : List (List Bool)) (hs : ∀ s ∈ L, s.length ≤ 500) (hL : L.length ≤ 10000) : ∃ k5, mLc [5] (mItems (mN 2)) (gN 5) t__law_log_2 e__law_log_2 [a0, a1, .val (.lst (L.map sd)), a3, a4, j5] = .ok (.lst (L.map fun s => sd (s ++ [true]))) [a0, a1, .val (.lst (L.map sd)), a3, a4, k5] := by
  obtain ⟨k5, hk⟩ := r_rst5 a0 a1 (.val (.lst (L.map sd))) a3 a4 j5
  refine ⟨k5, ?_⟩
  have h := mLc_map (w := gN 5) (t := t__law_log_2) (el := e__law_log_2) (vs := [5]) sd (fun s => sd (s ++ [true])) (m_it2 a0 a1 a3 a4 j5 (L.map sd)) (by omega) (fun s hm => ⟨_, _, _, rfl, rfl, b_eb _ _ _ _ _ _ _ (add_sd s (hs s hm)).2, rfl⟩)
  rw [h]
  exact congrArg _ hk
theorem b_t3 (N C Z z : D) (i j : Int) (P : Bool) (a2 a4 : Sl) (ha : gAdd (.int i) (.int 1) = some (.int j)) (hc : gSl C none (some j) = some Z) (h : f__law_allowed .non [N, z, Z] = .ok (.bl P) .non) : t__law_log_3 [.val N, .val C, a2, .val (.int i), a4, .val z] = .ok P [.val N, .val C, a2, .val (.int i), a4, .val z] := by
  simp [t__law_log_3, mSl, mPart, mNoP, asI, ha, hc, h, mkF0, mkF1, fin0, fin1, st0, st1, bnd, Sr.ret, opt, mN, mNB, mB, der, m1, m2, m2b, m2r, mT, asB, mChain, mAnd, mOr, mNot, mAndV, mOrV, mNotV, mIf, mNil, mCons, mTup, mLst, mIsN, mNotN, Sr.isNon, mCal, mCal1, mIsi, mFldB, gFld, mC0, mC1, ap0, ap1, chkO, chkL, putL, mMk, apM, skp, sq, sDrop, sRet, sRetO, sIf, sSet, sSetO, sAsg, sPar, gN, gsN, gsC, gT, gA, sApp, sPutI, sNever, mItems, dItems, mRng, mRng2, gRng, gRng2, sFor, turn, gI, gI0, gLt, gLe, gGt, gGe, gAddI, gAddS, gAddT, gAddL, Sr.gSub, gMul, gMulI, gDiv, gMod, gPow, gNeg, gEq, gNe, dEq, eqS, gLen, gInt1, gMax2, gMin2, gAbs, gIx, gLtT, dInts, putD, gIsi, dKind, tInt, tOnly, List.map_cons, List.map_nil, List.length_cons, List.length_nil, List.cons_append, List.nil_append, List.getElem?_cons_zero, List.getElem?_cons_succ, List.set_cons_zero, List.set_cons_succ, List.replicate, Option.some_or, Option.none_or, Option.map_some, Option.map_none, Option.bind_some, Option.bind_none]
theorem y_flt (a b n k : Nat) (w : List Bool) (hw : w.length ≤ 1000) (i : Nat) (hi : i < w.length) (a2 j5 : Sl) (L : List (List Bool)) (hs : ∀ s ∈ L, s.length = i + 1) (hL : L.length ≤ 10000) : ∃ k5, mLc [5] (mItems (mN 4)) (gN 5) t__law_log_3 e__law_log_3 [.val (nums a b n k), .val (.str (chk w)), a2, .val (.int (i : Nat)), .val (.lst (L.map sd)), j5] = .ok (.lst ((L.filter fun s => Hi.alw a b n k s (w.take (i + 1))).map sd)) [.val (nums a b n k), .val (.str (chk w)), a2, .val (.int (i : Nat)), .val (.lst (L.map sd)), k5] := by
  obtain ⟨k5, hk⟩ := r_rst5 (.val (nums a b n k)) (.val (.str (chk w))) a2 (.val (.int (i : Nat))) (.val (.lst (L.map sd))) j5
  refine ⟨k5, ?_⟩
  have hf := lcL_filter (w := gN 5) (t := t__law_log_3) (el := e__law_log_3) (vs := [5]) sd sd (fun s => Hi.alw a b n k s (w.take (i + 1))) [.val (nums a b n k), .val (.str (chk w)), a2, .val (.int (i : Nat)), .val (.lst (L.map sd)), .no] L [] (by simp; omega) (fun s hm => by
    have h1 := s_allowed a b n k s (w.take (i + 1)) (by rw [hs s hm, List.length_take]; omega) (by rw [List.length_take]; omega)
    have h2 := take_c w (i + 1) hw
    exact ⟨_, _, rfl, b_t3 _ _ _ (sd s) (i : Nat) ((i + 1 : Nat) : Int) _ a2 _ rfl h2 h1, fun _ => rfl, fun _ => ⟨_, rfl, rfl⟩⟩)
  rw [List.nil_append] at hf
  rw [mLc_of (vs := [5]) (m_it4 _ _ a2 _ j5 (L.map sd)) hf, hk]
theorem b_lg1 (a0 a1 : Sl) (i : Int) (F A B R : List D) (j3 j4 j5 k5 m5 p5 : Sl) (Y1 Y2 Y3 : M D) (hY1 : mLc [5] (mItems (mN 2)) (gN 5) t__law_log_1 e__law_log_1 = Y1) (hY2 : mLc [5] (mItems (mN 2)) (gN 5) t__law_log_2 e__law_log_2 = Y2) (hY3 : mLc [5] (mItems (mN 4)) (gN 5) t__law_log_3 e__law_log_3 = Y3)
    (h1 : Y1 [a0, a1, .val (.lst F), .val (.int i), j4, j5] = .ok (.lst A) [a0, a1, .val (.lst F), .val (.int i), j4, k5]) (h2 : Y2 [a0, a1, .val (.lst F), .val (.int i), j4, k5] = .ok (.lst B) [a0, a1, .val (.lst F), .val (.int i), j4, m5]) (ha : gAdd (.lst A) (.lst B) = some (.lst (A ++ B))) (h3 : Y3 [a0, a1, .val (.lst F), .val (.int i), .val (.lst (A ++ B)), m5] = .ok (.lst R) [a0, a1, .val (.lst F), .val (.int i), .val (.lst (A ++ B)), p5]) :
    turn (gN 3) l__law_log_1 (.int i) [a0, a1, .val (.lst F), j3, j4, j5] = .ok .nx [a0, a1, .val (.lst R), .val (.int i), .val (.lst (A ++ B)), p5] := by
  simp only [l__law_log_1, hY1, hY2, hY3]
  simp [h1, h2, ha, h3, mkF0, mkF1, fin0, fin1, st0, st1, bnd, Sr.ret, opt, mN, mNB, mB, der, m1, m2, m2b, m2r, mT, asB, mChain, mAnd, mOr, mNot, mAndV, mOrV, mNotV, mIf, mNil, mCons, mTup, mLst, mIsN, mNotN, Sr.isNon, mCal, mCal1, mIsi, mFldB, gFld, mC0, mC1, ap0, ap1, chkO, chkL, putL, mMk, apM, skp, sq, sDrop, sRet, sRetO, sIf, sSet, sSetO, sAsg, sPar, gN, gsN, gsC, gT, gA, sApp, sPutI, sNever, mItems, dItems, mRng, mRng2, gRng, gRng2, sFor, turn, gI, gI0, gLt, gLe, gGt, gGe, gAddI, gAddS, gAddT, gAddL, Sr.gSub, gMul, gMulI, gDiv, gMod, gPow, gNeg, gEq, gNe, dEq, eqS, gLen, gInt1, gMax2, gMin2, gAbs, gIx, gLtT, dInts, putD, gIsi, dKind, tInt, tOnly, List.map_cons, List.map_nil, List.length_cons, List.length_nil, List.cons_append, List.nil_append, List.getElem?_cons_zero, List.getElem?_cons_succ, List.set_cons_zero, List.set_cons_succ, List.replicate, Option.some_or, Option.none_or, Option.map_some, Option.map_none, Option.bind_some, Option.bind_none]
theorem logs_size (a b n k : Nat) : ∀ cs : List Bool, (Hi.logs a b n k cs).length ≤ 2 ^ cs.length
  | [] => Nat.le_refl 1
  | c :: cs => by
    have h := logs_size a b n k cs
    unfold Hi.logs
    refine Nat.le_trans (List.length_filter_le _ _) ?_
    rw [List.length_append, List.length_map, List.length_map, List.length_cons, Nat.pow_succ]
    omega
theorem logs_len {a b n k : Nat} (hn : 1 ≤ n) (cs s : List Bool) (h : s ∈ Hi.logs a b n k cs) : s.length = cs.length := ((Hi.logs_mem hn cs s).1 h).1
theorem f_lg (a b n k : Nat) (hn : 1 ≤ n) (w : List Bool) (hw : w.length ≤ 10) : ∀ (m i : Nat) (j3 j4 j5 : Sl), i + m = w.length → ∃ k3 k4 k5, forL (gN 3) l__law_log_1 ((List.range' i m).map fun (x : Nat) => D.int ((x : Nat) : Int)) [.val (nums a b n k), .val (.str (chk w)), .val (.lst ((Hi.logs a b n k (w.take i).reverse).map sd)), j3, j4, j5] = .ok .nx [.val (nums a b n k), .val (.str (chk w)), .val (.lst ((Hi.logs a b n k w.reverse).map sd)), k3, k4, k5]
  | 0, i, j3, j4, j5, hm => ⟨j3, j4, j5, by
    rw [List.take_of_length_le (by omega)]
    simp [forL, skp, Sr.ret]⟩
  | m + 1, i, j3, j4, j5, hm => by
    have hi : i < w.length := by omega
    have hlt : (w.take i).length = i := by rw [List.length_take]; omega
    have hs : ∀ s ∈ Hi.logs a b n k (w.take i).reverse, s.length = i := fun s h => by
      rw [logs_len hn _ s h, List.length_reverse, hlt]
    have hz : (Hi.logs a b n k (w.take i).reverse).length ≤ 1024 := by
      have h1 := logs_size a b n k (w.take i).reverse
      rw [List.length_reverse, hlt] at h1
      have h2 : 2 ^ i ≤ 2 ^ 10 := Nat.pow_le_pow_right (by decide) (by omega)
      have h3 : 2 ^ 10 = 1024 := by decide
      omega
    have hr : (w.take (i + 1)).reverse = w[i] :: (w.take i).reverse := by
      rw [List.take_succ_eq_append_getElem hi, List.reverse_append]
      rfl
    have hL : Hi.logs a b n k (w.take (i + 1)).reverse = (((Hi.logs a b n k (w.take i).reverse).map (· ++ [false])) ++ ((Hi.logs a b n k (w.take i).reverse).map (· ++ [true]))).filter fun s => Hi.alw a b n k s (w.take (i + 1)) := by
      have : Hi.logs a b n k (w[i] :: (w.take i).reverse) = (((Hi.logs a b n k (w.take i).reverse).map (· ++ [false])) ++ ((Hi.logs a b n k (w.take i).reverse).map (· ++ [true]))).filter fun s => Hi.alw a b n k s (w[i] :: (w.take i).reverse).reverse := rfl
      rw [hr, this, ← hr, List.reverse_reverse]
    generalize Hi.logs a b n k (w.take i).reverse = L at *
    obtain ⟨k5, h1⟩ := y_app1 (.val (nums a b n k)) (.val (.str (chk w))) (.val (.int (i : Nat))) j4 j5 L (fun s h => by rw [hs s h]; omega) (by omega)
    obtain ⟨m5, h2⟩ := y_app2 (.val (nums a b n k)) (.val (.str (chk w))) (.val (.int (i : Nat))) j4 k5 L (fun s h => by rw [hs s h]; omega) (by omega)
    have e : (L.map fun s => sd (s ++ [false])) ++ (L.map fun s => sd (s ++ [true])) = (L.map (· ++ [false]) ++ L.map (· ++ [true])).map sd := by
      rw [List.map_append, List.map_map, List.map_map]; rfl
    obtain ⟨p5, h3⟩ := y_flt a b n k w (by omega) i hi (.val (.lst (L.map sd))) m5 (L.map (· ++ [false]) ++ L.map (· ++ [true])) (fun s h => by
      rw [List.mem_append, List.mem_map, List.mem_map] at h
      rcases h with ⟨r, hr, rfl⟩ | ⟨r, hr, rfl⟩ <;> (have := hs r hr; simp [this])) (by simp; omega)
    rw [← hL, ← e] at h3
    have ht := b_lg1 _ _ (i : Nat) _ _ _ _ j3 j4 j5 k5 m5 p5 _ _ _ rfl rfl rfl h1 h2 (add_lst _ _ (by simp; omega)) h3
    obtain ⟨k3, k4, q5, h4⟩ := f_lg a b n k hn w hw m (i + 1) (.val (.int (i : Nat))) _ p5 (by omega)
    exact ⟨k3, k4, q5, by rw [List.range'_succ, List.map_cons, forL_cons_nx ht, h4]⟩
theorem b_log (N C : D) (m : Int) (r R : List D) (k3 k4 k5 : Sl) (X : List D → M Fl) (hX : forL (gN 3) l__law_log_1 = X) (hl : gLen C = some (.int m)) (hr : gRng [.int m] = some r) (h : X r [.val N, .val C, .val (.lst [.str ""]), .no, .no, .no] = .ok .nx [.val N, .val C, .val (.lst R), k3, k4, k5]) : f__law_log .non [N, C] = .ok (.lst R) .non := by
  simp only [f__law_log, b__law_log, sFor, hX]
  simp [hl, hr, h, sizeLine, mkF0, mkF1, fin0, fin1, st0, st1, bnd, Sr.ret, opt, mN, mNB, mB, der, m1, m2, m2b, m2r, mT, asB, mChain, mAnd, mOr, mNot, mAndV, mOrV, mNotV, mIf, mNil, mCons, mTup, mLst, mIsN, mNotN, Sr.isNon, mCal, mCal1, mIsi, mFldB, gFld, mC0, mC1, ap0, ap1, chkO, chkL, putL, mMk, apM, skp, sq, sDrop, sRet, sRetO, sIf, sSet, sSetO, sAsg, sPar, gN, gsN, gsC, gT, gA, sApp, sPutI, sNever, mItems, dItems, mRng, mRng2, gRng2, turn, gI, gI0, gLt, gLe, gGt, gGe, gAdd, gAddI, gAddS, gAddT, gAddL, Sr.gSub, gMul, gMulI, gDiv, gMod, gPow, gNeg, gEq, gNe, dEq, eqS, gInt1, gMax2, gMin2, gAbs, gIx, gLtT, dInts, putD, gIsi, dKind, tInt, tOnly, List.map_cons, List.map_nil, List.length_cons, List.length_nil, List.cons_append, List.nil_append, List.getElem?_cons_zero, List.getElem?_cons_succ, List.set_cons_zero, List.set_cons_succ, List.replicate, Option.some_or, Option.none_or, Option.map_some, Option.map_none, Option.bind_some, Option.bind_none]
theorem s_log (a b n k : Nat) (hn : 1 ≤ n) (w : List Bool) (hw : w.length ≤ 10) : f__law_log .non [nums a b n k, .str (chk w)] = .ok (.lst ((Hi.logs a b n k w.reverse).map sd)) .non := by
  obtain ⟨k3, k4, k5, h⟩ := f_lg a b n k hn w hw w.length 0 .no .no .no (by omega)
  rw [← List.range_eq_range'] at h
  have e0 : ((Hi.logs a b n k (w.take 0).reverse).map sd) = [.str ""] := by
    rw [List.take_zero]
    have : sts [] = ("" : Str) := by decide
    show [D.str (sts [])] = _
    rw [this]
  rw [e0] at h
  exact b_log _ _ (w.length : Nat) _ _ k3 k4 k5 _ rfl (len_c w (by omega)) (rng_nats w.length (by omega)) h
theorem toN (a : Int) (h : 0 ≤ a) : ∃ n : Nat, a = (n : Nat) := ⟨a.toNat, by omega⟩
theorem b_sm0 (o o1 o2 o3 o4 : D) (r0 r1 r2 r3 p q s : Int) (e0 : f__law_draw o [.int 3] = .ok (.int r0) o1) (h0 : gEq (.int r0) (.int 0) = some (.bl true)) (e1 : f__law_draw o1 [.int 5] = .ok (.int r1) o2) (e2 : f__law_draw o2 [.int 4] = .ok (.int r2) o3) (e3 : f__law_draw o3 [.int 2] = .ok (.int r3) o4) (a1 : gAdd (.int 1) (.int r1) = some (.int s)) (mu1 : gMul (.int r2) (.int r3) = some (.int p)) (mu2 : gMul (.int r2) (.int (1 - r3)) = some (.int q)) : f__law_small o [] = .ok (.tup [.int p, .int q, .int s, .int 1]) o4 := by
  have z4 : (4 : Nat) ≤ sizeLine := by decide
  have s1 : gSub (.int 1) (.int r3) = some (.int (1 - r3)) := rfl
  simp [f__law_small, b__law_small, e0, h0, e1, e2, e3, a1, mu1, mu2, s1, z4, mkF0, mkF1, fin0, fin1, st0, st1, bnd, Sr.ret, opt, mN, mNB, mB, der, m1, m2, m2b, m2r, mT, asB, mChain, mAnd, mOr, mNot, mAndV, mOrV, mNotV, mIf, mNil, mCons, mTup, mLst, mIsN, mNotN, Sr.isNon, mCal, mCal1, mIsi, mFldB, gFld, mC0, mC1, ap0, ap1, chkO, chkL, putL, mMk, apM, skp, sq, sDrop, sRet, sRetO, sIf, sSet, sSetO, sAsg, sPar, gN, gsN, gsC, gT, gA, sApp, sPutI, sNever, mItems, dItems, mRng, mRng2, gRng, gRng2, sFor, turn, gI, gI0, gLt, gLe, gGt, gGe, gAddI, gAddS, gAddT, gAddL, gMulI, gDiv, gMod, gPow, gNeg, gNe, dEq, eqS, gLen, gInt1, gMax2, gMin2, gAbs, gIx, gLtT, dInts, putD, gIsi, dKind, tInt, tOnly, List.map_cons, List.map_nil, List.length_cons, List.length_nil, List.cons_append, List.nil_append, List.getElem?_cons_zero, List.getElem?_cons_succ, List.set_cons_zero, List.set_cons_succ, List.replicate, Option.some_or, Option.none_or, Option.map_some, Option.map_none, Option.bind_some, Option.bind_none]
theorem b_sm1 (o o1 o2 o3 o4 o5 : D) (r0 r1 r2 r3 r4 s k x m : Int) (B : Bool) (e0 : f__law_draw o [.int 3] = .ok (.int r0) o1) (h0 : gEq (.int r0) (.int 0) = some (.bl false)) (e1 : f__law_draw o1 [.int 3] = .ok (.int r1) o2) (a1 : gAdd (.int 1) (.int r1) = some (.int s)) (e2 : f__law_draw o2 [.int 3] = .ok (.int r2) o3) (e3 : f__law_draw o3 [.int 3] = .ok (.int r3) o4) (e4 : f__law_draw o4 [.int 2] = .ok (.int r4) o5) (l : gLt (.int s) (.int 3) = some (.bl B)) (i1 : gInt1 [.bl B] = some (.int x)) (mu1 : gMul (.int r4) (.int x) = some (.int m)) (a2 : gAdd (.int 1) (.int m) = some (.int k)) : f__law_small o [] = .ok (.tup [.int r2, .int r3, .int s, .int k]) o5 := by
  have z4 : (4 : Nat) ≤ sizeLine := by decide
  simp [f__law_small, b__law_small, e0, h0, e1, e2, e3, e4, a1, l, i1, mu1, a2, z4, mkF0, mkF1, fin0, fin1, st0, st1, bnd, Sr.ret, opt, mN, mNB, mB, der, m1, m2, m2b, m2r, mT, asB, mChain, mAnd, mOr, mNot, mAndV, mOrV, mNotV, mIf, mNil, mCons, mTup, mLst, mIsN, mNotN, Sr.isNon, mCal, mCal1, mIsi, mFldB, gFld, mC0, mC1, ap0, ap1, chkO, chkL, putL, mMk, apM, skp, sq, sDrop, sRet, sRetO, sIf, sSet, sSetO, sAsg, sPar, gN, gsN, gsC, gT, gA, sApp, sPutI, sNever, mItems, dItems, mRng, mRng2, gRng, gRng2, sFor, turn, gI, gI0, gLe, gGt, gGe, gAddI, gAddS, gAddT, gAddL, Sr.gSub, gMulI, gDiv, gMod, gPow, gNeg, gNe, dEq, eqS, gLen, gMax2, gMin2, gAbs, gIx, gLtT, dInts, putD, gIsi, dKind, tInt, tOnly, List.map_cons, List.map_nil, List.length_cons, List.length_nil, List.cons_append, List.nil_append, List.getElem?_cons_zero, List.getElem?_cons_succ, List.set_cons_zero, List.set_cons_succ, List.replicate, Option.some_or, Option.none_or, Option.map_some, Option.map_none, Option.bind_some, Option.bind_none]
theorem mulI (a b : Int) (hb : b = 0 ∨ b = 1) : gMul (.int a) (.int b) = some (.int (a * b)) := by
  rcases hb with rfl | rfl <;> simp [gMul, gMulI, gI, cMul]
theorem s_small (o : D) (ho : PenOk o) : ∃ a b n k : Nat, ∃ o', f__law_small o [] = .ok (nums (a : Nat) (b : Nat) (n : Nat) (k : Nat)) o' ∧ a ≤ 5 ∧ b ≤ 5 ∧ (1 ≤ n ∧ n ≤ 5) ∧ (1 ≤ k ∧ k ≤ 4) ∧ PenOk o' := by
  obtain ⟨r0, o1, e0, p0, p0', v1⟩ := s_draw o 3 ho (by omega) (by omega)
  have q0 : gEq (.int r0) (.int 0) = some (.bl (decide (r0 = 0))) := by simp [gEq, dEq, eqS]
  by_cases h : r0 = 0
  · rw [decide_eq_true h] at q0
    obtain ⟨r1, o2, e1, p1, p1', v2⟩ := s_draw o1 5 v1 (by omega) (by omega)
    obtain ⟨r2, o3, e2, p2, p2', v3⟩ := s_draw o2 4 v2 (by omega) (by omega)
    obtain ⟨r3, o4, e3, p3, p3', v4⟩ := s_draw o3 2 v3 (by omega) (by omega)
    obtain ⟨n1, rfl⟩ := toN r1 p1
    obtain ⟨n2, rfl⟩ := toN r2 p2
    have hr : r3 = 0 ∨ r3 = 1 := by omega
    rcases hr with rfl | rfl
    · refine ⟨0, n2, n1 + 1, 1, o4, b_sm0 o o1 o2 o3 o4 r0 _ _ 0 0 (n2 : Nat) ((n1 + 1 : Nat) : Int) e0 q0 e1 e2 e3 ?_ ?_ ?_, by omega, by omega, by omega, by omega, v4⟩
      · show some (D.int (1 + (n1 : Int))) = _
        congr 2; omega
      · rw [mulI _ _ (.inl rfl), Int.mul_zero]
      · rw [show (1 : Int) - 0 = 1 by omega, mulI _ _ (.inr rfl), Int.mul_one]
    · refine ⟨n2, 0, n1 + 1, 1, o4, b_sm0 o o1 o2 o3 o4 r0 _ _ 1 (n2 : Nat) 0 ((n1 + 1 : Nat) : Int) e0 q0 e1 e2 e3 ?_ ?_ ?_, by omega, by omega, by omega, by omega, v4⟩
      · show some (D.int (1 + (n1 : Int))) = _
        congr 2; omega
      · rw [mulI _ _ (.inr rfl), Int.mul_one]
      · rw [show (1 : Int) - 1 = 0 by omega, mulI _ _ (.inl rfl), Int.mul_zero]
  · rw [decide_eq_false h] at q0
    obtain ⟨r1, o2, e1, p1, p1', v2⟩ := s_draw o1 3 v1 (by omega) (by omega)
    obtain ⟨r2, o3, e2, p2, p2', v3⟩ := s_draw o2 3 v2 (by omega) (by omega)
    obtain ⟨r3, o4, e3, p3, p3', v4⟩ := s_draw o3 3 v3 (by omega) (by omega)
    obtain ⟨r4, o5, e4, p4, p4', v5⟩ := s_draw o4 2 v4 (by omega) (by omega)
    obtain ⟨n1, rfl⟩ := toN r1 p1
    obtain ⟨n2, rfl⟩ := toN r2 p2
    obtain ⟨n3, rfl⟩ := toN r3 p3
    obtain ⟨x, hx, hx2⟩ : ∃ x : Int, gInt1 [.bl (decide (((n1 + 1 : Nat) : Int) < 3))] = some (.int x) ∧ (x = 0 ∨ x = 1) := by
      cases decide (((n1 + 1 : Nat) : Int) < 3)
      · exact ⟨0, rfl, .inl rfl⟩
      · exact ⟨1, rfl, .inr rfl⟩
    obtain ⟨m, hm, hm2⟩ : ∃ m : Int, gMul (.int r4) (.int x) = some (.int m) ∧ (m = 0 ∨ m = 1) := by
      have hr : r4 = 0 ∨ r4 = 1 := by omega
      rcases hr with rfl | rfl <;> rcases hx2 with rfl | rfl
      · exact ⟨0, rfl, .inl rfl⟩
      · exact ⟨0, rfl, .inl rfl⟩
      · exact ⟨0, rfl, .inl rfl⟩
      · exact ⟨1, rfl, .inr rfl⟩
    obtain ⟨c, hc, hc2⟩ : ∃ c : Nat, gAdd (.int 1) (.int m) = some (.int (c : Nat)) ∧ 1 ≤ c ∧ c ≤ 4 := by
      rcases hm2 with rfl | rfl
      · exact ⟨1, rfl, by omega, by omega⟩
      · exact ⟨2, rfl, by omega, by omega⟩
    refine ⟨n2, n3, n1 + 1, c, o5, b_sm1 o o1 o2 o3 o4 o5 r0 _ _ _ r4 ((n1 + 1 : Nat) : Int) (c : Nat) x m _ e0 q0 e1 ?_ e2 e3 e4 rfl hx hm hc, by omega, by omega, by omega, hc2, v5⟩
    show some (D.int (1 + (n1 : Int))) = _
    congr 2; omega
theorem b_bet (X Y x0 x1 y0 y1 : D) (P1 P2 P3 : Bool) (hn : Sr.isNon X = false) (h0 : gIx X (.int 0) = some x0) (h1 : gIx X (.int 1) = some x1) (g0 : gIx Y (.int 0) = some y0) (g1 : gIx Y (.int 1) = some y1) (p1 : gLt y0 x0 = some (.bl P1)) (p2 : gEq y0 x0 = some (.bl P2)) (p3 : gLtS y1 x1 = some (.bl P3)) : f__law_better .non [X, Y] = .ok (if (P1 || (P2 && P3)) = true then Y else X) .non := by
  cases P1 <;> cases P2 <;> cases P3 <;> simp [f__law_better, b__law_better, hn, h0, h1, g0, g1, p1, p2, p3, mkF0, mkF1, fin0, fin1, st0, st1, bnd, Sr.ret, opt, mN, mNB, mB, der, m1, m2, m2b, m2r, mT, asB, mChain, mAnd, mOr, mNot, mAndV, mOrV, mNotV, mIf, mNil, mCons, mTup, mLst, mIsN, mNotN, mCal, mCal1, mIsi, mFldB, gFld, mC0, mC1, ap0, ap1, chkO, chkL, putL, mMk, apM, skp, sq, sDrop, sRet, sRetO, sIf, sSet, sSetO, sAsg, sPar, gN, gsN, gsC, gT, gA, sApp, sPutI, sNever, mItems, dItems, mRng, mRng2, gRng, gRng2, sFor, turn, gI, gI0, gLe, gGt, gGe, gAdd, gAddI, gAddS, gAddT, gAddL, Sr.gSub, gMul, gMulI, gDiv, gMod, gPow, gNeg, gNe, dEq, eqS, gLen, gInt1, gMax2, gMin2, gAbs, gLtT, dInts, putD, gIsi, dKind, tInt, tOnly, List.map_cons, List.map_nil, List.length_cons, List.length_nil, List.cons_append, List.nil_append, List.getElem?_cons_zero, List.getElem?_cons_succ, List.set_cons_zero, List.set_cons_succ, List.replicate, Option.some_or, Option.none_or, Option.map_some, Option.map_none, Option.bind_some, Option.bind_none]
theorem s_bet (o : Option Hi.Fw) (v : Hi.Fw) : f__law_better .non [opD o, fwD v] = .ok (fwD (bet o v)) .non := by
  cases o with
  | none =>
    show f__law_better .non [.non, fwD v] = .ok (fwD v) .non
    have hn : Sr.isNon .non = true := rfl
    generalize fwD v = d
    simp [f__law_better, b__law_better, hn, mkF0, mkF1, fin0, fin1, st0, st1, bnd, Sr.ret, opt, mN, mNB, mB, der, m1, m2, m2b, m2r, mT, asB, mChain, mAnd, mOr, mNot, mAndV, mOrV, mNotV, mIf, mNil, mCons, mTup, mLst, mIsN, mNotN, mCal, mCal1, mIsi, mFldB, gFld, mC0, mC1, ap0, ap1, chkO, chkL, putL, mMk, apM, skp, sq, sDrop, sRet, sRetO, sIf, sSet, sSetO, sAsg, sPar, gN, gsN, gsC, gT, gA, sApp, sPutI, sNever, mItems, dItems, mRng, mRng2, gRng, gRng2, sFor, turn, gI, gI0, gLt, gLe, gGt, gGe, gAdd, gAddI, gAddS, gAddT, gAddL, Sr.gSub, gMul, gMulI, gDiv, gMod, gPow, gNeg, gEq, gNe, dEq, eqS, gLen, gInt1, gMax2, gMin2, gAbs, gIx, gLtT, dInts, putD, gIsi, dKind, tInt, tOnly, List.map_cons, List.map_nil, List.length_cons, List.length_nil, List.cons_append, List.nil_append, List.getElem?_cons_zero, List.getElem?_cons_succ, List.set_cons_zero, List.set_cons_succ, List.replicate, Option.some_or, Option.none_or, Option.map_some, Option.map_none, Option.bind_some, Option.bind_none]
  | some u =>
    have p1 : gLt (.int ((v.1 : Nat) : Int)) (.int ((u.1 : Nat) : Int)) = some (.bl (decide (((v.1 : Nat) : Int) < (u.1 : Nat)))) := rfl
    have p2 : gEq (.int ((v.1 : Nat) : Int)) (.int ((u.1 : Nat) : Int)) = some (.bl (decide (((v.1 : Nat) : Int) = (u.1 : Nat)))) := by simp only [gEq, dEq, eqS]; rfl
    have h := b_bet (fwD u) (fwD v) _ _ _ _ _ _ _ rfl rfl rfl rfl rfl p1 p2 rfl
    have e : (decide (((v.1 : Nat) : Int) < (u.1 : Nat)) || (decide (((v.1 : Nat) : Int) = (u.1 : Nat)) && decide ((sts v.2).cps.toList < (sts u.2).cps.toList))) = Hi.ltv v u := by
      have e : ∀ s : List Bool, (sts s).cps.toList = s.map Hi.ud := fun s => by
        unfold sts
        rfl
      rw [e, e]
      unfold Hi.ltv
      by_cases h : v.1 = u.1
      · rw [if_pos h, h]
        simp
      · rw [if_neg h, decide_eq_false (p := ((v.1 : Nat) : Int) = (u.1 : Nat)) (by omega), Bool.false_and, Bool.or_false]
        by_cases g : v.1 < u.1
        · rw [decide_eq_true g, decide_eq_true (by omega)]
        · rw [decide_eq_false g, decide_eq_false (by omega)]
    rw [e] at h
    refine h.trans ?_
    show _ = Rs.ok (fwD (Hi.minv v u)) _
    unfold Hi.minv
    cases Hi.ltv v u <;> rfl
theorem bet_step (o : Option Hi.Fw) (v : Hi.Fw) : fwD (bet o v) = opD (Hi.lstep o v) := by cases o <;> rfl
theorem ix_c (w : List Bool) (i : Nat) (h : i < w.length) (hl : w.length ≤ 1000) : gIx (.str (chk w)) (.int (i : Nat)) = some (.str (chk [w[i]])) := by
  have := ix_S (w.map fun b => if b then 43 else 45) i (by simpa using h) (by rw [List.length_map]; omega)
  rw [List.getElem_map] at this
  exact this
theorem ix_cD (w : List Bool) (i : Nat) (h : i < w.length) (hl : w.length ≤ 1000) : gIx (.str (chk w)) (.int (i : Nat)) = some (.str (chk [w.getD i false])) := by
  rw [ix_c w i h hl]
  simp [List.getD, h]
theorem b_td (a0 a2 a4 Z C : D) (x2 x4 : Sl) (i : Int) (zs zc zf : Str) (P : Bool) (h1 : gIx Z (.int i) = some (.str zs)) (h2 : gIx C (.int i) = some (.str zc)) (hf : f__law_flag .non [.str zs, .str zc] = .ok (.str zf) .non) (ne : gNe (.str zf) (.str ".") = some (.bl P)) : t__law_due_1 [.val a0, .val C, x2, .val Z, x4, .val (.int i)] = .ok P [.val a0, .val C, x2, .val Z, x4, .val (.int i)] := by
  simp [t__law_due_1, h1, h2, hf, ne, mkF0, mkF1, fin0, fin1, st0, st1, bnd, Sr.ret, opt, mN, mNB, mB, der, m1, m2, m2b, m2r, mT, asB, mChain, mAnd, mOr, mNot, mAndV, mOrV, mNotV, mIf, mNil, mCons, mTup, mLst, mIsN, mNotN, Sr.isNon, mCal, mCal1, mIsi, mFldB, gFld, mC0, mC1, ap0, ap1, chkO, chkL, putL, mMk, apM, skp, sq, sDrop, sRet, sRetO, sIf, sSet, sSetO, sAsg, sPar, gN, gsN, gsC, gT, gA, sApp, sPutI, sNever, mItems, dItems, mRng, mRng2, gRng, gRng2, sFor, turn, gI, gI0, gLt, gLe, gGt, gGe, gAdd, gAddI, gAddS, gAddT, gAddL, Sr.gSub, gMul, gMulI, gDiv, gMod, gPow, gNeg, gEq, dEq, eqS, gLen, gInt1, gMax2, gMin2, gAbs, gLtT, dInts, putD, gIsi, dKind, tInt, tOnly, List.map_cons, List.map_nil, List.length_cons, List.length_nil, List.cons_append, List.nil_append, List.getElem?_cons_zero, List.getElem?_cons_succ, List.set_cons_zero, List.set_cons_succ, List.replicate, Option.some_or, Option.none_or, Option.map_some, Option.map_none, Option.bind_some, Option.bind_none]
theorem m_rng0 (N Z : D) (w : Int) (r : List D) (a2 a3 a4 j5 : Sl) (hg : gLen Z = some (.int w)) (hr : gRng [.int w] = some r) : mRng (mCons (m1 gLen (mN 1)) mNil) [.val N, .val Z, a2, a3, a4, j5] = .ok r [.val N, .val Z, a2, a3, a4, j5] := by
  simp [mRng, mCons, mNil, m1, mN, bnd, opt, Sr.ret, hg, hr]
theorem y_td (N : D) (s w : List Bool) (hl : s.length = w.length) (hw : w.length ≤ 1000) (x2 x4 j5 : Sl) : ∃ k5, mLc [5] (mRng (mCons (m1 gLen (mN 1)) mNil)) (gN 5) t__law_due_1 e__law_due_1 [.val N, .val (.str (chk w)), x2, .val (.str (sts s)), x4, j5] = .ok (.lst (((List.range w.length).filter fun i => !(s.getD i false == w.getD i false)).map fun _ => D.int 1)) [.val N, .val (.str (chk w)), x2, .val (.str (sts s)), x4, k5] := by
  obtain ⟨k5, hk⟩ := r_rst5 (.val N) (.val (.str (chk w))) x2 (.val (.str (sts s))) x4 j5
  refine ⟨k5, ?_⟩
  have hm : mRng (mCons (m1 gLen (mN 1)) mNil) [.val N, .val (.str (chk w)), x2, .val (.str (sts s)), x4, j5] = .ok ((List.range w.length).map fun (x : Nat) => D.int ((x : Nat) : Int)) [.val N, .val (.str (chk w)), x2, .val (.str (sts s)), x4, j5] := m_rng0 N (.str (chk w)) (w.length : Nat) _ x2 (.val (.str (sts s))) x4 j5 (len_c w hw) (rng_nats w.length (by omega))
  have hf := lcL_filter (w := gN 5) (t := t__law_due_1) (el := e__law_due_1) (vs := [5]) (fun (x : Nat) => D.int ((x : Nat) : Int)) (fun _ => D.int 1) (fun i => !(s.getD i false == w.getD i false)) [.val N, .val (.str (chk w)), x2, .val (.str (sts s)), x4, .no] (List.range w.length) [] (by simp; omega) (fun i hi => by
    rw [List.mem_range] at hi
    exact ⟨_, _, rfl, b_td N .non .non (.str (sts s)) (.str (chk w)) x2 x4 (i : Nat) _ _ _ _ (ix_sts1 s i (by omega) (by omega)) (ix_cD w i hi hw) (s_flag _ _) (ne_fl _ _), fun _ => rfl, fun _ => ⟨_, rfl, rfl⟩⟩)
  rw [List.nil_append] at hf
  rw [mLc_of (vs := [5]) hm hf, hk]
theorem b_du1 (N C Z d d' : D) (R : List D) (m : Int) (j3 j4 j5 k5 : Sl) (Y : M D) (hY : mLc [5] (mRng (mCons (m1 gLen (mN 1)) mNil)) (gN 5) t__law_due_1 e__law_due_1 = Y) (y : Y [.val N, .val C, .val d, .val Z, j4, j5] = .ok (.lst R) [.val N, .val C, .val d, .val Z, j4, k5]) (hg : gLen (.lst R) = some (.int m)) (hb : f__law_better .non [d, .tup [.int m, Z]] = .ok d' .non) : turn (gN 3) l__law_due_1 Z [.val N, .val C, .val d, j3, j4, j5] = .ok .nx [.val N, .val C, .val d', .val Z, .val (.int m), k5] := by
  have hz2 : (2 : Nat) ≤ sizeLine := by decide
  simp only [l__law_due_1, hY]
  simp [y, hg, hb, hz2, mkF0, mkF1, fin0, fin1, st0, st1, bnd, Sr.ret, opt, mN, mNB, mB, der, m1, m2, m2b, m2r, mT, asB, mChain, mAnd, mOr, mNot, mAndV, mOrV, mNotV, mIf, mNil, mCons, mTup, mLst, mIsN, mNotN, Sr.isNon, mCal, mCal1, mIsi, mFldB, gFld, mC0, mC1, ap0, ap1, chkO, chkL, putL, mMk, apM, skp, sq, sDrop, sRet, sRetO, sIf, sSet, sSetO, sAsg, sPar, gN, gsN, gsC, gT, gA, sApp, sPutI, sNever, mItems, dItems, mRng, mRng2, gRng, gRng2, sFor, turn, gI, gI0, gLt, gLe, gGt, gGe, gAdd, gAddI, gAddS, gAddT, gAddL, Sr.gSub, gMul, gMulI, gDiv, gMod, gPow, gNeg, gEq, gNe, dEq, eqS, gInt1, gMax2, gMin2, gAbs, gIx, gLtT, dInts, putD, gIsi, dKind, tInt, tOnly, List.map_cons, List.map_nil, List.length_cons, List.length_nil, List.cons_append, List.nil_append, List.getElem?_cons_zero, List.getElem?_cons_succ, List.set_cons_zero, List.set_cons_succ, List.replicate, Option.some_or, Option.none_or, Option.map_some, Option.map_none, Option.bind_some, Option.bind_none]
theorem f_du (N : D) (w : List Bool) (hw : w.length ≤ 1000) : ∀ (L : List (List Bool)) (o : Option Hi.Fw) (j3 j4 j5 : Sl), (∀ s ∈ L, s.length = w.length) → ∃ k3 k4 k5, forL (gN 3) l__law_due_1 (L.map sd) [.val N, .val (.str (chk w)), .val (opD o), j3, j4, j5] = .ok .nx [.val N, .val (.str (chk w)), .val (opD ((L.map fun s => (Hi.er s w, s)).foldl Hi.lstep o)), k3, k4, k5]
  | [], o, j3, j4, j5, _ => ⟨j3, j4, j5, rfl⟩
  | s :: L, o, j3, j4, j5, h => by
    have hs := h s (by simp)
    obtain ⟨k5, y⟩ := y_td N s w hs hw (.val (opD o)) j4 j5
    have hg : gLen (.lst (((List.range w.length).filter fun i => !(s.getD i false == w.getD i false)).map fun _ => D.int 1)) = some (.int (Hi.er s w : Nat)) := by
      rw [← Hi.er_count s w hs]
      have hle := List.length_filter_le (fun i => !(s.getD i false == w.getD i false)) (List.range w.length)
      rw [List.length_range] at hle
      have z : (((List.range w.length).filter fun i => !(s.getD i false == w.getD i false)).map fun _ => D.int 1).length ≤ sizeLine := by
        have e : sizeLine = 16777216 := by decide
        rw [List.length_map]; omega
      have e : gLen (.lst (((List.range w.length).filter fun i => !(s.getD i false == w.getD i false)).map fun _ => D.int 1)) = some (.int ((((List.range w.length).filter fun i => !(s.getD i false == w.getD i false)).map fun _ => D.int 1).length : Nat)) := by
        simp only [gLen]
      rw [e, List.length_map]
    have hb := s_bet o (Hi.er s w, s)
    rw [bet_step] at hb
    have t := b_du1 N (.str (chk w)) (sd s) (opD o) _ _ _ j3 j4 j5 k5 _ rfl y hg hb
    obtain ⟨m3, m4, m5, ih⟩ := f_du N w hw L (Hi.lstep o (Hi.er s w, s)) (.val (sd s)) (.val (.int (Hi.er s w : Nat))) k5 (fun x hx => h x (by simp [hx]))
    exact ⟨m3, m4, m5, by rw [List.map_cons]; exact (forL_cons_nx t).trans ih⟩
theorem b_du (N C : D) (R : List D) (d : D) (k3 k4 k5 : Sl) (hl : f__law_log .non [N, C] = .ok (.lst R) .non) (X : List D → M Fl) (hX : forL (gN 3) l__law_due_1 = X) (h : X R [.val N, .val C, .val .non, .no, .no, .no] = .ok .nx [.val N, .val C, .val d, k3, k4, k5]) : f__law_due .non [N, C] = .ok d .non := by
  simp only [f__law_due, b__law_due, sFor, hX]
  simp [hl, h, mkF0, mkF1, fin0, fin1, st0, st1, bnd, Sr.ret, opt, mN, mNB, mB, der, m1, m2, m2b, m2r, mT, asB, mChain, mAnd, mOr, mNot, mAndV, mOrV, mNotV, mIf, mNil, mCons, mTup, mLst, mIsN, mNotN, Sr.isNon, mCal, mCal1, mIsi, mFldB, gFld, mC0, mC1, ap0, ap1, chkO, chkL, putL, mMk, apM, skp, sq, sDrop, sRet, sRetO, sIf, sSet, sSetO, sAsg, sPar, gN, gsN, gsC, gT, gA, sApp, sPutI, sNever, mItems, dItems, mRng, mRng2, gRng, gRng2, turn, gI, gI0, gLt, gLe, gGt, gGe, gAdd, gAddI, gAddS, gAddT, gAddL, Sr.gSub, gMul, gMulI, gDiv, gMod, gPow, gNeg, gEq, gNe, dEq, eqS, gLen, gInt1, gMax2, gMin2, gAbs, gIx, gLtT, dInts, putD, gIsi, dKind, tInt, tOnly, List.map_cons, List.map_nil, List.length_cons, List.length_nil, List.cons_append, List.nil_append, List.getElem?_cons_zero, List.getElem?_cons_succ, List.set_cons_zero, List.set_cons_succ, List.replicate, Option.some_or, Option.none_or, Option.map_some, Option.map_none, Option.bind_some, Option.bind_none]
theorem s_due (a b n k : Nat) (hn : 1 ≤ n) (w : List Bool) (hw : w.length ≤ 10) : f__law_due .non [nums a b n k, .str (chk w)] = .ok (opD (Hi.lst ((Hi.logs a b n k w.reverse).map fun s => (Hi.er s w, s)))) .non := by
  obtain ⟨k3, k4, k5, h⟩ := f_du (nums a b n k) w (by omega) (Hi.logs a b n k w.reverse) none .no .no .no (fun s hs => by rw [logs_len hn _ s hs, List.length_reverse])
  exact b_du _ _ _ _ k3 k4 k5 (s_log a b n k hn w hw) _ rfl h
theorem b_lg2 (N C a3 : Sl) (ds : List (Key × D)) (Cd K K' u r : D) (z zi zy zc zf zs zs' : Str) (i e d e' : Int) (P : Bool) (j7 j8 j9 : Sl) (h2 : gDg (.dk ds) (.str z) = some (.tup [.int e, .str zs])) (g0 : gIx (.tup [.int e, .str zs]) (.int 0) = some (.int e)) (g1 : gIx (.tup [.int e, .str zs]) (.int 1) = some (.str zs)) (hx : gIx Cd (.int i) = some (.str zc)) (hf : f__law_flag .non [.str zi, .str zc] = .ok (.str zf) .non) (ne : gNe (.str zf) (.str ".") = some (.bl P)) (ii : gInt1 [.bl P] = some (.int d)) (ad : gAdd (.int e) (.int d) = some (.int e')) (as : gAdd (.str zs) (.str zi) = some (.str zs')) (hd : isDk K = some ()) (hc : isDct K = true) (g : gDget K (.str zy) .non = some u) (hb : f__law_better .non [u, .tup [.int e', .str zs']] = .ok r .non) (q : gPutD K (.str zy) r = some K') :
    turn (gT 2 (gsC (gN 7) (gsC (gN 8) gsN))) l__law_long_2 (.tup [.str zi, .str zy]) [N, .val Cd, .val (.dk ds), a3, .val (.str z), .val (.int i), .own K, j7, j8, j9] = .ok .nx [N, .val Cd, .val (.dk ds), a3, .val (.str z), .val (.int i), .own K', .val (.str zi), .val (.str zy), .val (.int e')] := by
  have hz2 : (2 : Nat) ≤ sizeLine := by decide
  simp [l__law_long_2, m3g, sPutD, putDD, chkD, h2, g0, g1, hx, hf, ne, ii, ad, as, hd, hc, g, hb, q, hz2, mkF0, mkF1, fin0, fin1, st0, st1, bnd, Sr.ret, opt, mN, mNB, mB, der, m1, m2, m2b, m2r, mT, asB, mChain, mAnd, mOr, mNot, mAndV, mOrV, mNotV, mIf, mNil, mCons, mTup, mLst, mIsN, mNotN, Sr.isNon, mCal, mCal1, mIsi, mFldB, gFld, mC0, mC1, ap0, ap1, chkO, chkL, putL, mMk, apM, skp, sq, sDrop, sRet, sRetO, sIf, sSet, sSetO, sAsg, sPar, gN, gsN, gsC, gT, gA, sApp, sPutI, sNever, mItems, dItems, mRng, mRng2, gRng, gRng2, sFor, turn, gI, gI0, gLt, gLe, gGt, gGe, gAddI, gAddS, gAddT, gAddL, Sr.gSub, gMul, gMulI, gDiv, gMod, gPow, gNeg, gEq, dEq, eqS, gLen, gMax2, gMin2, gAbs, gLtT, dInts, putD, gIsi, dKind, tInt, tOnly, List.map_cons, List.map_nil, List.length_cons, List.length_nil, List.cons_append, List.nil_append, List.getElem?_cons_zero, List.getElem?_cons_succ, List.set_cons_zero, List.set_cons_succ, List.replicate, Option.some_or, Option.none_or, Option.map_some, Option.map_none, Option.bind_some, Option.bind_none]
theorem f_lg2 {a b n k m : Nat} (hn5 : n ≤ 5) (hk4 : k ≤ 4) (N a3 : Sl) (Cd : D) (c : Bool) (i : Int) (hx : gIx Cd (.int i) = some (.str (chk [c]))) (ds : List (Key × D)) (z : Str) (v : Hi.Fw) (hv : v.2.length + 1 = m) (hm : m ≤ 500) (h2 : gDg (.dk ds) (.str z) = some (fwD v)) : ∀ (qs : List (Bool × Hi.Sit)) (l : Hi.BL) (j7 j8 j9 : Sl), Binv a b n k m l → (∀ q ∈ qs, Hi.SitOk a b n k 1 q.2) → ∃ k7 k8 k9, forL (gT 2 (gsC (gN 7) (gsC (gN 8) gsN))) l__law_long_2 (qs.map nxD) [N, .val Cd, .val (.dk ds), a3, .val (.str z), .val (.int i), .own (.dk (bstD l)), j7, j8, j9] = .ok .nx [N, .val Cd, .val (.dk ds), a3, .val (.str z), .val (.int i), .own (.dk (bstD ((qs.map fun q => (q.2, (v.1 + Hi.dif q.1 c, v.2 ++ [q.1]))).foldl Hi.addB l))), k7, k8, k9] ∧ Binv a b n k m ((qs.map fun q => (q.2, (v.1 + Hi.dif q.1 c, v.2 ++ [q.1]))).foldl Hi.addB l)
  | [], l, j7, j8, j9, hi, _ => ⟨j7, j8, j9, rfl, hi⟩
  | q :: qs, l, j7, j8, j9, hi, h => by
    have hy := h q (by simp)
    have hc := val_bst hy l hi.okB
    have as := add_s v.2 [q.1] (by simp; omega)
    have pb := put_bst hi hy (v.1 + Hi.dif q.1 c, v.2 ++ [q.1])
    have hlen := binvLen hi hn5 hk4
    have hi2 := binvAdd hi (r := (q.2, (v.1 + Hi.dif q.1 c, v.2 ++ [q.1]))) hy (by simp; omega)
    have hg : gDget (.dk (bstD l)) (.str (enc q.2)) .non = some (opD (curB l q.2)) := by
      show ((some (valD (bstD l) (.inr (enc q.2)))).map fun o => o.getD .non) = _
      rw [hc, Option.map_some]
      cases curB l q.2 <;> rfl
    have pq : gPutD (.dk (bstD l)) (.str (enc q.2)) (fwD (bet (curB l q.2) (v.1 + Hi.dif q.1 c, v.2 ++ [q.1]))) = some (.dk (bstD (Hi.addB l (q.2, (v.1 + Hi.dif q.1 c, v.2 ++ [q.1]))))) := by
      have hz : (bstD l).length < sizeLine := by
        have e : sizeLine = 16777216 := by decide
        unfold bstD; rw [List.length_map]; omega
      have e0 : ∀ w, gPutD (.dk (bstD l)) (.str (enc q.2)) w = if (bstD l).length < sizeLine then (dKey (.str (enc q.2))).map (fun k => D.dk (putG (bstD l) k w)) else none := fun w => rfl
      rw [e0, if_pos hz, ← pb]
      rfl
    have hb := s_bet (curB l q.2) (v.1 + Hi.dif q.1 c, v.2 ++ [q.1])
    have t := b_lg2 N N a3 ds Cd (.dk (bstD l)) _ _ _ z (sts [q.1]) (enc q.2) (chk [c]) _ (sts v.2) _ i (v.1 : Nat) (Hi.dif q.1 c : Nat) ((v.1 + Hi.dif q.1 c : Nat) : Int) _ j7 j8 j9 h2 rfl rfl hx (s_flag q.1 c) (ne_fl q.1 c) (int_dif q.1 c) (add_nat _ _) as rfl rfl hg hb pq
    obtain ⟨k7, k8, k9, ih, hl⟩ := f_lg2 hn5 hk4 N a3 Cd c i hx ds z v hv hm h2 qs _ (.val (.str (sts [q.1]))) (.val (.str (enc q.2))) (.val (.int ((v.1 + Hi.dif q.1 c : Nat) : Int))) hi2 (fun q' hq' => h q' (by simp [hq']))
    exact ⟨k7, k8, k9, by rw [List.map_cons]; exact (forL_cons_nx t).trans ih, hl⟩
theorem b_lg3 (N C d : D) (zc : Str) (i : Int) (f : Bool) (qs : List D) (ds a3 : Sl) (K : Sl) (E : En) (j4 j7 j8 j9 : Sl) (hx : gIx C (.int i) = some (.str zc)) (he : gEq (.int i) (.int 0) = some (.bl f)) (h1 : f__law_log_steps .non [N, d, .str zc, .bl f] = .ok (.lst qs) .non) (X : List D → M Fl) (hX : forL (gT 2 (gsC (gN 7) (gsC (gN 8) gsN))) l__law_long_2 = X)
    (h : X qs [.val N, .val C, ds, a3, .val d, .val (.int i), K, j7, j8, j9] = .ok .nx E) : turn (gN 4) l__law_long_3 d [.val N, .val C, ds, a3, j4, .val (.int i), K, j7, j8, j9] = .ok .nx E := by
  simp only [l__law_long_3, sFor, hX]
  simp [hx, he, h1, h, mkF0, mkF1, fin0, fin1, st0, st1, bnd, Sr.ret, opt, mN, mNB, mB, der, m1, m2, m2b, m2r, mT, asB, mChain, mAnd, mOr, mNot, mAndV, mOrV, mNotV, mIf, mNil, mCons, mTup, mLst, mIsN, mNotN, Sr.isNon, mCal, mCal1, mIsi, mFldB, gFld, mC0, mC1, ap0, ap1, chkO, chkL, putL, mMk, apM, skp, sq, sDrop, sRet, sRetO, sIf, sSet, sSetO, sAsg, sPar, gN, gsN, gsC, gT, gA, sApp, sPutI, sNever, mItems, dItems, mRng, mRng2, gRng, gRng2, turn, gI, gI0, gLt, gLe, gGt, gGe, gAdd, gAddI, gAddS, gAddT, gAddL, Sr.gSub, gMul, gMulI, gDiv, gMod, gPow, gNeg, gNe, dEq, eqS, gLen, gInt1, gMax2, gMin2, gAbs, gLtT, dInts, putD, gIsi, dKind, tInt, tOnly, List.map_cons, List.map_nil, List.length_cons, List.length_nil, List.cons_append, List.nil_append, List.getElem?_cons_zero, List.getElem?_cons_succ, List.set_cons_zero, List.set_cons_succ, List.replicate, Option.some_or, Option.none_or, Option.map_some, Option.map_none, Option.bind_some, Option.bind_none]
theorem bst_dg {a b n k m : Nat} {l : Hi.BL} (h : Binv a b n k m l) {p : Hi.Sit × Hi.Fw} (hp : p ∈ l) : gDg (.dk (bstD l)) (.str (enc p.1)) = some (fwD p.2) := by
  have hv := val_bst (h.okB p hp) l h.okB
  have hc : curB l p.1 = some p.2 := by
    unfold curB
    cases f : l.find? fun q => decide (q.1 = p.1) with
    | none =>
      rw [List.find?_eq_none] at f
      exact absurd (decide_eq_true rfl) (f p hp)
    | some q =>
      have h0 : decide (q.1 = p.1) = true := List.find?_some (p := fun q : Hi.Sit × Hi.Fw => decide (q.1 = p.1)) f
      rw [key_uniqB h.ndB (List.mem_of_find?_eq_some f) hp (of_decide_eq_true h0)]
      rfl
  show (some (valD (bstD l) (.inr (enc p.1)))).bind id = _
  rw [hv, hc]
  rfl
theorem f_lg3 {a b n k m : Nat} (hn : 1 ≤ n) (hn5 : n ≤ 5) (hk4 : k ≤ 4) (hm : m + 1 ≤ 500) (C : D) (a3 : Sl) (c f : Bool) (i : Int) (hx : gIx C (.int i) = some (.str (chk [c]))) (he : gEq (.int i) (.int 0) = some (.bl f)) (L : Hi.BL) (hL : Binv a b n k m L) : ∀ (l acc : Hi.BL) (j4 j7 j8 j9 : Sl), (∀ p ∈ l, p ∈ L) → Binv a b n k (m + 1) acc → ∃ k4 k7 k8 k9, forL (gN 4) l__law_long_3 (l.map fun p => sitD p.1) [.val (nums a b n k), .val C, .val (.dk (bstD L)), a3, j4, .val (.int i), .own (.dk (bstD acc)), j7, j8, j9] = .ok .nx [.val (nums a b n k), .val C, .val (.dk (bstD L)), a3, k4, .val (.int i), .own (.dk (bstD (l.foldl (fun acc p => (Hi.ext a b k p c f).foldl Hi.addB acc) acc))), k7, k8, k9]
  | [], acc, j4, j7, j8, j9, _, _ => ⟨j4, j7, j8, j9, rfl⟩
  | p :: l, acc, j4, j7, j8, j9, h, hi => by
    have hm0 := h p (by simp)
    have hp := hL.okB p hm0
    have q1 := s_lsteps a b n k p.1 hp (by omega) (by omega) c f
    obtain ⟨k7, k8, k9, f1, i1⟩ := f_lg2 (.val (nums a b n k)) a3 C c i hx (bstD L) (enc p.1) p.2 (m := m + 1) (hn5 := hn5) (hk4 := hk4) (by rw [hL.lnB p hm0]) hm (bst_dg hL hm0) (Hi.nexts a b k p.1 c f) acc j7 j8 j9 hi (fun q hq => Hi.next_ok hp (s := q.1) hq)
    have t1 := b_lg3 (nums a b n k) C (sitD p.1) (chk [c]) i f _ (.val (.dk (bstD L))) a3 (.own (.dk (bstD acc))) _ j4 j7 j8 j9 hx he q1 _ rfl f1
    obtain ⟨m4, m7, m8, m9, ih⟩ := f_lg3 hn hn5 hk4 hm C a3 c f i hx he L hL l _ (.val (sitD p.1)) k7 k8 k9 (fun q hq => h q (by simp [hq])) i1
    exact ⟨m4, m7, m8, m9, by rw [List.map_cons]; exact (forL_cons_nx t1).trans ih⟩
theorem keys_bst (l : Hi.BL) : ((bstD l).map fun q => kD q.1) = l.map fun p => sitD p.1 := by
  unfold bstD
  rw [List.map_map]
  rfl
theorem b_lg4 (N C K : D) (a3 : Sl) (i : Int) (ds : List (Key × D)) (ts : List D) (hds : (ds.map fun q => kD q.1) = ts) (j4 j5 j6 j7 j8 j9 k4 k7 k8 k9 : Sl) (X : List D → M Fl) (hX : forL (gN 4) l__law_long_3 = X)
    (h : X ts [.val N, .val C, .val (.dk ds), a3, j4, .val (.int i), .own (.dk []), j7, j8, j9] = .ok .nx [.val N, .val C, .val (.dk ds), a3, k4, .val (.int i), .own K, k7, k8, k9]) :
    turn (gN 5) l__law_long_4 (.int i) [.val N, .val C, .own (.dk ds), a3, j4, j5, j6, j7, j8, j9] = .ok .nx [.val N, .val C, .own K, a3, k4, .val (.int i), .no, k7, k8, k9] := by
  simp only [l__law_long_4, sFor, hX]
  simp [mKeys, sMove, hds, h, mkF0, mkF1, fin0, fin1, st0, st1, bnd, Sr.ret, opt, mN, mNB, mB, der, m1, m2, m2b, m2r, mT, asB, mChain, mAnd, mOr, mNot, mAndV, mOrV, mNotV, mIf, mNil, mCons, mTup, mLst, mIsN, mNotN, Sr.isNon, mCal, mCal1, mIsi, mFldB, gFld, mC0, mC1, ap0, ap1, chkO, chkL, putL, mMk, apM, skp, sq, sDrop, sRet, sRetO, sIf, sSet, sSetO, sAsg, sPar, gN, gsN, gsC, gT, gA, sApp, sPutI, sNever, mItems, dItems, mRng, mRng2, gRng, gRng2, turn, gI, gI0, gLt, gLe, gGt, gGe, gAdd, gAddI, gAddS, gAddT, gAddL, Sr.gSub, gMul, gMulI, gDiv, gMod, gPow, gNeg, gEq, gNe, dEq, eqS, gLen, gInt1, gMax2, gMin2, gAbs, gIx, gLtT, dInts, putD, gIsi, dKind, tInt, tOnly, List.map_cons, List.map_nil, List.length_cons, List.length_nil, List.cons_append, List.nil_append, List.getElem?_cons_zero, List.getElem?_cons_succ, List.set_cons_zero, List.set_cons_succ, List.replicate, Option.some_or, Option.none_or, Option.map_some, Option.map_none, Option.bind_some, Option.bind_none]
theorem f_lg4 {a b n k : Nat} (hn : 1 ≤ n) (hk : 1 ≤ k) (hn5 : n ≤ 5) (hk4 : k ≤ 4) (w : List Bool) (hw : w.length ≤ 100) (a3 : Sl) : ∀ (m i : Nat) (j4 j5 j6 j7 j8 j9 : Sl), i + m = w.length → ∃ k4 k5 k6 k7 k8 k9, forL (gN 5) l__law_long_4 ((List.range' i m).map fun (x : Nat) => D.int ((x : Nat) : Int)) [.val (nums a b n k), .val (.str (chk w)), .own (.dk (bstD (Hi.bests a b n k (w.take i).reverse))), a3, j4, j5, j6, j7, j8, j9] = .ok .nx [.val (nums a b n k), .val (.str (chk w)), .own (.dk (bstD (Hi.bests a b n k w.reverse))), a3, k4, k5, k6, k7, k8, k9]
  | 0, i, j4, j5, j6, j7, j8, j9, hm => ⟨j4, j5, j6, j7, j8, j9, by
    rw [List.take_of_length_le (by omega)]
    simp [forL, skp, Sr.ret]⟩
  | m + 1, i, j4, j5, j6, j7, j8, j9, hm => by
    have hi : i < w.length := by omega
    have he : gEq (.int ((i : Nat) : Int)) (.int 0) = some (.bl (w.take i).reverse.isEmpty) := by
      have : decide (((i : Nat) : Int) = 0) = (w.take i).reverse.isEmpty := by
        rw [Bool.eq_iff_iff, decide_eq_true_eq, List.isEmpty_iff, List.reverse_eq_nil_iff]
        constructor
        · intro h
          have : i = 0 := by omega
          rw [this]; rfl
        · intro h
          have := congrArg List.length h
          rw [List.length_take, List.length_nil] at this
          omega
      simp only [gEq, dEq, eqS]
      rw [this]; rfl
    have hr : (w.take (i + 1)).reverse = w[i] :: (w.take i).reverse := by
      rw [List.take_succ_eq_append_getElem hi, List.reverse_append]
      rfl
    have hI : Binv a b n k i (Hi.bests a b n k (w.take i).reverse) := ⟨(Hi.bests_rep hn hk _).nd4, Hi.bests_ok hn hk _, fun p hp => by rw [Hi.bests_val hn hk _ p hp, List.length_reverse, List.length_take]; omega⟩
    obtain ⟨u4, u7, u8, u9, f⟩ := f_lg3 (a := a) (b := b) hn hn5 hk4 (by omega) (.str (chk w)) a3 w[i] (w.take i).reverse.isEmpty (i : Nat) (ix_c w i hi (by omega)) he (Hi.bests a b n k (w.take i).reverse) hI (Hi.bests a b n k (w.take i).reverse) [] j4 j7 j8 j9 (fun p hp => hp) (binvNil a b n k _)
    have t := b_lg4 (nums a b n k) (.str (chk w)) _ a3 (i : Nat) _ _ (keys_bst (Hi.bests a b n k (w.take i).reverse)) j4 j5 j6 j7 j8 j9 u4 u7 u8 u9 _ rfl f
    have e : (Hi.bests a b n k (w.take i).reverse).foldl (fun acc p => (Hi.ext a b k p w[i] (w.take i).reverse.isEmpty).foldl Hi.addB acc) [] = Hi.bests a b n k (w.take (i + 1)).reverse := by
      rw [hr]; rfl
    rw [e] at t
    obtain ⟨k4, k5, k6, k7, k8, k9, h2⟩ := f_lg4 hn hk hn5 hk4 w hw a3 m (i + 1) u4 (.val (.int (i : Nat))) .no u7 u8 u9 (by omega)
    exact ⟨k4, k5, k6, k7, k8, k9, by rw [List.range'_succ, List.map_cons, forL_cons_nx t, h2]⟩
theorem t_lg0 (a0 a1 a3 a5 a6 a7 a8 a9 j4 : Sl) (ds es : List (Key × D)) (d : D) (q : gPutD (.dk ds) d (.tup [.int 0, .str ""]) = some (.dk es)) : turn (gN 4) l__law_long_1 d [a0, a1, .own (.dk ds), a3, j4, a5, a6, a7, a8, a9] = .ok .nx [a0, a1, .own (.dk es), a3, .val d, a5, a6, a7, a8, a9] := by
  have hz2 : (2 : Nat) ≤ sizeLine := by decide
  simp [l__law_long_1, sPutD, putDD, chkD, isDct, q, hz2, mkF0, mkF1, fin0, fin1, st0, st1, bnd, Sr.ret, opt, mN, mNB, mB, der, m1, m2, m2b, m2r, mT, asB, mChain, mAnd, mOr, mNot, mAndV, mOrV, mNotV, mIf, mNil, mCons, mTup, mLst, mIsN, mNotN, Sr.isNon, mCal, mCal1, mIsi, mFldB, gFld, mC0, mC1, ap0, ap1, chkO, chkL, putL, mMk, apM, skp, sq, sDrop, sRet, sRetO, sIf, sSet, sSetO, sAsg, sPar, gN, gsN, gsC, gT, gA, sApp, sPutI, sNever, mItems, dItems, mRng, mRng2, gRng, gRng2, sFor, turn, gI, gI0, gLt, gLe, gGt, gGe, gAdd, gAddI, gAddS, gAddT, gAddL, Sr.gSub, gMul, gMulI, gDiv, gMod, gPow, gNeg, gEq, gNe, dEq, eqS, gLen, gInt1, gMax2, gMin2, gAbs, gIx, gLtT, dInts, putD, gIsi, dKind, tInt, tOnly, List.map_cons, List.map_nil, List.length_cons, List.length_nil, List.cons_append, List.nil_append, List.getElem?_cons_zero, List.getElem?_cons_succ, List.set_cons_zero, List.set_cons_succ, List.replicate, Option.some_or, Option.none_or, Option.map_some, Option.map_none, Option.bind_some, Option.bind_none]
theorem f_lg0 (a0 a1 a3 : Sl) (e1 e2 : Str) (hne : e1 ≠ e2) : forL (gN 4) l__law_long_1 [.str e1, .str e2] [a0, a1, .own (.dk []), a3, .no, .no, .no, .no, .no, .no] = .ok .nx [a0, a1, .own (.dk [(.inr e1, .tup [.int 0, .str ""]), (.inr e2, .tup [.int 0, .str ""])]), a3, .val (.str e2), .no, .no, .no, .no, .no] := by
  have p1 : gPutD (.dk []) (.str e1) (.tup [.int 0, .str ""]) = some (.dk [(.inr e1, .tup [.int 0, .str ""])]) := rfl
  have p2 : gPutD (.dk [(.inr e1, .tup [.int 0, .str ""])]) (.str e2) (.tup [.int 0, .str ""]) = some (.dk [(.inr e1, .tup [.int 0, .str ""]), (.inr e2, .tup [.int 0, .str ""])]) := by
    have z1 : ([((.inr e1 : Key), D.tup [.int 0, .str ""])]).length < sizeLine := by show 1 < sizeLine; decide
    have e : gPutD (.dk [(.inr e1, .tup [.int 0, .str ""])]) (.str e2) (.tup [.int 0, .str ""]) = if ([((.inr e1 : Key), D.tup [.int 0, .str ""])]).length < sizeLine then (dKey (.str e2)).map (fun k => D.dk (putG [((.inr e1 : Key), D.tup [.int 0, .str ""])] k (.tup [.int 0, .str ""]))) else none := rfl
    rw [e, if_pos z1]
    show some (D.dk (putG [((.inr e1 : Key), D.tup [.int 0, .str ""])] (.inr e2) (.tup [.int 0, .str ""]))) = _
    unfold putG
    have : ([((.inr e1 : Key), D.tup [.int 0, .str ""])].any fun kv => decide (kv.1 = .inr e2)) = false := by
      simp [hne]
    rw [this]
    rfl
  have t1 := t_lg0 a0 a1 a3 .no .no .no .no .no .no [] _ (.str e1) p1
  have t2 := t_lg0 a0 a1 a3 .no .no .no .no .no (.val (.str e1)) _ _ (.str e2) p2
  exact (forL_cons_nx t1).trans ((forL_cons_nx t2).trans rfl)
theorem t_lg5 (a0 a1 a5 a6 a7 a8 a9 j4 : Sl) (ds : List (Key × D)) (o o' d v : D) (g : gDg (.dk ds) d = some v) (hb : f__law_better .non [o, v] = .ok o' .non) : turn (gN 4) l__law_long_5 d [a0, a1, .val (.dk ds), .val o, j4, a5, a6, a7, a8, a9] = .ok .nx [a0, a1, .val (.dk ds), .val o', .val d, a5, a6, a7, a8, a9] := by
  simp [l__law_long_5, g, hb, mkF0, mkF1, fin0, fin1, st0, st1, bnd, Sr.ret, opt, mN, mNB, mB, der, m1, m2, m2b, m2r, mT, asB, mChain, mAnd, mOr, mNot, mAndV, mOrV, mNotV, mIf, mNil, mCons, mTup, mLst, mIsN, mNotN, Sr.isNon, mCal, mCal1, mIsi, mFldB, gFld, mC0, mC1, ap0, ap1, chkO, chkL, putL, mMk, apM, skp, sq, sDrop, sRet, sRetO, sIf, sSet, sSetO, sAsg, sPar, gN, gsN, gsC, gT, gA, sApp, sPutI, sNever, mItems, dItems, mRng, mRng2, gRng, gRng2, sFor, turn, gI, gI0, gLt, gLe, gGt, gGe, gAdd, gAddI, gAddS, gAddT, gAddL, Sr.gSub, gMul, gMulI, gDiv, gMod, gPow, gNeg, gEq, gNe, dEq, eqS, gLen, gInt1, gMax2, gMin2, gAbs, gIx, gLtT, dInts, putD, gIsi, dKind, tInt, tOnly, List.map_cons, List.map_nil, List.length_cons, List.length_nil, List.cons_append, List.nil_append, List.getElem?_cons_zero, List.getElem?_cons_succ, List.set_cons_zero, List.set_cons_succ, List.replicate, Option.some_or, Option.none_or, Option.map_some, Option.map_none, Option.bind_some, Option.bind_none]
theorem f_lg5 {a b n k m : Nat} (a0 a1 a5 a6 a7 a8 a9 : Sl) (L : Hi.BL) (hL : Binv a b n k m L) : ∀ (l : Hi.BL) (o : Option Hi.Fw) (j4 : Sl), (∀ p ∈ l, p ∈ L) → ∃ k4, forL (gN 4) l__law_long_5 (l.map fun p => sitD p.1) [a0, a1, .val (.dk (bstD L)), .val (opD o), j4, a5, a6, a7, a8, a9] = .ok .nx [a0, a1, .val (.dk (bstD L)), .val (opD ((l.map (·.2)).foldl Hi.lstep o)), k4, a5, a6, a7, a8, a9]
  | [], o, j4, _ => ⟨j4, rfl⟩
  | p :: l, o, j4, h => by
    have hb := s_bet o p.2
    rw [bet_step] at hb
    have t := t_lg5 a0 a1 a5 a6 a7 a8 a9 j4 (bstD L) _ _ (sitD p.1) _ (bst_dg hL (h p (by simp))) hb
    obtain ⟨k4, ih⟩ := f_lg5 a0 a1 a5 a6 a7 a8 a9 L hL l (Hi.lstep o p.2) (.val (sitD p.1)) (fun q hq => h q (by simp [hq]))
    exact ⟨k4, by rw [List.map_cons]; exact (forL_cons_nx t).trans ih⟩
theorem b_lg (N C : D) (l : Int) (bs ts us : List D) (ds : D) (ks : List (Key × D)) (v : D) (j4 k4 k5 k6 k7 k8 k9 m4 : Sl) (hb : f__law_beginnings .non [N] = .ok (.lst bs) .non) (X0 : List D → M Fl) (hX0 : forL (gN 4) l__law_long_1 = X0) (h0 : X0 bs [.val N, .val C, .own (.dk []), .val .non, .no, .no, .no, .no, .no, .no] = .ok .nx [.val N, .val C, .own ds, .val .non, j4, .no, .no, .no, .no, .no])
    (hl : gLen C = some (.int l)) (hr : gRng [.int l] = some ts) (X : List D → M Fl) (hX : forL (gN 5) l__law_long_4 = X) (h : X ts [.val N, .val C, .own ds, .val .non, j4, .no, .no, .no, .no, .no] = .ok .nx [.val N, .val C, .own (.dk ks), .val .non, k4, k5, k6, k7, k8, k9]) (hk : (ks.map fun q => kD q.1) = us) (X5 : List D → M Fl) (hX5 : forL (gN 4) l__law_long_5 = X5) (h5 : X5 us [.val N, .val C, .val (.dk ks), .val .non, k4, k5, k6, k7, k8, k9] = .ok .nx [.val N, .val C, .val (.dk ks), .val v, m4, k5, k6, k7, k8, k9]) : f__law_long .non [N, C] = .ok v .non := by
  simp only [f__law_long, b__law_long, sFor, hX, hX0, hX5]
  simp [sParM, xCons, xConsO, xNil, putM, mKeys, hb, h0, hl, hr, h, hk, h5, mkF0, mkF1, fin0, fin1, st0, st1, bnd, Sr.ret, opt, mN, mNB, mB, der, m1, m2, m2b, m2r, mT, asB, mChain, mAnd, mOr, mNot, mAndV, mOrV, mNotV, mIf, mNil, mCons, mTup, mLst, mIsN, mNotN, Sr.isNon, mCal, mCal1, mIsi, mFldB, gFld, mC0, mC1, ap0, ap1, chkO, chkL, putL, mMk, apM, skp, sq, sDrop, sRet, sRetO, sIf, sSet, sSetO, sAsg, sPar, gN, gsN, gsC, gT, gA, sApp, sPutI, sNever, mItems, dItems, mRng, mRng2, gRng2, turn, gI, gI0, gLt, gLe, gGt, gGe, gAdd, gAddI, gAddS, gAddT, gAddL, Sr.gSub, gMul, gMulI, gDiv, gMod, gPow, gNeg, gEq, gNe, dEq, eqS, gInt1, gMax2, gMin2, gAbs, gIx, gLtT, dInts, putD, gIsi, dKind, tInt, tOnly, List.map_cons, List.map_nil, List.length_cons, List.length_nil, List.cons_append, List.nil_append, List.getElem?_cons_zero, List.getElem?_cons_succ, List.set_cons_zero, List.set_cons_succ, List.replicate, Option.some_or, Option.none_or, Option.map_some, Option.map_none, Option.bind_some, Option.bind_none]
theorem s_lg (a b n k : Nat) (hn : 1 ≤ n) (hk : 1 ≤ k) (hn5 : n ≤ 5) (hk4 : k ≤ 4) (w : List Bool) (hw : w.length ≤ 100) : f__law_long .non [nums a b n k, .str (chk w)] = .ok (opD (Hi.lst ((Hi.bests a b n k w.reverse).map (·.2)))) .non := by
  have f0 := f_lg0 (.val (nums a b n k)) (.val (.str (chk w))) (.val .non) _ _ (beg_ne (a := a) (b := b) hn hk)
  have e0 : sts [] = ("" : Str) := by decide
  have eb : [((.inr (enc (Hi.begS n k false)) : Key), D.tup [.int 0, .str ""]), (.inr (enc (Hi.begS n k true)), .tup [.int 0, .str ""])] = bstD (Hi.bests a b n k (w.take 0).reverse) := by
    rw [← e0]; rfl
  rw [eb] at f0
  obtain ⟨k4, k5, k6, k7, k8, k9, f⟩ := f_lg4 (a := a) (b := b) hn hk hn5 hk4 w hw (.val .non) w.length 0 (.val (.str (enc (Hi.begS n k true)))) .no .no .no .no .no (by omega)
  rw [← List.range_eq_range'] at f
  have hI : Binv a b n k w.length (Hi.bests a b n k w.reverse) := ⟨(Hi.bests_rep hn hk _).nd4, Hi.bests_ok hn hk _, fun p hp => by rw [Hi.bests_val hn hk _ p hp, List.length_reverse]⟩
  obtain ⟨m4, f5⟩ := f_lg5 (.val (nums a b n k)) (.val (.str (chk w))) k5 k6 k7 k8 k9 (Hi.bests a b n k w.reverse) hI (Hi.bests a b n k w.reverse) none k4 (fun p hp => hp)
  exact b_lg _ _ (w.length : Nat) _ _ _ _ _ _ _ k4 k5 k6 k7 k8 k9 m4 (s_begL a b n k hn (by omega) (by omega)) _ rfl f0 (len_c w (by omega)) (rng_nats w.length (by omega)) _ rfl f (keys_bst _) _ rfl f5
def RprB (d : D) : Prop := ∃ z, gReprB d = some (.str z)
theorem eq_strs (z : Str) : gEq (.str z) (.str z) = some (.bl true) := by simp [gEq, dEq, eqS]
theorem same_of (d : D) (h : RprB d) : f__law_same .non [d, d] = .ok (.bl true) .non := by
  obtain ⟨z, h1⟩ := h
  have h2 := eq_strs z
  simp [f__law_same, b__law_same, h1, h2, mkF0, mkF1, fin0, fin1, st0, st1, bnd, Sr.ret, opt, mN, mNB, mB, der, m1, m2, m2b, m2r, mT, asB, mChain, mAnd, mOr, mNot, mAndV, mOrV, mNotV, mIf, mNil, mCons, mTup, mLst, mIsN, mNotN, Sr.isNon, mCal, mCal1, mIsi, mFldB, gFld, mC0, mC1, ap0, ap1, chkO, chkL, putL, mMk, apM, skp, sq, sDrop, sRet, sRetO, sIf, sSet, sSetO, sAsg, sPar, gN, gsN, gsC, gT, gA, sApp, sPutI, sNever, mItems, dItems, mRng, mRng2, gRng, gRng2, sFor, turn, gI, gI0, gLt, gLe, gGt, gGe, gAdd, gAddI, gAddS, gAddT, gAddL, Sr.gSub, gMul, gMulI, gDiv, gMod, gPow, gNeg, gNe, dEq, eqS, gLen, gInt1, gMax2, gMin2, gAbs, gIx, gLtT, dInts, putD, gIsi, dKind, tInt, tOnly, List.map_cons, List.map_nil, List.length_cons, List.length_nil, List.cons_append, List.nil_append, List.getElem?_cons_zero, List.getElem?_cons_succ, List.set_cons_zero, List.set_cons_succ, List.replicate, Option.some_or, Option.none_or, Option.map_some, Option.map_none, Option.bind_some, Option.bind_none]
theorem rprB_lst {ds : List D} {k n : Nat} {p : PyData} (h : Sh (.lst ds) k n p) (hk : k ≤ 64) (hn : n ≤ 16777216) : RprB (.lst ds) := ⟨p.shown, by
  show ((gRepr (.lst ds)).or _).or _ = _
  rw [repr_lst h hk hn]; rfl⟩
theorem sh_256 {i : Int} (h0 : 0 ≤ i) (h1 : i < 256) : Sh (.int i) 0 3 (.int i) := by
  have H : ∀ n : Fin 256, (PyData.shown (.int (n.val : Int))).length ≤ 3 ∧ (n.val : Int).natAbs.log2 < 1920 := by decide +kernel
  have := H ⟨i.toNat, by omega⟩
  have e : ((i.toNat : Nat) : Int) = i := by omega
  rw [e] at this
  exact ⟨rfl, by simp only [PyData.showable, decide_eq_true_eq]; exact this.2, rfl, Nat.le_refl _, this.1⟩
theorem rprB_tup {ds : List D} {k n : Nat} {p : PyData} (h : Sh (.tup ds) k n p) (hk : k ≤ 64) (hn : n ≤ 16777216) : RprB (.tup ds) := ⟨p.shown, by
  show ((gRepr (.tup ds)).or _).or _ = _
  rw [repr_tup h hk hn]; rfl⟩
theorem sh_sts (w : List Bool) (h : w.length ≤ 1000) : ∃ p, Sh (.str (sts w)) 0 10002 p := by
  have h1 := PySem.StrLaws.reprText_len (sts w) (fun c hc => by
    have hc : c ∈ w.map (fun b => if b then 85 else 68) := hc
    rw [List.mem_map] at hc
    obtain ⟨b, _, rfl⟩ := hc
    cases b <;> decide)
  rw [sts_len] at h1
  exact ⟨.str (sts w), rfl, rfl, rfl, Nat.le_refl _, by show (PySem.reprText (sts w)).length ≤ 10002; omega⟩
theorem sh_fw (v : Hi.Fw) (h1 : v.1 < 256) (h2 : v.2.length ≤ 1000) : ∃ k n p, Sh (fwD v) k n p ∧ k ≤ 10 ∧ n ≤ 20000 := by
  obtain ⟨p, hp⟩ := sh_sts v.2 h2
  exact ⟨_, _, _, sh_tup (shl_cons (sh_256 (i := ((v.1 : Nat) : Int)) (by omega) (by omega)) (shl_cons hp shl_nil)), by omega, by omega⟩
def FwOk (o : Option Hi.Fw) : Prop := ∀ v ∈ o, v.1 < 256 ∧ v.2.length ≤ 1000
theorem rpr_op (o : Option Hi.Fw) (h : FwOk o) : RprB (opD o) := by
  cases o with
  | none => exact ⟨_, rfl⟩
  | some v =>
    obtain ⟨h1, h2⟩ := h v rfl
    obtain ⟨k, n, p, hp, hk, hn⟩ := sh_fw v h1 h2
    exact rprB_tup hp (by omega) (by omega)
theorem rpr_op2 (o : Option Hi.Fw) (h : FwOk o) : RprB (.lst [opD o, opD o]) := by
  cases o with
  | none => exact rprB_lst (sh_lst (shl_cons sh_non (shl_cons sh_non shl_nil))) (by omega) (by omega)
  | some v =>
    obtain ⟨h1, h2⟩ := h v rfl
    obtain ⟨k, n, p, hp, hk, hn⟩ := sh_fw v h1 h2
    exact rprB_lst (sh_lst (shl_cons hp (shl_cons hp shl_nil))) (by omega) (by omega)
def InN (d : D) : Prop := ∃ a b n k : Nat, d = nums a b n k ∧ a ≤ 5 ∧ b ≤ 5 ∧ (1 ≤ n ∧ n ≤ 5) ∧ (1 ≤ k ∧ k ≤ 4)
theorem s_numN (o : D) (m : Int) (hm : m = 2 ∨ m = 5) (hv : PenOk o) : ∃ d o', f__law_numbers o [.int m] = .ok d o' ∧ InN d ∧ PenOk o' := by
  obtain ⟨r1, o1, e1, h1, h1', v1⟩ := s_draw o m hv (by omega) (by omega)
  obtain ⟨r2, o2, e2, h2, h2', v2⟩ := s_draw o1 (if 1 + r1 + 2 < 6 then 1 + r1 + 2 else 6) v1 (by split <;> omega) (by split <;> omega)
  obtain ⟨r3, o3, e3, h3, h3', v3⟩ := s_draw o2 (if 1 + r1 + 2 < 6 then 1 + r1 + 2 else 6) v2 (by split <;> omega) (by split <;> omega)
  obtain ⟨r4, o4, e4, h4, h4', v4⟩ := s_draw o3 4 v3 (by omega) (by omega)
  have hb : f__law_numbers o [.int m] = .ok (nums r2 r3 (1 + r1) (1 + r4)) o4 := by
    simp [f__law_numbers, b__law_numbers, nums, e1, e2, e3, e4, sizeLine, mkF0, mkF1, fin0, fin1, st0, st1, bnd, Sr.ret, opt, mN, mNB, mB, der, m1, m2, m2b, m2r, mT, asB, mChain, mAnd, mOr, mNot, mAndV, mOrV, mNotV, mIf, mNil, mCons, mTup, mLst, mIsN, mNotN, Sr.isNon, mCal, mCal1, mIsi, mFldB, gFld, mC0, mC1, ap0, ap1, chkO, chkL, putL, mMk, apM, skp, sq, sDrop, sRet, sRetO, sIf, sSet, sSetO, sAsg, sPar, gN, gsN, gsC, gT, gA, sApp, sPutI, sNever, mItems, dItems, mRng, mRng2, gRng, gRng2, sFor, turn, gI, gI0, gLt, gLe, gGt, gGe, gAdd, gAddI, gAddS, gAddT, gAddL, Sr.gSub, gMul, gMulI, gDiv, gMod, gPow, gNeg, gEq, gNe, dEq, eqS, gLen, gInt1, gMax2, gMin2, gAbs, gIx, gLtT, dInts, putD, gIsi, dKind, tInt, tOnly, List.map_cons, List.map_nil, List.length_cons, List.length_nil, List.cons_append, List.nil_append, List.getElem?_cons_zero, List.getElem?_cons_succ, List.set_cons_zero, List.set_cons_succ, List.replicate, Option.some_or, Option.none_or, Option.map_some, Option.map_none, Option.bind_some, Option.bind_none]
  have q2 : r2 ≤ 5 := by split at h2' <;> omega
  have q3 : r3 ≤ 5 := by split at h3' <;> omega
  obtain ⟨a, rfl⟩ := toN r2 h2
  obtain ⟨b, rfl⟩ := toN r3 h3
  obtain ⟨n, hn⟩ := toN (1 + r1) (by omega)
  obtain ⟨k, hk⟩ := toN (1 + r4) (by omega)
  rw [hn, hk] at hb
  exact ⟨_, o4, hb, ⟨a, b, n, k, rfl, by omega, by omega, by omega, by omega⟩, v4⟩
theorem lst_ok {a b n k : Nat} (hn : 1 ≤ n) (hk : 1 ≤ k) (w : List Bool) (hw : w.length ≤ 60) : FwOk (Hi.lst ((Hi.bests a b n k w.reverse).map (·.2))) := by
  intro v hv
  rcases Hi.lst_least ((Hi.bests a b n k w.reverse).map (·.2)) with ⟨e, _⟩ | ⟨u, e, h, _⟩
  · rw [e] at hv; cases hv
  · rw [e] at hv
    cases hv
    rw [List.mem_map] at h
    obtain ⟨p, hp, rfl⟩ := h
    obtain ⟨s, h1, h2⟩ := (Hi.bests_rep (a := a) (b := b) hn hk w.reverse).in4 p hp
    have h3 := (Hi.paths_sound hn hk w.reverse s p.1 h1).1
    have h4 := Hi.er_le s w.reverse.reverse
    rw [List.length_reverse] at h3
    rw [h2]
    exact ⟨by show Hi.er s w.reverse.reverse < 256; omega, by show s.length ≤ 1000; omega⟩
theorem b_l1 (S T N1 N2 N C L d : D) (m : Int) (o o1 o2 o3 o4 : D) (j3 j4 j5 j6 j7 : Sl) (e1 : f__law_numbers o [.int 5] = .ok N1 o1) (e2 : f__law_small o1 [] = .ok N2 o2) (e3 : f__law_pick o2 [.lst [N1, N2, .tup [.int 1, .int 0, .int 4, .int 2], .tup [.int 1, .int 1, .int 5, .int 3]]] = .ok N o3) (e4 : f__law_checks o3 [.int 7] = .ok C o4) (hl : f__law_limits .non [N] = .ok L .non) (hd : f__law_due .non [N, C] = .ok d .non) (h1 : f_fewest_errors .non [L, C] = .ok d .non) (s1 : f__law_same .non [.lst [d, d], .lst [d, d]] = .ok (.bl true) .non) :
    turn (gN 3) l_law_1 (.int m) [.val S, .val T, .own o, j3, j4, j5, j6, j7] = .ok .nx [.val S, .val T, .own o4, .val (.int m), .val N, .val C, .val L, .val d] := by
  simp [l_law_1, sizeLine, e1, e2, e3, e4, hl, hd, h1, s1, mkF0, mkF1, fin0, fin1, st0, st1, bnd, Sr.ret, opt, mN, mNB, mB, der, m1, m2, m2b, m2r, mT, asB, mChain, mAnd, mOr, mNot, mAndV, mOrV, mNotV, mIf, mNil, mCons, mTup, mLst, mIsN, mNotN, Sr.isNon, mCal, mCal1, mIsi, mFldB, gFld, mC0, mC1, ap0, ap1, chkO, chkL, putL, mMk, apM, skp, sq, sDrop, sRet, sRetO, sIf, sSet, sSetO, sAsg, sPar, gN, gsN, gsC, gT, gA, sApp, sPutI, sNever, mItems, dItems, mRng, mRng2, gRng, gRng2, sFor, turn, gI, gI0, gLt, gLe, gGt, gGe, gAdd, gAddI, gAddS, gAddT, gAddL, Sr.gSub, gMul, gMulI, gDiv, gMod, gPow, gNeg, gEq, gNe, dEq, eqS, gLen, gInt1, gMax2, gMin2, gAbs, gIx, gLtT, dInts, putD, gIsi, dKind, tInt, tOnly, List.map_cons, List.map_nil, List.length_cons, List.length_nil, List.cons_append, List.nil_append, List.getElem?_cons_zero, List.getElem?_cons_succ, List.set_cons_zero, List.set_cons_succ, List.replicate, Option.some_or, Option.none_or, Option.map_some, Option.map_none, Option.bind_some, Option.bind_none]
def InA (ns : List Int) (k : Int) (e : En) : Prop := ∃ o j3 j4 j5 j6 j7, PenOk o ∧ e = [.val (.scr ns), .val (.int k), .own o, j3, j4, j5, j6, j7]
theorem t_l1 (ns : List Int) (k m : Int) (e : En) (h : InA ns k e) : ∃ e', turn (gN 3) l_law_1 (.int m) e = .ok .nx e' ∧ InA ns k e' := by
  obtain ⟨o, j3, j4, j5, j6, j7, ho, rfl⟩ := h
  obtain ⟨N1, o1, e1, i1, v1⟩ := s_numN o 5 (.inr rfl) ho
  obtain ⟨a2, b2, n2, k2, o2, e2, ha2, hb2, hn2, hk2, v2⟩ := s_small o1 v1
  obtain ⟨N, o3, e3, hm, v3⟩ := s_pick o2 [N1, nums a2 b2 n2 k2, .tup [.int 1, .int 0, .int 4, .int 2], .tup [.int 1, .int 1, .int 5, .int 3]] v2 (by simp) (by simp)
  have hN : InN N := by
    simp only [List.mem_cons, List.not_mem_nil, or_false] at hm
    rcases hm with rfl | rfl | rfl | rfl
    · exact i1
    · exact ⟨a2, b2, n2, k2, rfl, ha2, hb2, hn2, hk2⟩
    · exact ⟨1, 0, 4, 2, rfl, by omega, by omega, by omega, by omega⟩
    · exact ⟨1, 1, 5, 3, rfl, by omega, by omega, by omega, by omega⟩
  obtain ⟨a, b, n, c, rfl, ha, hb, hn, hc⟩ := hN
  obtain ⟨w, o4, e4, lw, v4⟩ := s_checks o3 v3 7 (by omega) (by omega)
  have hl := s_limits (a : Nat) (b : Nat) (n : Nat) (c : Nat) (by omega) (by omega) (by omega) (by omega)
  have hd := s_due a b n c hn.1 w (by omega)
  have h1 := s_fe a b n c hn.1 hc.1 hn.2 hc.2 w (by omega) (s_chklog _ _ _ _ w (by omega))
  have e := Hi.bests_least (a := a) (b := b) hn.1 hc.1 w.reverse
  rw [List.reverse_reverse] at e
  rw [← e] at hd
  have sm := same_of _ (rpr_op2 _ (lst_ok (a := a) (b := b) hn.1 hc.1 w (by omega)))
  exact ⟨_, b_l1 (.scr ns) (.int k) N1 _ _ _ _ _ m o o1 o2 o3 o4 j3 j4 j5 j6 j7 e1 e2 e3 e4 hl hd h1 sm, o4, _, _, _, _, _, v4, rfl⟩
theorem b_l2 (S cv N0 N C L d : D) (k : Int) (o o1 o2 o3 o4 : D) (r : List D) (j1 j2 j3 j4 j5 j6 j7 k3 k4 k5 k6 k7 : Sl) (X : List D → M Fl) (hX : forL (gN 3) l_law_1 = X) (c1 : f__law_cell_at .non [S, .int k] = .ok cv .non) (c2 : f__law_pen .non [cv] = .ok o .non) (hr : gRng [.int 2] = some r) (f : X r [.val S, .val (.int k), .own o, j3, j4, j5, j6, j7] = .ok .nx [.val S, .val (.int k), .own o1, k3, k4, k5, k6, k7])
    (e0 : f__law_small o1 [] = .ok N0 o2) (e1 : f__law_pick o2 [.lst [N0, .tup [.int 1, .int 1, .int 3, .int 2]]] = .ok N o3) (e2 : f__law_checks o3 [.int 50] = .ok C o4) (hl : f__law_limits .non [N] = .ok L .non) (h1 : f_fewest_errors .non [L, C] = .ok d .non) (h2 : f__law_long .non [N, C] = .ok d .non) (s : f__law_same .non [d, d] = .ok (.bl true) .non) :
    turn (gN 1) l_law_2 (.int k) [.val S, j1, j2, j3, j4, j5, j6, j7] = .ok .nx [.val S, .val (.int k), .own o4, k3, .val N, .val C, k6, k7] := by
  simp only [l_law_2, sFor, hX]
  simp [sizeLine, c1, c2, hr, f, e0, e1, e2, hl, h1, h2, s, mkF0, mkF1, fin0, fin1, st0, st1, bnd, Sr.ret, opt, mN, mNB, mB, der, m1, m2, m2b, m2r, mT, asB, mChain, mAnd, mOr, mNot, mAndV, mOrV, mNotV, mIf, mNil, mCons, mTup, mLst, mIsN, mNotN, Sr.isNon, mCal, mCal1, mIsi, mFldB, gFld, mC0, mC1, ap0, ap1, chkO, chkL, putL, mMk, apM, skp, sq, sDrop, sRet, sRetO, sIf, sSet, sSetO, sAsg, sPar, gN, gsN, gsC, gT, gA, sApp, sPutI, sNever, mItems, dItems, mRng, mRng2, gRng2, turn, gI, gI0, gLt, gLe, gGt, gGe, gAdd, gAddI, gAddS, gAddT, gAddL, Sr.gSub, gMul, gMulI, gDiv, gMod, gPow, gNeg, gEq, gNe, dEq, eqS, gLen, gInt1, gMax2, gMin2, gAbs, gIx, gLtT, dInts, putD, gIsi, dKind, tInt, tOnly, List.map_cons, List.map_nil, List.length_cons, List.length_nil, List.cons_append, List.nil_append, List.getElem?_cons_zero, List.getElem?_cons_succ, List.set_cons_zero, List.set_cons_succ, List.replicate, Option.some_or, Option.none_or, Option.map_some, Option.map_none, Option.bind_some, Option.bind_none]
def InB (ns : List Int) (e : En) : Prop := ∃ j1 j2 j3 j4 j5 j6 j7, e = [.val (.scr ns), j1, j2, j3, j4, j5, j6, j7]
theorem s_outer (ns : List Int) (k : Int) (hk : 0 ≤ k) (e : En) (h : InB ns e) : ∃ e', turn (gN 1) l_law_2 (.int k) e = .ok .nx e' ∧ InB ns e' := by
  obtain ⟨j1, j2, j3, j4, j5, j6, j7, rfl⟩ := h
  obtain ⟨c, c1⟩ := s_cell ns k hk
  obtain ⟨o, c2, ho⟩ := s_pen c
  obtain ⟨e', f1, o1, k3, k4, k5, k6, k7, v1, rfl⟩ := forL_inv (w := gN 3) (b := l_law_1) (InA ns k) (ds := (List.range 2).map fun (x : Nat) => D.int ((x : Nat) : Int)) (e := [.val (.scr ns), .val (.int k), .own o, j3, j4, j5, j6, j7]) (fun d hd e h => by
    rw [List.mem_map] at hd
    obtain ⟨x, _, rfl⟩ := hd
    exact t_l1 ns k _ e h) ⟨_, _, _, _, _, _, ho, rfl⟩
  obtain ⟨a2, b2, n2, k2, o2, e0, ha2, hb2, hn2, hk2, v2⟩ := s_small o1 v1
  obtain ⟨N, o3, e1, hm, v3⟩ := s_pick o2 [nums a2 b2 n2 k2, .tup [.int 1, .int 1, .int 3, .int 2]] v2 (by simp) (by simp)
  have hN : InN N := by
    simp only [List.mem_cons, List.not_mem_nil, or_false] at hm
    rcases hm with rfl | rfl
    · exact ⟨a2, b2, n2, k2, rfl, ha2, hb2, hn2, hk2⟩
    · exact ⟨1, 1, 3, 2, rfl, by omega, by omega, by omega, by omega⟩
  obtain ⟨a, b, n, c, rfl, ha, hb, hn, hc⟩ := hN
  obtain ⟨w, o4, e2, lw, v4⟩ := s_checks o3 v3 50 (by omega) (by omega)
  have hl := s_limits (a : Nat) (b : Nat) (n : Nat) (c : Nat) (by omega) (by omega) (by omega) (by omega)
  have h1 := s_fe a b n c hn.1 hc.1 hn.2 hc.2 w (by omega) (s_chklog _ _ _ _ w (by omega))
  have h2 := s_lg a b n c hn.1 hc.1 hn.2 hc.2 w (by omega)
  have sm := same_of _ (rpr_op _ (lst_ok (a := a) (b := b) hn.1 hc.1 w (by omega)))
  exact ⟨_, b_l2 (.scr ns) (.int _) _ _ _ _ _ k o o1 o2 o3 o4 _ j1 j2 j3 j4 j5 j6 j7 k3 k4 k5 k6 k7 _ rfl c1 c2 (rng_nats 2 (by omega)) f1 e0 e1 e2 hl h1 h2 sm, _, _, _, _, _, _, _, rfl⟩
theorem law_holds (ns : List Int) (hl : ns.length ≤ 63) : f_law .non [.scr ns] = .ok (.bl true) .non := by
  have hm : ∃ m : Int, m = (if (1 : Int) < (if 3 < (ns.length : Int) then 3 else (ns.length : Int)) then (if 3 < (ns.length : Int) then 3 else (ns.length : Int)) else 1) ∧ m ≤ 3 ∧ 0 ≤ m := ⟨_, rfl, by split <;> (try split) <;> omega, by split <;> (try split) <;> omega⟩
  obtain ⟨m, hm, hm1, hm2⟩ := hm
  have h0 : okR m = true := by unfold okR; simp; omega
  obtain ⟨e', h1, k1, k2, k3, k4, k5, k6, k7, rfl⟩ := forL_inv (w := gN 1) (b := l_law_2) (InB ns) (ds := rngL 0 m) (e := [.val (.scr ns), .no, .no, .no, .no, .no, .no, .no]) (fun d hd e h => by
    rw [rngL_eq, List.mem_map] at hd
    obtain ⟨k, hk, rfl⟩ := hd
    exact s_outer ns k (irng_mem hk).1 e h) ⟨_, _, _, _, _, _, _, rfl⟩
  simp [f_law, b_law, ← hm, h0, h1, mkF0, mkF1, fin0, fin1, st0, st1, bnd, Sr.ret, opt, mN, mNB, mB, der, m1, m2, m2b, m2r, mT, asB, mChain, mAnd, mOr, mNot, mAndV, mOrV, mNotV, mIf, mNil, mCons, mTup, mLst, mIsN, mNotN, Sr.isNon, mCal, mCal1, mIsi, mFldB, gFld, mC0, mC1, ap0, ap1, chkO, chkL, putL, mMk, apM, skp, sq, sDrop, sRet, sRetO, sIf, sSet, sSetO, sAsg, sPar, gN, gsN, gsC, gT, gA, sApp, sPutI, sNever, mItems, dItems, mRng, mRng2, gRng, gRng2, sFor, turn, gI, gI0, gLt, gLe, gGt, gGe, gAdd, gAddI, gAddS, gAddT, gAddL, Sr.gSub, gMul, gMulI, gDiv, gMod, gPow, gNeg, gEq, gNe, dEq, eqS, gLen, gInt1, gMax2, gMin2, gAbs, gIx, gLtT, dInts, putD, gIsi, dKind, tInt, tOnly, List.map_cons, List.map_nil, List.length_cons, List.length_nil, List.cons_append, List.nil_append, List.getElem?_cons_zero, List.getElem?_cons_succ, List.set_cons_zero, List.set_cons_succ, List.replicate, Option.some_or, Option.none_or, Option.map_some, Option.map_none, Option.bind_some, Option.bind_none]
end Lw
open PySem PySem.W PySem.Calls PyProof.Rows
theorem PySem.Challenge.cw_statusrules_k52_fewest_errors_holds : PySem.Challenge.rw_statusrules_k52_fewest_errors.Holds := by
  w_on; o_law
  refine HandSHeadRun.head_any (r := OpenLaw.row PySem.Challenge.rw_statusrules_k52_fewest_errors) (q := view (OpenLaw.row PySem.Challenge.rw_statusrules_k52_fewest_errors).prog [84]) (H := Lw.hk) (ob := Lw.ob) (M := 20000) (loose := Lw.lo) (d := HandSHeadRun.topDef (OpenLaw.row PySem.Challenge.rw_statusrules_k52_fewest_errors).prog 84) (kwd := []) Lw.ob_eq
    (by kernel_rfl) (fun s => by kernel_rfl) Lw.run (by kernel_rfl) (by kernel_rfl) (by kernel_rfl) (by rfl) (by first | assumption | decide +kernel) (by decide +kernel) ⟨rfl, rfl, rfl, rfl, rfl, by decide +kernel⟩ ?hw ?hc
  case hw => w_witness2
  case hc =>
    refine Sr.walk_gW (l := PySem.Challenge.rw_statusrules_k52_fewest_errors) (n := 63) (k := 10) (x := "_law_script") rfl (by decide) (by kernel_rfl) ⟨rfl, by decide, by decide⟩ ?F
    intro w mg fa h Y G hm0
    obtain ⟨K, KX, c⟩ := Y
    letI : Sr.TabL := ⟨[], (PySem.Challenge.rw_statusrules_k52_fewest_errors).prog, w⟩
    have hm : mg ("law" : PySem.Str) = some (.ref fa) := by
      have e : (HandSHeadRun.topDef (OpenLaw.row PySem.Challenge.rw_statusrules_k52_fewest_errors).prog 84).name = ("law" : PySem.Str) := by kernel_rfl
      rw [← e]
      exact hm0
    obtain ⟨fd, hb, hF⟩ := Lw.all_mk (P := (PySem.Challenge.rw_statusrules_k52_fewest_errors).prog) (w := w) KX G hm c ⟨rfl, rfl⟩
    refine ⟨K, fd, _, KX, hb, fun H a ns hl hO hS => ?_, fun base _ _ => hF base⟩
    exact Sr.law_true (Lw.law_holds ns hl) hO rfl hS
