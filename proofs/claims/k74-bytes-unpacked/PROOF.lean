import PyProof.Rows.All
import Wide.All
import OpenK.AllK
import Wide.FinOn
import HandS.ForMost
import HandS.Walk
import HandS.HotCalls
import HandS.Exc
import HandS.CallSlots
import HandS.WordsExc
import HandS.Lambda
import KE.KDictKeyed
import PyProof.DictRoadsH
import HandS.TupAny
import HandS.IsInst
import HandS.Deep
import HandS.TupLe
import HandS.Style
import HandS.Defaults
import HandS.MakeKwOnly
import HandS.Property
import HandS.HeadEnd
import HandS.Ends
import Lean
import HandS.Head0
import HandS.Head1
import HandS.Head2
import HandS.HeadHook1
import HandS.HeadHook2
import HandS.Comp
import HandS.ExcOwn
import HandS.ExcIs
import HandS.TryOnly
import HandS.Text
import HandS.List
import HandS.StrMore
import HandS.RaiseMore
import HandS.FStr
import HandS.Dict
import HandS.Zip
import HandS.TupMul
import HandS.RevRange
import HandS.TupLen
import HandS.ClsMeth
import KE.KCallOwn
import KE.KOpsOwn
import KE.GoesEnum
import PyProof.ListStr
import PyProof.ListMulRight
import PyProof.Rows.ListMulR
import PyProof.Rows.StrIntSpec
import OpenK.KOwn
import KE.GoesMore
import HandS.More
import HandS.Strs
import HandS.Hot
import HandS.HeadHook4
import HandS.EndTab
import KE.OsSortAny
import PyProof.Rows.SortShellAny
import PyProof.Rows.StrMeet
import HandS.DictComp
import KE.KDictList
import HandS.Conv
import HandS.Sort
import HandS.Bytes
import HandS.BytesMake
import HandS.ToBytes
import HandS.Iter
import KE.BytesMulAny
import KE.KBytesStep
import PyProof.StrLawsRepr
import PyProof.Rows.RegReprOcc
import PySem.Challenge.RW_statusrules_k74_bytes_unpacked
set_option Elab.async false
set_option autoImplicit false
set_option linter.all false
set_option maxHeartbeats 4000000
set_option maxRecDepth 100000
namespace Sr
open PySem PySem.Spec L2
inductive D where
  | non
  | bl (b : Bool)
  | int (i : Int)
  | str (x : Str)
  | byt (b : Array UInt8)
  | lst (xs : List D)
  | tup (xs : List D)
  | dk (kvs : List (Key × D))
  | dt (kvs : List (List Key × D))
  | obj (c : Str) (fs : List (Str × D))
  | scr (ns : List Int)
  | ct (xs : List D)
  | dl (ks : List (List Key))
instance : Inhabited D := ⟨.non⟩
section
variable (K : PySem.W.Frag) (mg : Str → Option Value) (F : Hp)
mutual
def Rp : D → V → Prop
  | .non, v => v = .non
  | .bl b, v => v = .bl b
  | .int i, v => v = .int i
  | .str x, v => v = .str x
  | .byt b, v => v = .byt b
  | .lst ds, v => ∃ a xs, v = .ref a ∧ F a = some (.lst xs) ∧ RpL ds xs
  | .tup ds, v => ∃ a xs, v = .ref a ∧ F a = some (.tup xs) ∧ RpL ds xs
  | .ct ds, v => ∃ a xs, v = .ref a ∧ SqT K F a xs ∧ RpL ds xs
  | .dk kvs, v => ∃ a ys, v = .ref a ∧ F a = some (.dK ys) ∧ RpK kvs ys
  | .dt kvs, v => ∃ a ys, v = .ref a ∧ F a = some (.dT ys) ∧ RpT kvs ys
  | .obj c fs, v => ∃ a C dx gs, v = .ref a ∧ mg c = some (.ref C) ∧ F a = some (.ins C dx gs) ∧ RpF fs gs
  | .scr ns, v => ∃ a, v = .ref a ∧ SqL K F a (ns.map V.int)
  | .dl _, v => ∃ a φ, v = .ref a ∧ F a = some (.ext φ)
def RpL : List D → List V → Prop
  | [], xs => xs = []
  | d :: ds, xs => ∃ v vs, xs = v :: vs ∧ Rp d v ∧ RpL ds vs
def RpK : List (Key × D) → List (Key × V) → Prop
  | [], xs => xs = []
  | (k, d) :: ds, xs => ∃ v vs, xs = (k, v) :: vs ∧ Rp d v ∧ RpK ds vs
def RpT : List (List Key × D) → List (List Key × V) → Prop
  | [], xs => xs = []
  | (k, d) :: ds, xs => ∃ v vs, xs = (k, v) :: vs ∧ Rp d v ∧ RpT ds vs
def RpF : List (Str × D) → List (Str × V) → Prop
  | [], xs => xs = []
  | (k, d) :: ds, xs => ∃ v vs, xs = (k, v) :: vs ∧ Rp d v ∧ RpF ds vs
end
end
theorem seqC_mono {K : PySem.W.Frag} {H H' : Hp} {a : Addr} {xs : List V} (e : Same H H') (h : SqT K H a xs) : SqT K H' a xs := by
  rcases h with (h | ⟨o, h⟩) | h
  · exact .inl (.inl (e _ _ h))
  · exact .inl (.inr ⟨o, e _ _ h⟩)
  · exact .inr h
section
variable {K : PySem.W.Frag} {mg : Str → Option Value} {F F' : Hp}
mutual
theorem Rp.mono (s : Same F F') : ∀ (d : D) (v : V), Rp K mg F d v → Rp K mg F' d v
  | .non, v, h => h
  | .bl b, v, h => h
  | .int i, v, h => h
  | .str x, v, h => h
  | .byt b, v, h => h
  | .lst ds, v, h => by
    unfold Rp at h ⊢
    obtain ⟨a, xs, e, q, r⟩ := h
    exact ⟨a, xs, e, s _ _ q, RpL.mono s ds xs r⟩
  | .tup ds, v, h => by
    unfold Rp at h ⊢
    obtain ⟨a, xs, e, q, r⟩ := h
    exact ⟨a, xs, e, s _ _ q, RpL.mono s ds xs r⟩
  | .ct ds, v, h => by
    unfold Rp at h ⊢
    obtain ⟨a, xs, e, q, r⟩ := h
    exact ⟨a, xs, e, seqC_mono s q, RpL.mono s ds xs r⟩
  | .dk ds, v, h => by
    unfold Rp at h ⊢
    obtain ⟨a, xs, e, q, r⟩ := h
    exact ⟨a, xs, e, s _ _ q, RpK.mono s ds xs r⟩
  | .dt ds, v, h => by
    unfold Rp at h ⊢
    obtain ⟨a, xs, e, q, r⟩ := h
    exact ⟨a, xs, e, s _ _ q, RpT.mono s ds xs r⟩
  | .obj c fs, v, h => by
    unfold Rp at h ⊢
    obtain ⟨a, C, dx, gs, e, m, q, r⟩ := h
    exact ⟨a, C, dx, gs, e, m, s _ _ q, RpF.mono s fs gs r⟩
  | .scr ns, v, h => by
    unfold Rp at h ⊢
    obtain ⟨a, e, q⟩ := h
    exact ⟨a, e, s.seq q⟩
  | .dl ks, v, h => by
    unfold Rp at h ⊢
    obtain ⟨a, φ, e, q⟩ := h
    exact ⟨a, φ, e, s _ _ q⟩
theorem RpL.mono (s : Same F F') : ∀ (ds : List D) (xs : List V), RpL K mg F ds xs → RpL K mg F' ds xs
  | [], xs, h => h
  | d :: ds, xs, h => by
    unfold RpL at h ⊢
    obtain ⟨v, vs, e, r, q⟩ := h
    exact ⟨v, vs, e, Rp.mono s d v r, RpL.mono s ds vs q⟩
theorem RpK.mono (s : Same F F') : ∀ (ds : List (Key × D)) (xs : List (Key × V)), RpK K mg F ds xs → RpK K mg F' ds xs
  | [], xs, h => h
  | (k, d) :: ds, xs, h => by
    unfold RpK at h ⊢
    obtain ⟨v, vs, e, r, q⟩ := h
    exact ⟨v, vs, e, Rp.mono s d v r, RpK.mono s ds vs q⟩
theorem RpT.mono (s : Same F F') : ∀ (ds : List (List Key × D)) (xs : List (List Key × V)), RpT K mg F ds xs → RpT K mg F' ds xs
  | [], xs, h => h
  | (k, d) :: ds, xs, h => by
    unfold RpT at h ⊢
    obtain ⟨v, vs, e, r, q⟩ := h
    exact ⟨v, vs, e, Rp.mono s d v r, RpT.mono s ds vs q⟩
theorem RpF.mono (s : Same F F') : ∀ (ds : List (Str × D)) (xs : List (Str × V)), RpF K mg F ds xs → RpF K mg F' ds xs
  | [], xs, h => h
  | (k, d) :: ds, xs, h => by
    unfold RpF at h ⊢
    obtain ⟨v, vs, e, r, q⟩ := h
    exact ⟨v, vs, e, Rp.mono s d v r, RpF.mono s ds vs q⟩
end
end
end Sr
namespace Sr
open PySem PySem.Spec L2
class TabL where
  l : List (Addr × Str)
  P : Program
  w : World
def kL : Key → Leaf
  | .inl i => .num i
  | .inr x => .text x
def LKy (P : Program) (w : World) (a : Addr) (xs : List (List Key × Addr)) : HO := .ext fun h => xs.length ≤ sizeLine ∧ (a == sysModules) = false ∧
  ∃ o es ep, h.get? a = some o ∧ o.ExactDict ∧ o.data = .dict es ep ∧ es.toList = (xs.map fun x => (x.1.map kL, x.2, Value.bool true)).map (entryOfKey (tupleKind (leafKind P w))) ∧ ((xs.map fun x => (x.1.map kL, x.2, Value.bool true)).map (·.1)).Nodup
def kOf : V → Option Key
  | .int i => some (.inl i)
  | .bl b => some (.inl (if b then 1 else 0))
  | .str x => some (.inr x)
  | _ => none
abbrev NTb (o : HO) : Prop := ∀ ps, o ≠ .tbl ps
structure TbOk [TabL] (H F : Hp) : Prop where
  tabs : LamX.Tabs TabL.l H
  nt : ∀ a o, F a = some o → NTb o
  all : ∀ a ps, H a = some (.tbl ps) → ∃ q ∈ TabL.l, q.1 = a
variable [TabL]
inductive Sl where
  | no
  | val (d : D)
  | own (d : D)
abbrev En := List Sl
structure Ex where
  c : Str
  fs : List (Str × D)
inductive Out (A : Type) where
  | ok (a : A) (e : En)
  | exc (x : Ex) (e : En)
  | bad
abbrev M (A : Type) := En → Out A
def bnd {A B : Type} (m : M A) (f : A → M B) : M B := fun e => match m e with
  | .ok a e1 => f a e1
  | .exc x e1 => .exc x e1
  | .bad => .bad
def ret {A : Type} (a : A) : M A := fun e => .ok a e
def opt {A : Type} (o : Option A) : M A := fun e => match o with
  | some a => .ok a e
  | none => .bad
section
variable (K : PySem.W.Frag) (mg : Str → Option Value)
def OwnAt (H F : Hp) (p : Addr) : D → Prop
  | .lst ds => ∃ xs, H p = some (.lst xs) ∧ RpL K mg F ds xs
  | .dk ds => ∃ xs, H p = some (.dK xs) ∧ RpK K mg F ds xs
  | .dt ds => ∃ xs, H p = some (.dT xs) ∧ RpT K mg F ds xs
  | .obj c fs => ∃ C dx gs, mg c = some (.ref C) ∧ H p = some (.ins C dx gs) ∧ RpF K mg F fs gs
  | .dl ks => ∃ xs : List (List Key × Addr), H p = some (LKy TabL.P TabL.w p xs) ∧ xs.map (·.1) = ks ∧ ∀ x ∈ xs, ∃ vs, F x.2 = some (.tup vs) ∧ vs.map kOf = x.1.map some
  | _ => False
end
def Ow (e : En) (σ : St) (a : Addr) : Prop := ∃ (i : Nat) (d : D), e[i]? = some (Sl.own d) ∧ σ[i]? = some (some (V.ref a))
abbrev Pn := List (Nat × Addr)
structure ER (K : PySem.W.Frag) (mg : Str → Option Value) (T : Pn) (e : En) (σ : St) (H F : Hp) : Prop where
  sub : Same F H
  val : ∀ (i : Nat) (d : D), e[i]? = some (.val d) → ∃ v, σ[i]? = some (some v) ∧ Rp K mg F d v
  own : ∀ (i : Nat) (d : D), e[i]? = some (.own d) → ∃ p, σ[i]? = some (some (.ref p)) ∧ F p = none ∧ OwnAt K mg H F p d
  inj : ∀ (i j : Nat) (p : Addr) (d d' : D), e[i]? = some (.own d) → e[j]? = some (.own d') → σ[i]? = some (some (.ref p)) → σ[j]? = some (some (.ref p)) → i = j
  len : e.length = σ.length
  pin : ∀ q ∈ T, σ[q.1]? = some (some (.ref q.2))
  tb : TbOk H F
structure Mv (e : En) (σ : St) (H F : Hp) (e' : En) (σ' : St) (H' F' : Hp) : Prop where
  sub : Same F F'
  keep : ∀ a o, H a = some o → ¬ Ow e σ a → (NTb o → H' a = some o) ∧ ¬ Ow e' σ' a
  new : ∀ a o, F' a = some o → F a = some o ∨ H a = none ∨ Ow e σ a
  there : ∀ a, H' a = none → H a = none
theorem Mv.refl {e : En} {σ : St} {H F : Hp} : Mv e σ H F e σ H F := ⟨Same.refl _, fun _ _ h n => ⟨fun _ => h, n⟩, fun _ _ h => .inl h, fun _ h => h⟩
theorem Mv.trans {e e1 e2 : En} {σ σ1 σ2 : St} {H F H1 F1 H2 F2 : Hp} (a : Mv e σ H F e1 σ1 H1 F1) (b : Mv e1 σ1 H1 F1 e2 σ2 H2 F2) : Mv e σ H F e2 σ2 H2 F2 := by
  refine ⟨a.sub.trans b.sub, fun c o h n => ?_, fun c o h => ?_, fun c h => a.there c (b.there c h)⟩
  · obtain ⟨h1, n1⟩ := a.keep c o h n
    refine ⟨fun z => (b.keep c o (h1 z) n1).1 z, ?_⟩
    cases q : H1 c with
    | none => rw [a.there c q] at h; cases h
    | some u => exact (b.keep c u q n1).2
  · rcases b.new c o h with h1 | h1 | h1
    · exact a.new c o h1
    · exact .inr (.inl (a.there c h1))
    · cases q : H c with
      | none => exact .inr (.inl rfl)
      | some u =>
        by_cases w : Ow e σ c
        · exact .inr (.inr w)
        · exact absurd h1 (a.keep c u q w).2
def Al (H F H' F' : Hp) : Prop := (H' = H ∧ F' = F) ∨ ∃ p o, H p = none ∧ H' = upd H p o ∧ F' = upd F p o ∧ NTb o
theorem Al.refl {H F : Hp} : Al H F H F := .inl ⟨rfl, rfl⟩
theorem Al.one {H F : Hp} {p : Addr} {o : HO} (h : H p = none) (n : NTb o := by first | assumption | (intro _ z; exact nomatch z) | (intro _ z; cases z)) : Al H F (upd H p o) (upd F p o) := .inr ⟨p, o, h, rfl, rfl, n⟩
theorem same_upd {H : Hp} {p : Addr} {o : HO} (h : H p = none) : Same H (upd H p o) := fun b u e => by
  rw [upd_ne (ne_of_none e h)]; exact e
theorem Al.same {H F H' F' : Hp} (s : Same F H) (a : Al H F H' F') : Same F F' ∧ Same H H' ∧ Same F' H' := by
  rcases a with ⟨rfl, rfl⟩ | ⟨p, o, h, rfl, rfl, _⟩
  · exact ⟨Same.refl _, Same.refl _, s⟩
  · refine ⟨same_upd (s.free h), same_upd h, fun b u e => ?_⟩
    by_cases hb : b = p
    · subst hb; rw [upd_same] at e ⊢; exact e
    · rw [upd_ne hb] at e ⊢; exact s b u e
theorem TbOk.updF {H F : Hp} (t : TbOk H F) {p : Addr} {o : HO} (n : NTb o) : TbOk H (upd F p o) := ⟨t.tabs, fun a u h => by
  by_cases hb : a = p
  · subst hb; rw [upd_same] at h; cases h; exact n
  · rw [upd_ne hb] at h; exact t.nt a u h, t.all⟩
theorem TbOk.push {H F : Hp} (t : TbOk H F) {p : Addr} {o : HO} (h : H p = none) (n : NTb o) : TbOk (upd H p o) F := ⟨t.tabs.ext (same_upd h), t.nt, fun a ps z => by
  by_cases hb : a = p
  · subst hb; rw [upd_same] at z; cases z; exact (n ps rfl).elim
  · rw [upd_ne hb] at z; exact t.all a ps z⟩
theorem TbOk.al {H F H' F' : Hp} (t : TbOk H F) (a : Al H F H' F') : TbOk H' F' := by
  rcases a with ⟨rfl, rfl⟩ | ⟨p, o, h, rfl, rfl, n⟩
  · exact t
  · exact (t.push h n).updF n
section
variable {K : PySem.W.Frag} {mg : Str → Option Value} {T : Pn} {e e' : En} {σ σ' : St} {H F H' F' : Hp} {p a : Addr} {d : D} {v : V}
theorem OwnAt.nt (h : OwnAt K mg H F p d) {o : HO} (ho : H p = some o) : NTb o := by
  cases d <;> try (exact h.elim)
  · obtain ⟨xs, h1, h2⟩ := h; rw [h1] at ho; cases ho; exact fun _ z => nomatch z
  · obtain ⟨xs, h1, h2⟩ := h; rw [h1] at ho; cases ho; exact fun _ z => nomatch z
  · obtain ⟨xs, h1, h2⟩ := h; rw [h1] at ho; cases ho; exact fun _ z => nomatch z
  · obtain ⟨C, dx, xs, m, h1, h2⟩ := h; rw [h1] at ho; cases ho; exact fun _ z => nomatch z
  · obtain ⟨xs, h1, h2⟩ := h; rw [h1] at ho; cases ho; exact fun _ z => nomatch z
theorem OwnAt.keep (h : OwnAt K mg H F p d) (s : Same F F') (q : ∀ o, H p = some o → H' p = some o) : OwnAt K mg H' F' p d := by
  cases d <;> try (exact h.elim)
  · obtain ⟨xs, h1, h2⟩ := h
    exact ⟨xs, q _ h1, RpL.mono s _ _ h2⟩
  · obtain ⟨xs, h1, h2⟩ := h
    exact ⟨xs, q _ h1, RpK.mono s _ _ h2⟩
  · obtain ⟨xs, h1, h2⟩ := h
    exact ⟨xs, q _ h1, RpT.mono s _ _ h2⟩
  · obtain ⟨C, dx, xs, m, h1, h2⟩ := h
    exact ⟨C, dx, xs, m, q _ h1, RpF.mono s _ _ h2⟩
  · obtain ⟨xs, h1, h2, h3⟩ := h
    exact ⟨xs, q _ h1, h2, fun x hx => let ⟨vs, a, b⟩ := h3 x hx; ⟨vs, s _ _ a, b⟩⟩
theorem OwnAt.there (h : OwnAt K mg H F p d) : ∃ o, H p = some o := by
  cases d <;> try (exact h.elim)
  · obtain ⟨xs, h1, h2⟩ := h; exact ⟨_, h1⟩
  · obtain ⟨xs, h1, h2⟩ := h; exact ⟨_, h1⟩
  · obtain ⟨xs, h1, h2⟩ := h; exact ⟨_, h1⟩
  · obtain ⟨C, dx, xs, m, h1, h2⟩ := h; exact ⟨_, h1⟩
  · obtain ⟨xs, h1, h2⟩ := h; exact ⟨_, h1⟩
theorem ER.al (r : ER K mg T e σ H F) (a : Al H F H' F') : ER K mg T e σ H' F' := by
  obtain ⟨s1, s2, s3⟩ := a.same r.sub
  refine ⟨s3, fun i d h => ?_, fun i d h => ?_, r.inj, r.len, r.pin, r.tb.al a⟩
  · obtain ⟨v, h1, h2⟩ := r.val i d h
    exact ⟨v, h1, Rp.mono s1 _ _ h2⟩
  · obtain ⟨p, h1, h2, h3⟩ := r.own i d h
    refine ⟨p, h1, ?_, h3.keep s1 (s2 p)⟩
    obtain ⟨o, ho⟩ := h3.there
    rcases a with ⟨rfl, rfl⟩ | ⟨q, u, hq, rfl, rfl, nu⟩
    · exact h2
    · rw [upd_ne (ne_of_none ho hq)]; exact h2
theorem Mv.al (r : ER K mg T e σ H F) (a : Al H F H' F') : Mv e σ H F e σ H' F' := by
  obtain ⟨s1, s2, s3⟩ := a.same r.sub
  refine ⟨s1, fun b o h n => ⟨fun _ => s2 b o h, n⟩, fun b o h => ?_, fun b h => s2.free h⟩
  rcases a with ⟨rfl, rfl⟩ | ⟨q, u, hq, rfl, rfl, nu⟩
  · exact .inl h
  · by_cases hb : b = q
    · subst hb; exact .inr (.inl hq)
    · rw [upd_ne hb] at h; exact .inl h
end
def XR (K : PySem.W.Frag) (mg : Str → Option Value) (x : Ex) (cl : Value) (dd : Option Addr) (H F : Hp) : Prop :=
  mg x.c = some cl ∧ ((x.fs = [] ∧ dd = none) ∨ (x.fs ≠ [] ∧ ∃ a gs, dd = some a ∧ H a = some (.xd gs) ∧ RpF K mg F x.fs gs))
section
variable (K : PySem.W.Frag) (mg : Str → Option Value) (T : Pn) (W : WX)
def RunAt {A : Type} (e : En) (F : Hp) (m : M A) (σ : St) (H : Hp) (P : A → En → Hp → Hp → Prop) : Prop :=
  match m e with
  | .ok a e' => ∀ H' F', ER K mg T e' σ H' F' → Mv e σ H F e' σ H' F' → P a e' H' F'
  | .exc x e' => ∀ H' F' cl dd, ER K mg T e' σ H' F' → Mv e σ H F e' σ H' F' → XR K mg x cl dd H' F' → W cl dd σ H'
  | .bad => False
end
section
variable {K : PySem.W.Frag} {mg : Str → Option Value} {T : Pn} {W : WX} {A B : Type} {e : En} {σ : St} {H F : Hp}
theorem RunAt.mono {m : M A} {P P' : A → En → Hp → Hp → Prop} (h : RunAt K mg T W e F m σ H P) (hp : ∀ a e' H' F', ER K mg T e' σ H' F' → Mv e σ H F e' σ H' F' → P a e' H' F' → P' a e' H' F') : RunAt K mg T W e F m σ H P' := by
  unfold RunAt at h ⊢
  cases q : m e with
  | ok a e' =>
    rw [q] at h
    exact fun H' F' er mv => hp _ _ _ _ er mv (h H' F' er mv)
  | exc x e' => rw [q] at h; exact h
  | bad => rw [q] at h; exact h
theorem RunAt.fin {o : Option A} {P : A → En → Hp → Hp → Prop} (h : RunAt K mg T W e F (opt o) σ H P) (er : ER K mg T e σ H F) : ∃ a, o = some a ∧ ∀ H' F', Al H F H' F' → P a e H' F' := by
  unfold RunAt opt at h
  cases o with
  | none => exact h.elim
  | some a => exact ⟨a, rfl, fun H' F' al => h H' F' (er.al al) (Mv.al er al)⟩
end
end Sr
namespace Sr
variable [TabL]
open PySem PySem.Spec L2
open PyProof.Rows hiding St
inductive Bv where
  | val (d : D)
  | slot (i : Nat)
def BwR (K : PySem.W.Frag) (mg : Str → Option Value) (σ : St) (F : Hp) : Bv → V → Prop
  | .val d, v => Rp K mg F d v
  | .slot i, v => σ[i]? = some (some v)
section
variable {K : PySem.W.Frag} {mg : Str → Option Value} {T : Pn} {W : WX} {e : En} {σ : St} {H F F' : Hp} {b : Bv} {v : V}
theorem BwR.mono (s : Same F F') (h : BwR K mg σ F b v) : BwR K mg σ F' b v := by
  cases b with
  | val d => exact Rp.mono s _ _ h
  | slot i => exact h
end
section
variable {X : Cx} {T : Pn} {W : WX} {pos : Pos} {a b c : Expr} {ma mb mc : M D}
variable {rest : List Expr} {n n' : M Bool}
theorem RpL.len {K : PySem.W.Frag} {mg : Str → Option Value} {F : Hp} : ∀ {ds : List D} {xs : List V}, RpL K mg F ds xs → ds.length = xs.length
  | [], xs, h => by unfold RpL at h; subst h; rfl
  | d :: ds, xs, h => by unfold RpL at h; obtain ⟨v, vs, rfl, _, q⟩ := h; rw [List.length_cons, List.length_cons, q.len]
end
theorem RunAt.new {K : PySem.W.Frag} {mg : Str → Option Value} {T : Pn} {W : WX} {e : En} {σ : St} {H F : Hp} {d : D} {P : D → En → Hp → Hp → Prop} {p : Addr} {o : HO} (h : RunAt K mg T W e F (ret d) σ H P) (er : ER K mg T e σ H F) (hp : H p = none) (nt : NTb o := by first | assumption | (intro _ z; exact nomatch z) | (intro _ z; cases z)) : P d e (upd H p o) F := by
  have s : Same H (upd H p o) := same_upd hp
  refine h _ F ⟨er.sub.trans s, er.val, fun i d q => ?_, er.inj, er.len, er.pin, er.tb.push hp nt⟩ ⟨Same.refl _, fun a u q n => ⟨fun _ => s a u q, n⟩, fun a u q => .inl q, fun a q => s.free q⟩
  obtain ⟨p', h1, h2, h3⟩ := er.own i d q
  exact ⟨p', h1, h2, h3.keep (Same.refl _) (s p')⟩
end Sr
namespace Sr
variable [TabL]
open PySem PySem.Spec L2
open PyProof.Rows hiding St
section
variable {K : PySem.W.Frag} {mg : Str → Option Value} {F H : Hp}
theorem rl_nil {xs : List V} : RpL K mg F [] xs ↔ xs = [] := by rw [RpL]
theorem rl_cons {d : D} {ds : List D} {xs : List V} : RpL K mg F (d :: ds) xs ↔ ∃ v vs, xs = v :: vs ∧ Rp K mg F d v ∧ RpL K mg F ds vs := by rw [RpL]
theorem RpL.append : ∀ {ds es : List D} {xs ys : List V}, RpL K mg F ds xs → RpL K mg F es ys → RpL K mg F (ds ++ es) (xs ++ ys)
  | [], es, xs, ys, h, q => by rw [rl_nil] at h; subst h; exact q
  | d :: ds, es, xs, ys, h, q => by
    rw [rl_cons] at h
    obtain ⟨v, vs, rfl, r, h⟩ := h
    rw [List.cons_append, rl_cons]
    exact ⟨v, vs ++ ys, rfl, r, RpL.append h q⟩
theorem RpL.take : ∀ (n : Nat) {ds : List D} {xs : List V}, RpL K mg F ds xs → RpL K mg F (ds.take n) (xs.take n)
  | 0, ds, xs, h => by simp [rl_nil]
  | n + 1, [], xs, h => by rw [rl_nil] at h; subst h; simp [rl_nil]
  | n + 1, d :: ds, xs, h => by
    rw [rl_cons] at h
    obtain ⟨v, vs, rfl, r, h⟩ := h
    rw [List.take_succ_cons, rl_cons]
    exact ⟨v, vs.take n, by simp, r, RpL.take n h⟩
theorem RpL.drop : ∀ (n : Nat) {ds : List D} {xs : List V}, RpL K mg F ds xs → RpL K mg F (ds.drop n) (xs.drop n)
  | 0, ds, xs, h => h
  | n + 1, [], xs, h => by rw [rl_nil] at h; subst h; simp [rl_nil]
  | n + 1, d :: ds, xs, h => by
    rw [rl_cons] at h
    obtain ⟨v, vs, rfl, r, h⟩ := h
    simp only [List.drop_succ_cons]
    exact RpL.drop n h
end
section
variable {X : Cx} {T : Pn} {W : WX} {pos : Pos} {a b c : Expr} {ma mb mc : M D}
theorem RpK.len {K : PySem.W.Frag} {mg : Str → Option Value} {F : Hp} : ∀ {ds : List (Key × D)} {xs : List (Key × V)}, RpK K mg F ds xs → ds.length = xs.length
  | [], xs, h => by unfold RpK at h; subst h; rfl
  | (k, d) :: ds, xs, h => by unfold RpK at h; obtain ⟨v, vs, rfl, _, q⟩ := h; rw [List.length_cons, List.length_cons, q.len]
end
end Sr
namespace Sr
variable [TabL]
open PySem PySem.Spec L2
open PyProof.Rows hiding St
inductive Fl where
  | nx
  | rt (d : D)
  | ro (d : D)
  | bk
  | ct
section
variable (K : PySem.W.Frag) (mg : Str → Option Value) (T : Pn) (W : WX)
def RunS (e : En) (F : Hp) (s : M Fl) (σ : St) (H : Hp) (Dn : Ends) : Prop :=
  match s e with
  | .ok .nx e' => ∀ σ' H' F', ER K mg T e' σ' H' F' → Mv e σ H F e' σ' H' F' → Dn.nx σ' H'
  | .ok (.rt d) e' => ∀ σ' H' F' v, ER K mg T e' σ' H' F' → Mv e σ H F e' σ' H' F' → Rp K mg F' d v → Dn.rt v H'
  | .ok (.ro d) e' => ∀ σ' H' F' p, ER K mg T e' σ' H' F' → Mv e σ H F e' σ' H' F' → (H p = none ∨ Ow e σ p) → F' p = none → ¬ Ow e' σ' p → OwnAt K mg H' F' p d → Dn.rt (.ref p) H'
  | .ok .bk e' => ∀ σ' H' F', ER K mg T e' σ' H' F' → Mv e σ H F e' σ' H' F' → Dn.bk σ' H'
  | .ok .ct e' => ∀ σ' H' F', ER K mg T e' σ' H' F' → Mv e σ H F e' σ' H' F' → Dn.ct σ' H'
  | .exc x e' => ∀ σ' H' F' cl dd, ER K mg T e' σ' H' F' → Mv e σ H F e' σ' H' F' → XR K mg x cl dd H' F' → W cl dd σ' H'
  | .bad => False
end
end Sr
namespace Sr
variable [TabL]
open PySem hiding start
open PySem.Spec L2
open PyProof.Rows hiding St
inductive Rs where
  | ok (d o : D)
  | exc (x : Ex) (o : D)
  | bad
abbrev Fnc := D → List D → Rs
structure Fr (p : Option Addr) (H F H' F' : Hp) : Prop where
  sub : Same F F'
  fin : Same F' H'
  keep : ∀ a o, H a = some o → NTb o → p ≠ some a → H' a = some o
  new : ∀ a o, F' a = some o → F a = some o ∨ H a = none
  there : ∀ a, H' a = none → H a = none
  tb : TbOk H' F'
section
variable (K : PySem.W.Frag) (mg : Str → Option Value)
def Res (ro : Bool) (p : Option Addr) (d : D) (H : Hp) (Q : VK) (H' F' : Hp) : Prop :=
  if ro = true then ∀ q, H q = none → F' q = none → OwnAt K mg H' F' q d → Q (.ref q) H' else ∀ v, Rp K mg F' d v → Q v H'
def spF0 (ro : Bool) (n : Nat) (f : Fnc) : Sp := fun vs H Q E => ∃ (ds : List D) (F : Hp), Same F H ∧ TbOk H F ∧ RpL K mg F ds vs ∧ ds.length = n ∧
  match f .non ds with
  | .ok d _ => ∀ H' F', Fr none H F H' F' → Res K mg ro none d H Q H' F'
  | .exc x _ => ∀ H' F' cl dd, Fr none H F H' F' → XR K mg x cl dd H' F' → E cl dd H'
  | .bad => False
end
section
variable {P : Program} {w : World} {K : PySem.W.Frag} {mg : Str → Option Value} {base : Heap} {x qual : Str} {params : Arguments} {body : List Stmt} {scope : Scope} {dvs : List V} {kws : List (Str × V)} {f : Addr} {fd : FuncData}
structure FnG (P : Program) (w : World) (K : PySem.W.Frag) (mg : Str → Option Value) (base : Heap) (k : Nat) (f : Addr) (fd : FuncData) (ps : List Str) (sp : Sp) : Prop where
  len : ∀ vs H Q E, sp vs H Q E → vs.length = ps.length
  run : ∀ (A : Around) (outer : List Env) (s : Shared) (H : Hp) (args : Args) (us : List Value) (vs : List V) (Q : VK) (E : XK),
    Room k A → A.guards = some [] → Env0 P w K mg base A outer s H → BindsTo s fd args (ps.zip us) → Vals vs us → sp vs H Q E →
    codeAny (model P w) A (.call (.ref f) args) (CR (L2N.CX P w) outer P w H s Q E) s
theorem FnG.mono {P : Program} {w : World} {K : PySem.W.Frag} {mg : Str → Option Value} {base : Heap} {j k : Nat} {f : Addr} {fd : FuncData} {ps : List Str} {sp : Sp} (F : FnG P w K mg base j f fd ps sp) (h : j ≤ k) : FnG P w K mg base k f fd ps sp :=
  ⟨F.len, fun A outer s H args us vs Q E hr => F.run A outer s H args us vs Q E (hr.mono h)⟩
end
end Sr
namespace Sr
variable [TabL]
open PySem hiding start
open PySem.Spec L2
open PyProof.Rows hiding St
section
variable {K : PySem.W.Frag} {mg : Str → Option Value} {F : Hp}
theorem rf_nil {xs : List (Str × V)} : RpF K mg F [] xs ↔ xs = [] := by rw [RpF]
theorem rf_cons {k : Str} {d : D} {ds : List (Str × D)} {xs : List (Str × V)} : RpF K mg F ((k, d) :: ds) xs ↔ ∃ v vs, xs = (k, v) :: vs ∧ Rp K mg F d v ∧ RpF K mg F ds vs := by rw [RpF]
theorem RpF.len : ∀ {fs : List (Str × D)} {gs : List (Str × V)}, RpF K mg F fs gs → fs.length = gs.length
  | [], gs, h => by rw [rf_nil] at h; subst h; rfl
  | (k, x) :: fs, gs, h => by rw [rf_cons] at h; obtain ⟨v, vs, rfl, r, h⟩ := h; rw [List.length_cons, List.length_cons, h.len]
end
structure ClK (K : PySem.W.Frag) (mg : Str → Option Value) (c : Str) (C : Addr) : Prop where
  mg : mg c = some (.ref C)
  cl : Cls K C
abbrev Cl (X : Cx) (c : Str) (C : Addr) : Prop := ClK X.K X.mg c C
end Sr
namespace Sr
open PySem hiding start
open PySem.Spec L2
open PyProof.Rows hiding St
structure DefZ where
  ad : PySem.W.Frag → Addr
  name : Str
  qual : Str
  st : Stmt
  kwd : List (Str × V) := []
def fnZ (K : PySem.W.Frag) (a : Addr) : He.FnW := match K.lookup a with
  | some ⟨_, _, .func fd, _⟩ => some (fd.name, fd.qualname, fd.params, fd.body, fd.scope, fd.globals, fd.closure, fd.builtins)
  | _ => none
def DefZ.val (d : DefZ) : He.FnW := some (d.name, d.qual, defArgs d.st, .stmts (defBody d.st), defScope d.st, mainGlobals, [], builtinsNs)
def DefZ.ok (K : PySem.W.Frag) (d : DefZ) : Bool := PySem.W.keepIn K (.ref (d.ad K)) && (match K.lookup (d.ad K) with
  | some ⟨_, _, .func fd, _⟩ => PySem.W.codeIn K fd.code d.qual && (He.dflB K fd.defaults [] && He.kwdB K fd.kwdefaults d.kwd)
  | _ => false)
abbrev AlZ : Type := Bool × List He.FnW
def obsK (fa : List He.Fa) (fn : List DefZ) (ex : PySem.W.Frag → Bool) (K : PySem.W.Frag) : AlZ := ((fa.all fun f => f.ok K) && ((fn.all fun d => d.ok K) && ex K), fn.map fun d => fnZ K (d.ad K))
def valZ (fn : List DefZ) : AlZ := (true, fn.map DefZ.val)
def SaysZ (fa : List He.Fa) (fn : List DefZ) (ex : PySem.W.Frag → Bool) (K : PySem.W.Frag) : Prop := obsK fa fn ex K = valZ fn
section
variable {fa : List He.Fa} {fn : List DefZ} {ex : PySem.W.Frag → Bool} {K : PySem.W.Frag}
theorem SaysZ.all (c : SaysZ fa fn ex K) : (fa.all fun f => f.ok K) = true ∧ (fn.all fun d => d.ok K) = true ∧ ex K = true := by
  obtain ⟨h1, h2⟩ := He.ba (show ((fa.all fun f => f.ok K) && ((fn.all fun d => d.ok K) && ex K)) = true from congrArg (fun z : AlZ => z.1) c)
  exact ⟨h1, He.ba h2⟩
end
def cliB (K : PySem.W.Frag) (c : Str) : Bool :=
  decide (PySem.W.findIn K (.ref (He.ga K c)) "__class__" = some (some (.builtin "object.__class__"))) && (decide (PySem.W.specialIn K (.builtin "object.__class__") "__get__" = some (some (.builtin "getset_descriptor.__get__"))) &&
    (decide (PySem.W.takesIn K (.builtin "object.__class__") = some true) && decide (PySem.W.mroIn K (He.ga K c) (.type "object") = some true)))
def ownB (K : PySem.W.Frag) (u : Value) (l : List (Str × Bool)) : Bool := l.all fun q => decide (PySem.W.kitOne K (.ref (He.ga K q.1)) u = some q.2)
end Sr
namespace Sr
open PySem hiding start
open L2
section
variable {A B : Type}
@[simp] theorem bnd_ret {a : A} {f : A → M B} {e : En} : bnd (ret a) f e = f a e := rfl
@[simp] theorem bnd_opt {a : A} {f : A → M B} {e : En} : bnd (opt (some a)) f e = f a e := rfl
end
end Sr
namespace Sr
variable [TabL]
open PySem hiding start
open PySem.Spec L2
open PyProof.Rows hiding St
theorem RunAt.of {K : PySem.W.Frag} {mg : Str → Option Value} {T : Pn} {W : WX} {A : Type} {m : M A} {e e1 : En} {σ : St} {H F : Hp} {x : A} {P : A → En → Hp → Hp → Prop} (q : m e = .ok x e1) (h : ∀ H' F', ER K mg T e1 σ H' F' → Mv e σ H F e1 σ H' F' → P x e1 H' F') : RunAt K mg T W e F m σ H P := by
  unfold RunAt
  rw [q]
  exact h
end Sr
namespace Sr
variable [TabL]
open PySem hiding start
open PySem.Spec L2
open PyProof.Rows hiding St
section
variable {K : PySem.W.Frag} {mg : Str → Option Value} {T : Pn} {e : En} {σ : St} {H F : Hp} {i : Nat}
theorem ER.unpin {q : Nat × Addr} (er : ER K mg (q :: T) e σ H F) : ER K mg T e σ H F := ⟨er.sub, er.val, er.own, er.inj, er.len, fun z hz => er.pin z (List.mem_cons_of_mem _ hz), er.tb⟩
end
def excB (K : PySem.W.Frag) (x : Str) : Bool :=
  decide (PySem.W.findIn K (.ref (He.ga K x)) "__getattribute__" = some (some (.builtin "BaseException.__getattribute__"))) && (decide (PySem.W.findIn K (.ref (He.ga K x)) "__getattr__" = some none) &&
    (decide (PySem.W.subIn K (.ref (He.ga K x)) (.type "BaseException") = some true) && (PySem.W.hasDictIn K (He.ga K x) && cliB K x)))
def catB (K : PySem.W.Frag) (u : Value) (l : List (Str × Bool)) : Bool := l.all fun q => decide (PySem.W.exmOne K (.ref (He.ga K q.1)) u = some q.2)
def exsB (K : PySem.W.Frag) (u : Value) (l : List (Str × Bool)) : Bool := l.all fun q => excB K q.1 && decide (PySem.W.kitOne K (.ref (He.ga K q.1)) u = some q.2)
end Sr
namespace Sr
variable [TabL]
open PySem hiding start
open PySem.Spec L2
open PyProof.Rows hiding St
structure OwnM (X : Cx) (k : Nat) (c : Str) (C : Addr) (m : Str) (n : Nat) (ps : List Str) (f : Fnc) : Prop where
  cl : Cl X c C
  ex : ∃ fa fd, PySem.W.findIn X.K (.ref C) m = some (some (.ref fa)) ∧ PySem.W.isFn X.K (.ref fa) = true ∧ FnG X.prog X.w X.K X.mg X.base k fa fd ps (spF0 X.K X.mg false n f) ∧ Binds X.K fd ps []
end Sr
namespace Sr
variable [TabL]
open PySem hiding start
open PySem.Spec L2
open PyProof.Rows hiding St
theorem RpF.none {K : PySem.W.Frag} {mg : Str → Option Value} {F : Hp} {m : Str} : ∀ {fs : List (Str × D)} {gs : List (Str × V)}, RpF K mg F fs gs → fs.lookup m = none → gs.lookup m = none
  | [], gs, h, _ => by unfold RpF at h; subst h; rfl
  | (g, d) :: fs, gs, h, n => by
    unfold RpF at h
    obtain ⟨v, vs, rfl, _, h⟩ := h
    rw [List.lookup_cons] at n ⊢
    cases q : m == g with
    | true => rw [q] at n; cases n
    | false => rw [q] at n; exact RpF.none h n
structure OwnK (X : Cx) (k : Nat) (c : Str) (C : Addr) (m : Str) (n : Nat) (ps : List Str) (f : Fnc) : Prop where
  cl : Cl X c C
  ex : ∃ fa fd, Meth X.K C m fa ∧ FnG X.prog X.w X.K X.mg X.base k fa fd ps (spF0 X.K X.mg false n f) ∧ Binds X.K fd ps []
theorem OwnK.m {X : Cx} {k : Nat} {c : Str} {C : Addr} {m : Str} {n : Nat} {ps : List Str} {f : Fnc} (h : OwnK X k c C m n ps f) : OwnM X k c C m n ps f := by
  obtain ⟨fa, fd, h1, h2, h3⟩ := h.ex
  exact ⟨h.cl, fa, fd, h1.at_, h1.fn, h2, h3⟩
end Sr
namespace Sr
variable [TabL]
open PySem hiding start
open PySem.Spec L2
open PyProof.Rows hiding St
section
variable {X : Cx} {T : Pn} {W : WX} {pos : Pos}
theorem RpK.map {K : PySem.W.Frag} {mg : Str → Option Value} {F : Hp} {k : Key} {d : D} {v : V} (hv : Rp K mg F d v) : ∀ {ds : List (Key × D)} {vs : List (Key × V)}, RpK K mg F ds vs → RpK K mg F (ds.map fun kv => if kv.1 = k then (kv.1, d) else kv) (vs.map fun kv => if kv.1 = k then (kv.1, v) else kv)
  | [], vs, h => by unfold RpK at h; subst h; unfold RpK; rfl
  | (q, x) :: ds, vs, h => by
    unfold RpK at h
    obtain ⟨w, r, rfl, hw, h⟩ := h
    rw [List.map_cons, List.map_cons]
    by_cases hq : q = k
    · simp only [hq, if_true]
      unfold RpK
      exact ⟨v, _, rfl, hv, RpK.map hv h⟩
    · simp only [hq, if_false]
      unfold RpK
      exact ⟨w, _, rfl, hw, RpK.map hv h⟩
end
end Sr
namespace Sr
variable [TabL]
open PySem hiding start
open PySem.Spec L2
open PyProof.Rows hiding St
theorem RpL.rep {K : PySem.W.Frag} {mg : Str → Option Value} {F : Hp} {ds : List D} {xs : List V} (l : RpL K mg F ds xs) : ∀ n : Nat, RpL K mg F (List.replicate n ds).flatten (List.replicate n xs).flatten
  | 0 => by simp [rl_nil]
  | n + 1 => by rw [List.replicate_succ, List.replicate_succ, List.flatten_cons, List.flatten_cons]; exact l.append (RpL.rep l n)
end Sr
namespace Sr
variable [TabL]
open PySem hiding start
open PySem.Spec L2
open PyProof.Rows hiding St
section
variable {κ : Type} [DecidableEq κ]
def valD (kvs : List (κ × D)) (k : κ) : Option D := (kvs.find? fun kv => decide (kv.1 = k)).map (·.2)
end
section
variable {K : PySem.W.Frag} {mg : Str → Option Value} {F H : Hp}
def opR (K : PySem.W.Frag) (mg : Str → Option Value) (F : Hp) : Option D → Option V → Prop
  | none, none => True
  | some d, some v => Rp K mg F d v
  | _, _ => False
theorem RpK.val {k : Key} : ∀ {ds : List (Key × D)} {vs : List (Key × V)}, RpK K mg F ds vs → opR K mg F (valD ds k) (valV vs k)
  | [], vs, h => by unfold RpK at h; subst h; exact trivial
  | (q, d) :: ds, vs, h => by
    unfold RpK at h
    obtain ⟨v, r, rfl, hv, h⟩ := h
    have ih := RpK.val (k := k) h
    unfold valD valV at ih ⊢
    rw [List.find?_cons, List.find?_cons]
    by_cases hq : q = k
    · simp only [hq, decide_true]; exact hv
    · simp only [hq, decide_false]; exact ih
theorem RpT.val {k : List Key} : ∀ {ds : List (List Key × D)} {vs : List (List Key × V)}, RpT K mg F ds vs → opR K mg F (valD ds k) (valV vs k)
  | [], vs, h => by unfold RpT at h; subst h; exact trivial
  | (q, d) :: ds, vs, h => by
    unfold RpT at h
    obtain ⟨v, r, rfl, hv, h⟩ := h
    have ih := RpT.val (k := k) h
    unfold valD valV at ih ⊢
    rw [List.find?_cons, List.find?_cons]
    by_cases hq : q = k
    · simp only [hq, decide_true]; exact hv
    · simp only [hq, decide_false]; exact ih
theorem RpT.map {k : List Key} {d : D} {v : V} (hv : Rp K mg F d v) : ∀ {ds : List (List Key × D)} {vs : List (List Key × V)}, RpT K mg F ds vs → RpT K mg F (ds.map fun kv => if kv.1 = k then (kv.1, d) else kv) (vs.map fun kv => if kv.1 = k then (kv.1, v) else kv)
  | [], vs, h => by unfold RpT at h; subst h; unfold RpT; rfl
  | (q, x) :: ds, vs, h => by
    unfold RpT at h
    obtain ⟨w, r, rfl, hw, h⟩ := h
    rw [List.map_cons, List.map_cons]
    by_cases hq : q = k
    · simp only [hq, if_true]
      unfold RpT
      exact ⟨v, _, rfl, hv, RpT.map hv h⟩
    · simp only [hq, if_false]
      unfold RpT
      exact ⟨w, _, rfl, hw, RpT.map hv h⟩
theorem RpT.len : ∀ {ds : List (List Key × D)} {xs : List (List Key × V)}, RpT K mg F ds xs → ds.length = xs.length
  | [], xs, h => by unfold RpT at h; subst h; rfl
  | (k, d) :: ds, xs, h => by unfold RpT at h; obtain ⟨v, vs, rfl, _, q⟩ := h; rw [List.length_cons, List.length_cons, q.len]
end
end Sr
namespace Sr
variable [TabL]
open PySem hiding start
open PySem.Spec L2
open PyProof.Rows hiding St
def NoOwn (p : Addr) : List (Bool × D) → List V → Prop
  | (true, _) :: l, v :: r => v ≠ .ref p ∧ NoOwn p l r
  | (false, _) :: l, _ :: r => NoOwn p l r
  | _, _ => True
def RpM (K : PySem.W.Frag) (mg : Str → Option Value) (H0 : Hp) (e : En) (σ : St) (H F : Hp) : List (Bool × D) → List V → Prop
  | [], vs => vs = []
  | (false, d) :: l, vs => ∃ v r, vs = v :: r ∧ Rp K mg F d v ∧ RpM K mg H0 e σ H F l r
  | (true, d) :: l, vs => ∃ p r, vs = .ref p :: r ∧ H0 p = none ∧ F p = none ∧ ¬ Ow e σ p ∧ OwnAt K mg H F p d ∧ NoOwn p l r ∧ RpM K mg H0 e σ H F l r
end Sr
namespace Sr
variable [TabL]
open PySem hiding start
open PySem.Spec L2
open PyProof.Rows hiding St
section
variable {K : PySem.W.Frag} {mg : Str → Option Value} {H0 : Hp} {e : En} {σ : St} {H F : Hp} {p : Addr} {o : HO}
theorem RpM.upd (hp : H p = none) : ∀ {l : List (Bool × D)} {vs : List V}, RpM K mg H0 e σ H F l vs → RpM K mg H0 e σ (L2.upd H p o) F l vs
  | [], vs, r => r
  | (false, d) :: l, vs, ⟨v, r, e1, h1, h2⟩ => ⟨v, r, e1, h1, RpM.upd hp h2⟩
  | (true, d) :: l, vs, ⟨q, r, e1, h1, h2, h3, h4, h5, h6⟩ => ⟨q, r, e1, h1, h2, h3, h4.keep (Same.refl _) (fun u hu => by
      rw [upd_ne]
      · exact hu
      · rintro rfl; rw [hp] at hu; cases hu), h5, RpM.upd hp h6⟩
theorem RpM.one {b : Bool} {d : Sr.D} {l : List (Bool × Sr.D)} {vs : List V} (h : RpM K mg H0 e σ H F ((b, d) :: l) vs) : ∃ v r, vs = v :: r ∧ RpM K mg H0 e σ H F l r := by
  cases b with
  | false => obtain ⟨v, r, e1, _, h2⟩ := h; exact ⟨v, r, e1, h2⟩
  | true => obtain ⟨p, r, e1, _, _, _, _, _, h2⟩ := h; exact ⟨_, r, e1, h2⟩
end
end Sr
namespace Sr
variable [TabL]
open PySem hiding start
open PySem.Spec L2
open PyProof.Rows hiding St
open LamX (LamS lamEnv lamCx CodeO ExtN Tabs TabS TabB lam_make2 lam_start2)
open L2H (RoomH HotC Hot1 PinOk cxH)
def cOf (K : PySem.W.Frag) : Value → Addr × Addr
  | .ref c => (c, match K.lookup c with
    | some ⟨_, _, .fields vs, _⟩ => (match (vs[11]? : Option Value) with
      | some (.ref P) => P
      | _ => 0)
    | _ => 0)
  | _ => (0, 0)
def cTz (K : PySem.W.Frag) (a : Addr) : Addr × Addr := match K.lookup a with
  | some ⟨_, _, .func fd, _⟩ => cOf K fd.code
  | _ => (0, 0)
end Sr
namespace Sr
open PySem hiding start
open PySem.Spec L2
open PyProof.Rows hiding St
open LamX (LamS lamEnv lamCx CodeO ExtN Tabs TabS TabB)
def lamQ (d : DefZ) : Str := (d.qual ++ ".<locals>.") ++ "<lambda>"
structure TabsZ (tf : List DefZ) (h : Heap) (K : PySem.W.Frag) : Prop where
  hd : ∀ d ∈ tf, PySem.W.codeHdIn K (cTz K (d.ad K)).1 (cTz K (d.ad K)).2 = true
  out : ∀ d ∈ tf, K.lookup (cTz K (d.ad K)).2 = none
  empty : ∀ d ∈ tf, h.get? (cTz K (d.ad K)).2 = some { cls := .none, data := .fields #[] }
  one : ∀ d ∈ tf, ∀ d' ∈ tf, (cTz K (d.ad K)).2 = (cTz K (d'.ad K)).2 → lamQ d = lamQ d'
def tabOkB (g : Addr → Option Obj) (tf : List DefZ) (K : PySem.W.Frag) : Bool :=
  (tf.all fun d => PySem.W.codeHdIn K (cTz K (d.ad K)).1 (cTz K (d.ad K)).2 && (match g (cTz K (d.ad K)).2 with
    | some o => He.emptyTab o
    | none => false)) && (tf.all fun d => tf.all fun d' => !decide ((cTz K (d.ad K)).2 = (cTz K (d'.ad K)).2) || decide (lamQ d = lamQ d'))
def obsM (as : List Addr) (fa : List He.Fa) (fn : List DefZ) (ex : PySem.W.Frag → Bool) (tf : List DefZ) (g : Addr → Option Obj) : AlZ × Bool := (obsK fa fn ex (He.frT g as), tabOkB g tf (He.frT g as))
theorem tabsZ_of {as : List Addr} {tf : List DefZ} {h : Heap} (e : tabOkB h.get? tf (He.frT h.get? as) = true) : TabsZ tf h (He.frT h.get? as) := by
  obtain ⟨h1, h2⟩ := He.ba e
  have key : ∀ d ∈ tf, PySem.W.codeHdIn (He.frT h.get? as) (cTz (He.frT h.get? as) (d.ad (He.frT h.get? as))).1 (cTz (He.frT h.get? as) (d.ad (He.frT h.get? as))).2 = true ∧ ∃ o, h.get? (cTz (He.frT h.get? as) (d.ad (He.frT h.get? as))).2 = some o ∧ He.emptyTab o = true := fun d hp => by
    obtain ⟨h3, h4⟩ := He.ba (List.all_eq_true.mp h1 d hp)
    refine ⟨h3, ?_⟩
    cases q : h.get? (cTz (He.frT h.get? as) (d.ad (He.frT h.get? as))).2 with
    | none => rw [q] at h4; cases h4
    | some o => rw [q] at h4; exact ⟨o, rfl, h4⟩
  refine ⟨fun d hp => (key d hp).1, fun d hp => ?_, fun d hp => ?_, fun d hp d' hp' z => ?_⟩
  · obtain ⟨_, o, q, z⟩ := key d hp
    exact He.frT_none q z
  · obtain ⟨_, o, q, z⟩ := key d hp
    rw [q, He.emptyTab_eq z]
  · have := List.all_eq_true.mp (List.all_eq_true.mp h2 d hp) d' hp'
    rw [Bool.or_eq_true, Bool.not_eq_true', decide_eq_false_iff_not, decide_eq_true_eq] at this
    rcases this with n | n
    · exact absurd z n
    · exact n
def hookM (as : List Addr) (fa : List He.Fa) (fn : List DefZ) (ex : PySem.W.Frag → Bool) (tf : List DefZ) : PySem.W.Hook where
  α := AlZ × Bool
  obs := fun s => obsM as fa fn ex tf s.heap.get?
  val := fun _ => (valZ fn, true)
  says := fun _ h => ∃ K : PySem.W.Frag, K.In h ∧ SaysZ fa fn ex K ∧ TabsZ tf h K
  of := fun _ _ e => ⟨_, He.frT_in, congrArg (fun z : AlZ × Bool => z.1) e, tabsZ_of (congrArg (fun z : AlZ × Bool => z.2) e)⟩
  keeps := fun _ _ _ ⟨K, hK, c, t⟩ k => ⟨K, PySem.W.Frag.In.keeps hK k, c, t.hd, t.out, fun d hd => k _ _ (t.empty d hd), t.one⟩
end Sr
namespace Sr
variable [TabL]
open PySem hiding start
open PySem.Spec L2
open PyProof.Rows hiding St
section
variable {K : PySem.W.Frag} {mg : Str → Option Value} {T : Pn} {W : WX} {e : En} {σ : St} {H F : Hp}
theorem RunS.pin {s : M Fl} {Dn : Ends} (h : RunS K mg T W e F s σ H Dn) (q : Nat × Addr) : RunS K mg (q :: T) W e F s σ H Dn := by
  unfold RunS at h ⊢
  cases z : s e with
  | ok fl e1 =>
    rw [z] at h
    cases fl with
    | nx => exact fun σ' H' F' er mv => h σ' H' F' er.unpin mv
    | rt d => exact fun σ' H' F' v er mv r => h σ' H' F' v er.unpin mv r
    | ro d => exact fun σ' H' F' p er mv hp fp np ow => h σ' H' F' p er.unpin mv hp fp np ow
    | bk => exact fun σ' H' F' er mv => h σ' H' F' er.unpin mv
    | ct => exact fun σ' H' F' er mv => h σ' H' F' er.unpin mv
  | exc x e1 =>
    rw [z] at h
    exact fun σ' H' F' cl dd er mv xr => h σ' H' F' cl dd er.unpin mv xr
  | bad => rw [z] at h; exact h
end
end Sr
namespace Sr
variable [TabL]
open PySem hiding start
open PySem.Spec L2
open PyProof.Rows hiding St
instance decMemK : (k : List Key) → (l : List (List Key)) → Decidable (k ∈ l)
  | k, [] => .isFalse (fun h => nomatch h)
  | k, x :: l => if e : k = x then .isTrue (by rw [e]; exact List.mem_cons_self) else match decMemK k l with
    | .isTrue h => .isTrue (List.mem_cons_of_mem _ h)
    | .isFalse h => .isFalse fun z => (List.mem_cons.1 z).elim e h
end Sr
namespace Tb
abbrev Row := Bool × Nat × Nat
abbrev Tab := List Row
def row (t : Tab) (i : Nat) : Row := t.getD i (false, 0, 0)
def nx (t : Tab) (i : Nat) (b : Bool) : Nat := if b then (row t i).2.1 else (row t i).2.2
def run (t : Tab) (i : Nat) : List Bool → Nat
  | [] => i
  | b :: w => run t (nx t i b) w
def Ok (t : Tab) : Prop := ∀ r ∈ t, r.2.1 < t.length ∧ r.2.2 < t.length
def addN {A : Type} [DecidableEq A] (l : List A) (x : A) : List A := if x ∈ l then l else l ++ [x]
section
variable {t : Tab} {i s : Nat}
theorem row_eq (h : i < t.length) : row t i = t[i] := by unfold row; simp [List.getD_eq_getElem?_getD, h]
theorem row_mem (h : i < t.length) : row t i ∈ t := by rw [row_eq h]; exact List.getElem_mem h
end
section
variable {A : Type} [DecidableEq A]
theorem mem_addN {l : List A} {x y : A} : y ∈ addN l x ↔ y ∈ l ∨ y = x := by
  unfold addN
  split
  · rename_i h
    exact ⟨.inl, fun z => z.elim id fun e => by rw [e]; exact h⟩
  · simp
theorem nodup_addN {l : List A} {x : A} (h : l.Nodup) : (addN l x).Nodup := by
  unfold addN
  split
  · exact h
  · rename_i hx
    rw [List.nodup_append]
    exact ⟨h, by simp, fun a ha b hb => by simp at hb; subst hb; intro e; subst e; exact hx ha⟩
theorem addN_pre {l : List A} {x : A} : ∃ r, addN l x = l ++ r := by
  unfold addN
  split
  · exact ⟨[], by simp⟩
  · exact ⟨[x], rfl⟩
theorem fold_pre : ∀ (ks : List A) (l : List A), ∃ r, ks.foldl addN l = l ++ r
  | [], l => ⟨[], by simp⟩
  | k :: ks, l => by
    obtain ⟨r1, h1⟩ := addN_pre (l := l) (x := k)
    obtain ⟨r2, h2⟩ := fold_pre ks (addN l k)
    exact ⟨r1 ++ r2, by rw [List.foldl_cons, h2, h1, List.append_assoc]⟩
theorem mem_fold : ∀ (ks : List A) (l : List A) {y : A}, y ∈ ks.foldl addN l ↔ y ∈ l ∨ y ∈ ks
  | [], l, y => by simp
  | k :: ks, l, y => by rw [List.foldl_cons, mem_fold ks, mem_addN, List.mem_cons, or_assoc]
theorem nodup_fold : ∀ (ks : List A) {l : List A}, l.Nodup → (ks.foldl addN l).Nodup
  | [], l, h => h
  | k :: ks, l, h => nodup_fold ks (nodup_addN h)
def ded (ks : List A) : List A := ks.foldl addN []
end
def iter {A : Type} (f : A → Option A) : Nat → A → A
  | 0, a => a
  | n + 1, a => match f a with
    | none => a
    | some b => iter f n b
section
variable {A : Type} {f : A → Option A}
theorem iter_inv (I : A → Prop) (h : ∀ a b, I a → f a = some b → I b) : ∀ (n : Nat) {a : A}, I a → I (iter f n a)
  | 0, a, ha => ha
  | n + 1, a, ha => by
    unfold iter
    cases q : f a with
    | none => exact ha
    | some b => exact iter_inv I h n (h a b ha q)
theorem iter_done (I : A → Prop) (μ : A → Nat) (h : ∀ a b, I a → f a = some b → I b ∧ μ b < μ a) : ∀ (n : Nat) {a : A}, I a → μ a ≤ n → f (iter f n a) = none
  | 0, a, ha, hm => by
    unfold iter
    cases q : f a with
    | none => rfl
    | some b => have := (h a b ha q).2; omega
  | n + 1, a, ha, hm => by
    unfold iter
    cases q : f a with
    | none => exact q
    | some b =>
      obtain ⟨h1, h2⟩ := h a b ha q
      exact iter_done I μ h n h1 (by omega)
end
def f0 (t : Tab) : List Nat := t.map fun r => if r.1 then 1 else 0
abbrev K3 := Nat × Nat × Nat
def keys (t : Tab) (f : List Nat) : List K3 := t.zipIdx.map fun q => (f.getD q.2 0, f.getD q.1.2.1 0, f.getD q.1.2.2 0)
def renum (ks : List K3) : List Nat := ks.map fun k => (ded ks).idxOf k
def dist (f : List Nat) : Nat := (ded f).length
abbrev CS := List Nat × Nat
def cStep (t : Tab) : CS → Option CS := fun q => if q.2 < dist q.1 then some (renum (keys t q.1), dist q.1) else none
def cls (t : Tab) : List Nat := (iter (cStep t) t.length (f0 t, 0)).1
def Alike (t : Tab) (i j : Nat) : Prop := ∀ w, (row t (run t i w)).1 = (row t (run t j w)).1
theorem Alike.nx {t : Tab} {i j : Nat} (h : Alike t i j) (b : Bool) : Alike t (Tb.nx t i b) (Tb.nx t j b) := fun w => h (b :: w)
end Tb
namespace Tb
def cl (t : Tab) (x : Nat) : Nat := (cls t).getD x 0
end Tb
namespace Tb
open Classical in
noncomputable instance langDec : DecidableEq (List Bool → Bool) := fun a b => Classical.propDecidable (a = b)
end Tb
namespace Tb
def bad (ab : Bool) (a b : Tab) (i j : Nat) : Bool := ((row a i).1 != (row b j).1) && ((row a i).1 || !ab)
end Tb
namespace Tb
def codeR : List Bool → Nat
  | [] => 1
  | c :: w => 2 * codeR w + (if c then 0 else 1)
def code (w : List Bool) : Nat := codeR w.reverse
end Tb
namespace Hi
def fpL (s c : List Bool) : List Bool := List.zipWith (fun s c => !s && c) s c
def ffL (s c : List Bool) : List Bool := List.zipWith (fun s c => s && !c) s c
def letB (a b : Nat) (p f : List Bool) : Bool := decide (p.countP id ≤ a) && decide (f.countP id ≤ b)
def wnd (l : List Bool) (i n : Nat) : List Bool := (l.drop i).take n
def okW (a b n : Nat) (s c : List Bool) : Bool := (List.range c.length).all fun i => letB a b (wnd (fpL s c) i n) (wnd (ffL s c) i n)
def starts (s : List Bool) : List Nat := (List.range' 1 (s.length - 1)).filter fun i => s.getD i false != s.getD (i - 1) false
def okS (k : Nat) (s : List Bool) : Bool := (List.range' 1 ((starts s).length - 1)).all fun j => !decide ((((starts s).getD j 0 : Nat) : Int) - (((starts s).getD (j - 1) 0 : Nat) : Int) < (k : Int))
def alw (a b n k : Nat) (s c : List Bool) : Bool := okW a b n s c && okS k s
def per (p n size : Nat) : List Bool := (List.range size).map fun i => decide (i % n < p)
end Hi
namespace Hi
def rep (n : Nat) (u : Bool) : List Bool := List.replicate n u
def cl (a b n u d : Nat) : Option (List Bool × List Bool × List Bool) :=
  if n ≤ a + b then some (per (min a n) n (max u d), rep (max u d) true, rep (max u d) false)
  else if a + b < min u d then none
  else if u ≤ d then some (rep (d - u) false ++ rep (min u a) true ++ rep (u - min u a) false, rep (d - u) false ++ rep u true, rep d false)
  else some (rep (u - d) true ++ rep (min d b) false ++ rep (d - min d b) true, rep u true, rep (u - d) true ++ rep d false)
end Hi
namespace Hi
def gaps (k : Nat) (l : List Nat) : Bool := (List.range' 1 (l.length - 1)).all fun j => !decide (((l.getD j 0 : Nat) : Int) - ((l.getD (j - 1) 0 : Nat) : Int) < (k : Int))
structure Gr (a b n k : Nat) (s c : List Bool) (age : Nat) (cur : Bool) : Prop where
  len : s.length = c.length
  w : okW a b n s c = true
  st : gaps k (starts s) = true
  last : s ≠ [] → s.getLastD false = cur
  age : starts s = [] ∨ (starts s).getLastD 0 + age = s.length
theorem Gr.alw {a b n k : Nat} {s c : List Bool} {age : Nat} {cur : Bool} (h : Gr a b n k s c age cur) : alw a b n k s c = true := by
  unfold Hi.alw
  rw [h.w, Bool.true_and]
  exact h.st
end Hi
namespace Hi
structure Sit where
  row : Nat
  st : Bool
  age : Nat
  fl : List Nat
deriving DecidableEq
def fcd (s c : Bool) : Nat := if s == c then 46 else if c then 112 else 102
def lets (a b : Nat) (l : List Nat) : Bool := letB a b (l.map (· == 112)) (l.map (· == 102))
def step1 (a b k : Nat) (x : Sit) (row : Nat) (s c : Bool) : Option Sit :=
  if lets a b (x.fl ++ [fcd s c]) && (s == x.st || x.age == k) then some ⟨row, s, if s == x.st then x.age + (if x.age < k then 1 else 0) else 1, (x.fl ++ [fcd s c]).tail⟩ else none
def steps (a b k : Nat) (x : Sit) (p f : Nat) : List (Bool × Bool × Sit) :=
  [(false, true), (false, false), (true, true), (true, false)].filterMap fun q => (step1 a b k x (if q.2 then p else f) q.1 q.2).map fun y => (q.1, q.2, y)
structure SitOk (a b n k rows : Nat) (x : Sit) : Prop where
  row : x.row < rows
  age : 1 ≤ x.age ∧ x.age ≤ k
  len : x.fl.length + 1 = n
  fl : ∀ c ∈ x.fl, c = 46 ∨ c = 112 ∨ c = 102
  lt : lets a b x.fl = true
theorem lets_tail {a b : Nat} {l : List Nat} (h : lets a b l = true) : lets a b l.tail = true := by
  unfold lets letB at h ⊢
  rw [Bool.and_eq_true, decide_eq_true_eq, decide_eq_true_eq] at h ⊢
  have h1 : (l.tail.map (· == 112)).countP id ≤ (l.map (· == 112)).countP id := ((List.tail_sublist l).map _).countP_le
  have h2 : (l.tail.map (· == 102)).countP id ≤ (l.map (· == 102)).countP id := ((List.tail_sublist l).map _).countP_le
  omega
theorem fcd_ok (s c : Bool) : fcd s c = 46 ∨ fcd s c = 112 ∨ fcd s c = 102 := by cases s <;> cases c <;> decide
theorem step1_ok {a b n k rows : Nat} {x y : Sit} {row : Nat} {s c : Bool} (h : SitOk a b n k rows x) (hr : row < rows) (e : step1 a b k x row s c = some y) : SitOk a b n k rows y := by
  unfold step1 at e
  split at e
  · rename_i q
    cases e
    rw [Bool.and_eq_true] at q
    have hk := h.age
    refine ⟨hr, ?_, ?_, fun z hz => ?_, lets_tail q.1⟩
    · dsimp only
      split
      · split <;> omega
      · omega
    · show (x.fl ++ [fcd s c]).tail.length + 1 = n
      rw [List.length_tail, List.length_append, List.length_singleton]
      have := h.len
      omega
    · have hz := List.mem_of_mem_tail hz
      rw [List.mem_append, List.mem_singleton] at hz
      rcases hz with hz | rfl
      · exact h.fl z hz
      · exact fcd_ok s c
  · cases e
theorem steps_ok {a b n k rows : Nat} {x : Sit} {p f : Nat} (h : SitOk a b n k rows x) (hp : p < rows) (hf : f < rows) : ∀ y ∈ steps a b k x p f, SitOk a b n k rows y.2.2 := by
  intro y hy
  unfold steps at hy
  rw [List.mem_filterMap] at hy
  obtain ⟨q, _, e⟩ := hy
  rw [Option.map_eq_some_iff] at e
  obtain ⟨z, e, rfl⟩ := e
  exact step1_ok h (by split <;> assumption) e
def begS (n k : Nat) (s : Bool) : Sit := ⟨0, s, k, List.replicate (n - 1) 46⟩
theorem begS_ok {a b n k rows : Nat} (hn : 1 ≤ n) (hk : 1 ≤ k) (hr : 1 ≤ rows) (s : Bool) : SitOk a b n k rows (begS n k s) := by
  refine ⟨hr, ⟨hk, Nat.le_refl _⟩, by unfold begS; simp; omega, fun c hc => ?_, ?_⟩
  · unfold begS at hc
    exact .inl (List.eq_of_mem_replicate hc)
  · unfold lets letB begS
    simp [List.countP_replicate]
end Hi
namespace Hi
theorem nodup_len {A : Type} [DecidableEq A] : ∀ (l m : List A), l.Nodup → (∀ x ∈ l, x ∈ m) → l.length ≤ m.length
  | [], m, _, _ => Nat.zero_le _
  | x :: l, m, hn, hs => by
    rw [List.nodup_cons] at hn
    have hx : x ∈ m := hs x (by simp)
    have h := nodup_len l (m.erase x) hn.2 fun y hy => (List.mem_erase_of_ne (fun z => hn.1 (by rw [← z]; exact hy))).2 (hs y (by simp [hy]))
    have h2 := List.length_erase_of_mem hx
    have h3 := List.length_pos_of_mem hx
    rw [List.length_cons]
    omega
def allFl : Nat → List (List Nat)
  | 0 => [[]]
  | m + 1 => (allFl m).flatMap fun l => [46 :: l, 112 :: l, 102 :: l]
def allS (n k : Nat) : List Sit := [false, true].flatMap fun s => (List.range (k + 1)).flatMap fun g => (allFl (n - 1)).map fun f => ⟨0, s, g, f⟩
theorem allFl_mem : ∀ (l : List Nat), (∀ c ∈ l, c = 46 ∨ c = 112 ∨ c = 102) → l ∈ allFl l.length
  | [], _ => by simp [allFl]
  | c :: l, h => by
    rw [List.length_cons]
    unfold allFl
    rw [List.mem_flatMap]
    refine ⟨l, allFl_mem l fun x hx => h x (by simp [hx]), ?_⟩
    rcases h c (by simp) with rfl | rfl | rfl <;> simp
theorem allS_mem {a b n k : Nat} {x : Sit} (h : SitOk a b n k 1 x) : x ∈ allS n k := by
  have hr := h.row
  have ha := h.age
  have hl := h.len
  have hf := allFl_mem x.fl h.fl
  obtain ⟨r, s, g, f⟩ := x
  dsimp only at *
  have hr0 : r = 0 := by omega
  subst hr0
  unfold allS
  rw [List.mem_flatMap]
  refine ⟨s, by cases s <;> simp, ?_⟩
  rw [List.mem_flatMap]
  refine ⟨g, List.mem_range.2 (by omega), ?_⟩
  rw [List.mem_map]
  refine ⟨f, ?_, rfl⟩
  have e : n - 1 = f.length := by omega
  rw [e]
  exact hf
theorem allS_len (n k : Nat) (hn : n ≤ 5) (hk : k ≤ 4) : (allS n k).length ≤ 1000 := by
  have H : ∀ n : Fin 6, ∀ k : Fin 5, (allS n.val k.val).length ≤ 1000 := by decide +kernel
  exact H ⟨n, by omega⟩ ⟨k, by omega⟩
end Hi
namespace Bf
open Tb
section
variable {A : Type} [DecidableEq A] (g : A → List A)
def bStep : List A × Nat → Option (List A × Nat) := fun q => match q.1[q.2]? with
  | some x => some ((g x).foldl addN q.1, q.2 + 1)
  | none => none
def bfs (N : Nat) (s : List A) : List A := (iter (bStep g) N (s, 0)).1
structure BI (s : List A) (q : List A × Nat) : Prop where
  nd : q.1.Nodup
  pre : ∃ r, q.1 = s ++ r
  le : q.2 ≤ q.1.length
  cl : ∀ i x, i < q.2 → q.1[i]? = some x → ∀ y ∈ g x, y ∈ q.1
  snd : ∀ P : A → Prop, (∀ x ∈ s, P x) → (∀ x, P x → ∀ y ∈ g x, P y) → ∀ x ∈ q.1, P x
variable {g}
theorem bi_start {s : List A} (hs : s.Nodup) : BI g s (s, 0) := ⟨hs, ⟨[], by simp⟩, Nat.zero_le _, fun i x h => by omega, fun P h _ => h⟩
theorem bi_step {s : List A} {q q' : List A × Nat} (I : BI g s q) (h : bStep g q = some q') : BI g s q' ∧ q.2 < q.1.length ∧ q'.2 = q.2 + 1 := by
  obtain ⟨l, at'⟩ := q
  unfold bStep at h
  dsimp only at h
  cases q : l[at']? with
  | none => rw [q] at h; cases h
  | some x =>
    rw [q] at h
    cases h
    have hlt : at' < l.length := (List.getElem?_eq_some_iff.1 q).1
    obtain ⟨r, hr⟩ := fold_pre (g x) l
    obtain ⟨r0, hr0⟩ := I.pre
    dsimp only at hr0
    refine ⟨⟨nodup_fold _ I.nd, ⟨r0 ++ r, by show (g x).foldl addN l = _; rw [hr, hr0, List.append_assoc]⟩, ?_, ?_, ?_⟩, hlt, rfl⟩
    · show at' + 1 ≤ ((g x).foldl addN l).length
      rw [hr, List.length_append]; omega
    · intro i y hi hy z hz
      show z ∈ (g x).foldl addN l
      rw [mem_fold]
      replace hy : ((g x).foldl addN l)[i]? = some y := hy
      replace hi : i < at' + 1 := hi
      rw [hr, List.getElem?_append_left (by omega)] at hy
      by_cases e : i = at'
      · rw [e, q] at hy
        cases hy
        exact .inr hz
      · exact .inl (I.cl i y (by show i < at'; omega) hy z hz)
    · intro P h1 h2 y hy
      have hy : y ∈ (g x).foldl addN l := hy
      rw [mem_fold] at hy
      rcases hy with hy | hy
      · exact I.snd P h1 h2 y hy
      · exact h2 x (I.snd P h1 h2 x (List.mem_of_getElem? q)) y hy
structure BSpec (g : A → List A) (s l : List A) : Prop where
  nd : l.Nodup
  pre : ∃ r, l = s ++ r
  cl : ∀ x ∈ l, ∀ y ∈ g x, y ∈ l
  snd : ∀ P : A → Prop, (∀ x ∈ s, P x) → (∀ x, P x → ∀ y ∈ g x, P y) → ∀ x ∈ l, P x
theorem bfs_bi {s : List A} (hs : s.Nodup) (N : Nat) : BI g s (iter (bStep g) N (s, 0)) := iter_inv (BI g s) (fun a b I h => (bi_step I h).1) N (bi_start hs)
theorem bfs_done {s : List A} (hs : s.Nodup) {N : Nat} {P : A → Prop} (hP : ∀ l : List A, l.Nodup → (∀ x ∈ l, P x) → l.length ≤ N) (h1 : ∀ x ∈ s, P x) (h2 : ∀ x, P x → ∀ y ∈ g x, P y) : bStep g (iter (bStep g) N (s, 0)) = none := by
  refine iter_done (BI g s) (fun q => N - q.2) (fun a b I h => ?_) N (bi_start hs) (by show N - 0 ≤ N; omega)
  obtain ⟨I', hl, e⟩ := bi_step I h
  refine ⟨I', ?_⟩
  have hle : a.1.length ≤ N := hP a.1 I.nd (I.snd P h1 h2)
  show N - b.2 < N - a.2
  omega
theorem bfs_spec {s : List A} (hs : s.Nodup) {N : Nat} {P : A → Prop} (hP : ∀ l : List A, l.Nodup → (∀ x ∈ l, P x) → l.length ≤ N) (h1 : ∀ x ∈ s, P x) (h2 : ∀ x, P x → ∀ y ∈ g x, P y) : BSpec g s (bfs g N s) := by
  have I := bfs_bi (g := g) hs N
  have hd := bfs_done (g := g) hs hP h1 h2
  refine ⟨I.nd, I.pre, fun x hx y hy => ?_, I.snd⟩
  unfold bfs at hx ⊢
  generalize iter (bStep g) N (s, 0) = Z at *
  unfold bStep at hd
  cases q : Z.1[Z.2]? with
  | some z => rw [q] at hd; cases hd
  | none =>
    rw [List.getElem?_eq_none_iff] at q
    obtain ⟨i, hi, e⟩ := List.getElem_of_mem hx
    have hi2 : i < Z.2 := Nat.lt_of_lt_of_le hi q
    exact I.cl i x hi2 (by
      rw [List.getElem?_eq_some_iff]
      exact ⟨hi, e⟩) y hy
end
end Bf
namespace Ly
open Hi Tb
abbrev Stp := Sit → List (Bool × Bool × Sit)
def stp (t : Tab) (a b k : Nat) : Stp := fun x => steps a b k x (row t x.row).2.1 (row t x.row).2.2
def succ (g : Stp) (x : Sit) : List Sit := (g x).map (·.2.2)
def begs (n k : Nat) : List Sit := [begS n k false, begS n k true]
structure So (so : List Sit → List Sit) : Prop where
  perm : ∀ l, (so l).Perm l
  can : ∀ l m, l.Perm m → so l = so m
theorem So.mem {so : List Sit → List Sit} (S : So so) {l : List Sit} {x : Sit} : x ∈ so l ↔ x ∈ l := (S.perm l).mem_iff
theorem So.idem {so : List Sit → List Sit} (S : So so) (l : List Sit) : so (so l) = so l := S.can _ _ (S.perm l)
theorem So.nodup {so : List Sit → List Sit} (S : So so) {l : List Sit} : (so l).Nodup ↔ l.Nodup := (S.perm l).nodup_iff
theorem So.len {so : List Sit → List Sit} (S : So so) (l : List Sit) : (so l).length = l.length := (S.perm l).length_eq
def nexL (so : List Sit → List Sit) (g : Stp) (s : Bool) (l : List Sit) : List Sit := so (ded (l.flatMap fun x => ((g x).filter fun q => q.1 == s).map (·.2.2)))
def layer (so : List Sit → List Sit) (g : Stp) (s : Bool) (l0 : List Sit) : Nat → List Sit
  | 0 => l0
  | i + 1 => nexL so g s (layer so g s l0 i)
def right (t : Tab) (s : Bool) (l : List Sit) : Bool := l.all fun x => (row t x.row).1 == s
structure First (so : List Sit → List Sit) (g : Stp) (l0 : List Sit) : Prop where
  nd : l0.Nodup
  so : so l0 = l0
  cl : ∀ x ∈ l0, ∀ y ∈ succ g x, y ∈ l0
section
variable {so : List Sit → List Sit} {g : Stp} {s : Bool} {l0 : List Sit}
variable {t : Tab}
def bnd (so : List Sit → List Sit) (g : Stp) (s : Bool) (l0 : List Sit) (t : Tab) : Option Nat := (List.range (l0.length + 1)).find? fun i => right t s (layer so g s l0 i)
end
def allR (n k rows : Nat) : List Sit := (List.range rows).flatMap fun r => (allS n k).map fun x => { x with row := r }
theorem allR_len {n k : Nat} (hn : n ≤ 5) (hk : k ≤ 4) (rows : Nat) : (allR n k rows).length ≤ 1000 * rows := by
  unfold allR
  rw [List.length_flatMap]
  have h := allS_len n k hn hk
  induction rows with
  | zero => simp
  | succ r ih =>
    rw [List.range_succ, List.map_append, List.sum_append, List.map_singleton, List.length_map, List.sum_singleton]
    omega
theorem allR_mem {a b n k rows : Nat} {x : Sit} (h : SitOk a b n k rows x) : x ∈ allR n k rows := by
  unfold allR
  rw [List.mem_flatMap]
  refine ⟨x.row, List.mem_range.2 h.row, List.mem_map.2 ⟨{ x with row := 0 }, allS_mem (a := a) (b := b) ⟨by show (0:Nat) < 1; omega, h.age, h.len, h.fl, h.lt⟩, rfl⟩⟩
theorem sits_lenR {a b n k rows : Nat} (hn : n ≤ 5) (hk : k ≤ 4) {l : List Sit} (h : l.Nodup) (ho : ∀ x ∈ l, SitOk a b n k rows x) : l.length ≤ 1000 * rows :=
  Nat.le_trans (nodup_len l _ h fun x hx => allR_mem (ho x hx)) (allR_len hn hk rows)
section
variable {t : Tab} (ok : Ok t) {a b n k : Nat}
include ok
theorem stp_ok {x : Sit} (h : SitOk a b n k t.length x) : ∀ y ∈ succ (stp t a b k) x, SitOk a b n k t.length y := by
  intro y hy
  unfold succ at hy
  rw [List.mem_map] at hy
  obtain ⟨q, hq, rfl⟩ := hy
  have hr := ok _ (row_mem h.row)
  exact steps_ok h hr.1 hr.2 q hq
theorem begs_ok (hn : 1 ≤ n) (hk : 1 ≤ k) (hr : 1 ≤ t.length) : ∀ x ∈ begs n k, SitOk a b n k t.length x := by
  intro x hx
  unfold begs at hx
  rw [List.mem_cons, List.mem_singleton] at hx
  rcases hx with rfl | rfl <;> exact begS_ok hn hk hr _
omit ok in
theorem begs_nodup : (begs n k).Nodup := by
  unfold begs begS
  simp
theorem all_spec (hn : 1 ≤ n) (hk : 1 ≤ k) (hr : 1 ≤ t.length) (hn5 : n ≤ 5) (hk4 : k ≤ 4) : Bf.BSpec (succ (stp t a b k)) (begs n k) (Bf.bfs (succ (stp t a b k)) (1000 * t.length) (begs n k)) := by
  exact Bf.bfs_spec begs_nodup (P := SitOk a b n k t.length) (fun l nd h => sits_lenR hn5 hk4 nd h) (begs_ok ok hn hk hr) (fun x h => stp_ok ok h)
end
def alls (t : Tab) (a b n k : Nat) : List Sit := Bf.bfs (succ (stp t a b k)) (1000 * t.length) (begs n k)
section
variable {t : Tab} (ok : Ok t) {a b n k : Nat} (hn : 1 ≤ n) (hk : 1 ≤ k) (hr : 1 ≤ t.length) (hn5 : n ≤ 5) (hk4 : k ≤ 4)
include ok hn hk hr hn5 hk4
theorem alls_spec : Bf.BSpec (succ (stp t a b k)) (begs n k) (alls t a b n k) := all_spec ok hn hk hr hn5 hk4
theorem first {so : List Sit → List Sit} (S : So so) : First so (stp t a b k) (so (alls t a b n k)) := by
  have sp := alls_spec (a := a) (b := b) ok hn hk hr hn5 hk4
  refine ⟨S.nodup.2 sp.nd, S.idem _, fun x hx y hy => ?_⟩
  rw [S.mem] at hx ⊢
  exact sp.cl x hx y hy
end
end Ly
namespace Ly
open Hi Tb
abbrev Wd := List (Bool × Bool)
def cOf (w : Wd) : List Bool := w.map (·.2)
section
variable {t : Tab} (ok : Ok t) {a b n k : Nat} (hn : 1 ≤ n) (hk : 1 ≤ k) (hr : 1 ≤ t.length) (hn5 : n ≤ 5) (hk4 : k ≤ 4)
include ok hn hk hr hn5 hk4
variable {so : List Sit → List Sit} (S : So so)
include S
def RtL (f : List Bool → Bool) (a b n k : Nat) (s : Bool) (i : Nat) : Prop := ∀ st ck : List Bool, alw a b n k (st ++ List.replicate i s) ck = true → ck.length = st.length + i → f ck = s
end
end Ly
namespace Ly
open Hi Tb
open Classical in
theorem RtL.mono {f : List Bool → Bool} {a b n k : Nat} {s : Bool} {i j : Nat} (h : i ≤ j) (r : RtL f a b n k s i) : RtL f a b n k s j := by
  intro st ck ha hl
  refine r (st ++ List.replicate (j - i) s) ck ?_ (by simp; omega)
  rw [List.append_assoc, List.replicate_append_replicate]
  have : j - i + i = j := by omega
  rw [this]
  exact ha
end Ly
namespace Sh
section
variable {A Q : Type} [DecidableEq A] (st : List A) (g : A → List (Q × A)) (good : A → Bool)
abbrev Pt (A Q : Type) := List Q × A
variable {st g good}
def first (Q : Type) (st : List A) : List (Pt A Q) := st.map fun x => ([], x)
end
end Sh
namespace Sh
section
variable {A Q : Type} [DecidableEq A]
abbrev Qs (A : Type) := List (A × Nat) × List A
structure Ex (d : Nat) (ys : List A) (s s' : Qs A) : Prop where
  pre : ∃ r : List A, s'.1 = s.1 ++ r.map (fun y => (y, d)) ∧ s'.2 = s.2 ++ r ∧ ∀ y ∈ r, y ∈ ys
  all : ∀ y ∈ ys, y ∈ s'.2
  nd : s.2.Nodup → s'.2.Nodup
variable {st : List A} {g : A → List (Q × A)} {good : A → Bool}
end
end Sh
namespace Lw
open PySem hiding start
open PySem.Spec L2 Sr
open PyProof.Rows hiding St
def top (i : Nat) : Stmt := PySem.Challenge.pw_statusrules_k74_bytes_unpacked.main.body.getD i (.Pass ⟨0, 0, 0, 0⟩)
def isl_str : List (Str × Bool) := []
def isl_bytes : List (Str × Bool) := []
def ctl_StatusError : List (Str × Bool) := [("ChecksError", true), ("DataError", true)]
def isE_TableError : List (Str × Bool) := [("ChecksError", false), ("DataError", false)]
def isE_ChecksError : List (Str × Bool) := [("ChecksError", true), ("DataError", false)]
def isE_RuleError : List (Str × Bool) := [("ChecksError", false), ("DataError", false)]
def isE_NumberError : List (Str × Bool) := [("ChecksError", false), ("DataError", false)]
def isE_LimitsError : List (Str × Bool) := [("ChecksError", false), ("DataError", false)]
def isE_StateError : List (Str × Bool) := [("ChecksError", false), ("DataError", false)]
def isE_SituationError : List (Str × Bool) := [("ChecksError", false), ("DataError", false)]
def isE_FractionError : List (Str × Bool) := [("ChecksError", false), ("DataError", false)]
def isE_RulesError : List (Str × Bool) := [("ChecksError", false), ("DataError", false)]
def isE_StatusesError : List (Str × Bool) := [("ChecksError", false), ("DataError", false)]
def isE_NamesError : List (Str × Bool) := [("ChecksError", false), ("DataError", false)]
def isE_SignsError : List (Str × Bool) := [("ChecksError", false), ("DataError", false)]
def isE_UnknownName : List (Str × Bool) := [("ChecksError", false), ("DataError", false)]
def isE_MonitorError : List (Str × Bool) := [("ChecksError", false), ("DataError", false)]
def isE_NothingToUndo : List (Str × Bool) := [("ChecksError", false), ("DataError", false)]
def isE_DataError : List (Str × Bool) := [("ChecksError", false), ("DataError", true)]
def isE_TooLarge : List (Str × Bool) := [("ChecksError", false), ("DataError", false)]
def isE_TextError : List (Str × Bool) := [("ChecksError", false), ("DataError", false)]
def isE_ValueError : List (Str × Bool) := [("ChecksError", true), ("DataError", true)]
abbrev st__law_pen : Stmt := top 34
abbrev st__law_cell_at : Stmt := top 33
abbrev st_is_made_of : Stmt := top 23
abbrev st_check_checks : Stmt := top 26
abbrev st_packed : Stmt := top 29
abbrev st_pack : Stmt := top 30
abbrev st__law_draw : Stmt := top 35
abbrev st__law_checks : Stmt := top 36
abbrev st__law_same : Stmt := top 41
abbrev st__law_kindE : Stmt := top 39
abbrev st_unpack : Stmt := top 31
abbrev st__law_due : Stmt := top 42
abbrev st__law_pick : Stmt := top 37
abbrev st__law_odd : Stmt := top 38
abbrev st_law : Stmt := top 43
abbrev st__law_said : Stmt := top 40
end Lw
namespace Lw
open PySem hiding start
open PySem.Spec L2 Sr
open PyProof.Rows hiding St
def fa : List He.Fa := [.free "max", .free "int", .free "len", .free "isinstance", .free "str", .free "all", .str "PASS" "+", .str "FAIL" "-", .int "MOST_CHECKS" 60, .free "range", .int "BYTE" 8, .free "bytes", .free "repr", .free "ValueError", .free "reversed", .free "min", .glo "ChecksError", .glo "TableError", .glo "RuleError", .glo "NumberError", .glo "LimitsError", .glo "StateError", .glo "SituationError", .glo "FractionError", .glo "RulesError", .glo "StatusesError", .glo "NamesError", .glo "SignsError", .glo "UnknownName", .glo "MonitorError", .glo "NothingToUndo", .glo "DataError", .glo "TooLarge", .glo "TextError", .glo "StatusError", .exc "ChecksError", .exc "DataError", .glo "_law_pen", .glo "_law_cell_at", .glo "is_made_of", .glo "check_checks", .glo "packed", .glo "pack", .glo "_law_draw", .glo "_law_checks", .glo "_law_same", .glo "_law_kind", .glo "unpack", .glo "_law_due", .glo "_law_pick", .glo "_law_odd", .glo "law", .glo "_law_said"]
def dz__law_pen : DefZ := ⟨fun K => He.ga K "_law_pen", "_law_pen", "_law_pen", st__law_pen, []⟩
def dz__law_cell_at : DefZ := ⟨fun K => He.ga K "_law_cell_at", "_law_cell_at", "_law_cell_at", st__law_cell_at, []⟩
def dz_is_made_of : DefZ := ⟨fun K => He.ga K "is_made_of", "is_made_of", "is_made_of", st_is_made_of, []⟩
def dz_check_checks : DefZ := ⟨fun K => He.ga K "check_checks", "check_checks", "check_checks", st_check_checks, []⟩
def dz_packed : DefZ := ⟨fun K => He.ga K "packed", "packed", "packed", st_packed, []⟩
def dz_pack : DefZ := ⟨fun K => He.ga K "pack", "pack", "pack", st_pack, []⟩
def dz__law_draw : DefZ := ⟨fun K => He.ga K "_law_draw", "_law_draw", "_law_draw", st__law_draw, []⟩
def dz__law_checks : DefZ := ⟨fun K => He.ga K "_law_checks", "_law_checks", "_law_checks", st__law_checks, []⟩
def dz__law_same : DefZ := ⟨fun K => He.ga K "_law_same", "_law_same", "_law_same", st__law_same, []⟩
def dz__law_kindE : DefZ := ⟨fun K => He.ga K "_law_kind", "_law_kind", "_law_kind", st__law_kindE, []⟩
def dz_unpack : DefZ := ⟨fun K => He.ga K "unpack", "unpack", "unpack", st_unpack, []⟩
def dz__law_due : DefZ := ⟨fun K => He.ga K "_law_due", "_law_due", "_law_due", st__law_due, []⟩
def dz__law_pick : DefZ := ⟨fun K => He.ga K "_law_pick", "_law_pick", "_law_pick", st__law_pick, []⟩
def dz__law_odd : DefZ := ⟨fun K => He.ga K "_law_odd", "_law_odd", "_law_odd", st__law_odd, []⟩
def dz_law : DefZ := ⟨fun K => He.ga K "law", "law", "law", st_law, []⟩
def dz__law_said : DefZ := ⟨fun K => He.ga K "_law_said", "_law_said", "_law_said", st__law_said, []⟩
def fn : List DefZ := [dz__law_pen, dz__law_cell_at, dz_is_made_of, dz_check_checks, dz_packed, dz_pack, dz__law_draw, dz__law_checks, dz__law_same, dz__law_kindE, dz_unpack, dz__law_due, dz__law_pick, dz__law_odd, dz_law, dz__law_said]
def tf : List DefZ := [dz_law]
def ex (K : PySem.W.Frag) : Bool := ownB K (.type "str") isl_str && (ownB K (.type "bytes") isl_bytes && (catB K (.ref (He.ga K "StatusError")) ctl_StatusError && (exsB K (.ref (He.ga K "TableError")) isE_TableError && (exsB K (.ref (He.ga K "ChecksError")) isE_ChecksError && (exsB K (.ref (He.ga K "RuleError")) isE_RuleError && (exsB K (.ref (He.ga K "NumberError")) isE_NumberError && (exsB K (.ref (He.ga K "LimitsError")) isE_LimitsError && (exsB K (.ref (He.ga K "StateError")) isE_StateError && (exsB K (.ref (He.ga K "SituationError")) isE_SituationError && (exsB K (.ref (He.ga K "FractionError")) isE_FractionError && (exsB K (.ref (He.ga K "RulesError")) isE_RulesError && (exsB K (.ref (He.ga K "StatusesError")) isE_StatusesError && (exsB K (.ref (He.ga K "NamesError")) isE_NamesError && (exsB K (.ref (He.ga K "SignsError")) isE_SignsError && (exsB K (.ref (He.ga K "UnknownName")) isE_UnknownName && (exsB K (.ref (He.ga K "MonitorError")) isE_MonitorError && (exsB K (.ref (He.ga K "NothingToUndo")) isE_NothingToUndo && (exsB K (.ref (He.ga K "DataError")) isE_DataError && (exsB K (.ref (He.ga K "TooLarge")) isE_TooLarge && (exsB K (.ref (He.ga K "TextError")) isE_TextError && (exsB K (.type "ValueError") isE_ValueError)))))))))))))))))))))
end Lw
namespace Lw
open PySem hiding start
open PySem.Spec L2 Sr
open PyProof.Rows hiding St
abbrev R : PySem.W.OpenRow := PySem.W.OpenLaw.row PySem.Challenge.rw_statusrules_k74_bytes_unpacked
def ads : List Addr := ([3, 6, 4, 24, 37, 49, 61, 73, 85, 97, 109, 121, 133, 145, 157, 169, 181, 193, 205, 217, 236, 255, 262, 269, 276, 283, 290, 297, 304, 311, 318, 325, 332, 339, 346, 353, 360, 365, 0, 23] : List Addr) ++ ([36, 48, 60, 72, 84, 96, 108, 120, 132, 144, 156, 168, 180, 192, 204, 216, 235, 254, 261, 268, 275, 282, 289, 296, 303, 310, 317, 324, 331, 338, 345, 352, 359, 364, 22, 25, 35, 47, 59, 71] : List Addr) ++ ([83, 95, 107, 119, 131, 143, 155, 167, 179, 191, 203, 215, 233, 234, 252, 253, 258, 259, 260, 263, 264, 265, 266, 267, 270, 271, 272, 273, 274, 277, 278, 279, 280, 281, 284, 285, 286, 287, 288, 291] : List Addr) ++ ([292, 293, 294, 295, 298, 299, 300, 301, 302, 305, 306, 307, 308, 309, 312, 313, 314, 315, 316, 319, 320, 321, 322, 323, 326, 327, 328, 329, 330, 333, 334, 335, 336, 337, 340, 341, 342, 343, 344, 347] : List Addr) ++ ([348, 349, 350, 351, 354, 355, 356, 357, 358, 361, 362, 363, 232, 251, 227, 228, 229, 230, 231, 246, 247, 248, 249, 250, 2] : List Addr)
abbrev hk : PySem.W.Hook := hookM ads fa fn ex tf
def ob (s : PySem.W.SharedT) : AlZ × Bool := obsM ads fa fn ex tf (HandSHeadRun.getT s)
def lo : List Str := (["StatusError", "TableError", "ChecksError", "RuleError", "NumberError", "LimitsError", "StateError", "SituationError", "FractionError", "RulesError", "StatusesError", "NamesError", "SignsError", "UnknownName", "MonitorError", "NothingToUndo", "DataError", "TooLarge", "TextError", "PASS", "FAIL", "is_made_of", "MOST_CHECKS", "check_checks", "BYTE", "packed", "pack", "unpack", "_law_cell_at", "_law_pen"] : List Str) ++ (["_law_draw", "_law_checks", "_law_pick", "_law_odd", "_law_kind", "_law_said", "_law_same", "_law_due", "__name__"] : List Str)
theorem run (w : World) : HandSHeadRun.RunEq R (PySem.W.view R.prog [43]) hk ob 20000 lo w := by
  intro os
  kernel_rfl
end Lw
namespace Lw
open PySem hiding start
open L2 Sr
open Hi (rep)
def S (l : List Nat) : Str := ⟨l.toArray⟩
def fcd (s c : Bool) : Nat := if s == c then 46 else if c then 112 else 102
end Lw
namespace Sr
open PySem PySem.Spec L2
theorem seqT_mono {K : PySem.W.Frag} {H H' : Hp} {a : Addr} {xs : List V} (e : Same H H') (h : H a = some (.tup xs)) : SqT K H' a xs := SqT.of (e _ _ h)
end Sr
namespace Sr
open PySem PySem.Spec L2
theorem lky_code {P : Program} {w : World} {a : Addr} {xs : List (List Key × Addr)} {q : Str} (h : LKy P w a xs = LamX.CodeO a q) : False := by
  unfold LKy LamX.CodeO at h
  injection h with h
  have h := congrFun h ⟨Array.replicate (a + 1) { cls := .none, data := .fields #[.none, .str q 0] }, {}⟩
  have g : (⟨Array.replicate (a + 1) { cls := .none, data := .fields #[.none, .str q 0] }, {}⟩ : Heap).get? a = some { cls := .none, data := .fields #[.none, .str q 0] } := by
    unfold Heap.get?
    have : (Array.replicate (a + 1) ({ cls := .none, data := .fields #[.none, .str q 0] } : Obj))[a]? = some { cls := .none, data := .fields #[.none, .str q 0] } := by
      rw [Array.getElem?_replicate, if_pos (by omega)]
    simp only [this]
  have r := h.mpr ⟨_, _, _, g, rfl, rfl⟩
  obtain ⟨_, _, o, es, ep, h1, _, h2, _⟩ := r
  rw [g] at h1
  cases h1
  cases h2
theorem uf_none {H : Hp} {p : Addr} (h : H p = none) : ∀ u, H p = some u → NTb u ∧ ∀ φ, u ≠ .ext φ := fun u z => by rw [h] at z; cases z
theorem uf_some {H : Hp} {p : Addr} {o : HO} (h : H p = some o) (h1 : NTb o) (h2 : ∀ φ, o ≠ .ext φ) : ∀ u, H p = some u → NTb u ∧ ∀ φ, u ≠ .ext φ := fun u z => by rw [h] at z; cases z; exact ⟨h1, h2⟩
variable [TabL]
section
variable (K : PySem.W.Frag) (mg : Str → Option Value)
def Rq (H F : Hp) : D → V → Prop
  | .lst ds, v => ∃ a xs, v = .ref a ∧ H a = some (.lst xs) ∧ RpL K mg F ds xs
  | .dk ds, v => ∃ a xs, v = .ref a ∧ H a = some (.dK xs) ∧ RpK K mg F ds xs
  | .dt ds, v => ∃ a xs, v = .ref a ∧ H a = some (.dT xs) ∧ RpT K mg F ds xs
  | .obj c fs, v => ∃ a C dx gs, v = .ref a ∧ mg c = some (.ref C) ∧ H a = some (.ins C dx gs) ∧ RpF K mg F fs gs
  | .dl _, v => ∃ a, v = .ref a
  | d, v => Rp K mg F d v
end
def NoP (T : Pn) (i : Nat) : Prop := ∀ q ∈ T, q.1 ≠ i
theorem noP_nil {i : Nat} : NoP [] i := fun _ h => nomatch h
theorem noP_cons {T : Pn} {i j : Nat} {p : Addr} (h : j ≠ i) (hs : NoP T i) : NoP ((j, p) :: T) i := fun q hq => by
  rcases List.mem_cons.mp hq with rfl | hq
  · exact h
  · exact hs q hq
theorem noPs_nil {vs : List Nat} : ∀ v ∈ vs, NoP [] v := fun _ _ => noP_nil
section
variable {K : PySem.W.Frag} {mg : Str → Option Value} {T : Pn} {e e' : En} {σ σ' : St} {H F H' F' : Hp} {p a : Addr} {d : D} {v : V}
theorem OwnAt.noCode (h : OwnAt K mg H F p d) {q : Str} (ho : H p = some (LamX.CodeO p q)) : False := by
  cases d <;> try (exact h.elim)
  · obtain ⟨xs, h1, h2⟩ := h; rw [h1] at ho; cases ho
  · obtain ⟨xs, h1, h2⟩ := h; rw [h1] at ho; cases ho
  · obtain ⟨xs, h1, h2⟩ := h; rw [h1] at ho; cases ho
  · obtain ⟨C, dx, xs, m, h1, h2⟩ := h; rw [h1] at ho; cases ho
  · obtain ⟨xs, h1, h2⟩ := h; rw [h1] at ho; exact lky_code (Option.some.inj ho)
theorem TbOk.upW {H F : Hp} {p : Addr} {o : HO} (t : TbOk H F) (np : ∀ ps, H p ≠ some (.tbl ps)) (nx : ∀ q, H p ≠ some (LamX.CodeO p q)) (n : NTb o) : TbOk (upd H p o) F := by
  refine ⟨fun q hq => ?_, t.nt, fun a ps z => ?_⟩
  · obtain ⟨ps, h1, h2, h3⟩ := t.tabs q hq
    have k : ∀ b u, b ≠ p → H b = some u → upd H p o b = some u := fun b u hb h => by rw [upd_ne hb]; exact h
    refine ⟨ps, k _ _ (fun z => np ps (by rw [← z]; exact h1)) h1, h2, fun pos cv hc => ?_⟩
    obtain ⟨c, e1, e2⟩ := h3 pos cv hc
    exact ⟨c, e1, k _ _ (fun z => by subst z; exact nx _ e2) e2⟩
  · by_cases hb : a = p
    · subst hb; rw [upd_same] at z; cases z; exact (n ps rfl).elim
    · rw [upd_ne hb] at z; exact t.all a ps z
theorem TbOk.write {H F : Hp} {p : Addr} {d : D} {o : HO} (t : TbOk H F) (ow : OwnAt K mg H F p d) (n : NTb o) : TbOk (upd H p o) F :=
  t.upW (fun ps z => ow.nt z ps rfl) (fun q z => ow.noCode z) n
theorem OwnAt.rp (h : OwnAt K mg H F p d) (n : F p = none) {o : HO} (ho : H p = some o) : Rp K mg (upd F p o) d (.ref p) := by
  have s : Same F (upd F p o) := same_upd n
  cases d <;> try (exact h.elim)
  · obtain ⟨xs, h1, h2⟩ := h; rw [ho] at h1; cases h1
    unfold Rp
    exact ⟨p, xs, rfl, upd_same, RpL.mono s _ _ h2⟩
  · obtain ⟨xs, h1, h2⟩ := h; rw [ho] at h1; cases h1
    unfold Rp
    exact ⟨p, xs, rfl, upd_same, RpK.mono s _ _ h2⟩
  · obtain ⟨xs, h1, h2⟩ := h; rw [ho] at h1; cases h1
    unfold Rp
    exact ⟨p, xs, rfl, upd_same, RpT.mono s _ _ h2⟩
  · obtain ⟨C, dx, xs, m, h1, h2⟩ := h; rw [ho] at h1; cases h1
    unfold Rp
    exact ⟨p, C, dx, xs, rfl, m, upd_same, RpF.mono s _ _ h2⟩
  · obtain ⟨xs, h1, h2⟩ := h; rw [ho] at h1; cases h1
    unfold Rp
    exact ⟨p, _, rfl, upd_same⟩
theorem OwnAt.rq (h : OwnAt K mg H F p d) : Rq K mg H F d (.ref p) := by
  cases d <;> try (exact h.elim)
  · obtain ⟨xs, h1, h2⟩ := h; exact ⟨p, xs, rfl, h1, h2⟩
  · obtain ⟨xs, h1, h2⟩ := h; exact ⟨p, xs, rfl, h1, h2⟩
  · obtain ⟨xs, h1, h2⟩ := h; exact ⟨p, xs, rfl, h1, h2⟩
  · obtain ⟨C, dx, xs, m, h1, h2⟩ := h; exact ⟨p, C, dx, xs, rfl, m, h1, h2⟩
  · exact ⟨p, rfl⟩
theorem Rp.rq (s : Same F H) (h : Rp K mg F d v) : Rq K mg H F d v := by
  cases d <;> unfold Rq <;> try (exact h)
  · unfold Rp at h
    obtain ⟨a, xs, e, q, r⟩ := h
    exact ⟨a, xs, e, s _ _ q, r⟩
  · unfold Rp at h
    obtain ⟨a, xs, e, q, r⟩ := h
    exact ⟨a, xs, e, s _ _ q, r⟩
  · unfold Rp at h
    obtain ⟨a, xs, e, q, r⟩ := h
    exact ⟨a, xs, e, s _ _ q, r⟩
  · unfold Rp at h
    obtain ⟨a, C, dx, xs, e, m, q, r⟩ := h
    exact ⟨a, C, dx, xs, e, m, s _ _ q, r⟩
  · unfold Rp at h
    obtain ⟨a, φ, e, _⟩ := h
    exact ⟨a, e⟩
theorem Ow.ne_of_free (r : ER K mg T e σ H F) (h : H a = none) : ¬ Ow e σ a := by
  rintro ⟨i, d, h1, h2⟩
  obtain ⟨p, h3, _, h4⟩ := r.own i d h1
  rw [h3] at h2; cases h2
  obtain ⟨o, ho⟩ := h4.there
  rw [ho] at h; cases h
theorem ER.freeze (r : ER K mg T e σ H F) (n : F p = none) (w : ¬ Ow e σ p) {o : HO} (ho : H p = some o) (nt : NTb o := by first | assumption | (intro _ z; exact nomatch z) | (intro _ z; cases z)) : ER K mg T e σ H (upd F p o) := by
  have s : Same F (upd F p o) := same_upd n
  refine ⟨fun b u q => ?_, fun i d h => ?_, fun i d h => ?_, r.inj, r.len, r.pin, r.tb.updF nt⟩
  · by_cases hb : b = p
    · subst hb; rw [upd_same] at q; cases q; exact ho
    · rw [upd_ne hb] at q; exact r.sub b u q
  · obtain ⟨v, h1, h2⟩ := r.val i d h
    exact ⟨v, h1, Rp.mono s _ _ h2⟩
  · obtain ⟨q, h1, h2, h3⟩ := r.own i d h
    refine ⟨q, h1, ?_, h3.keep s fun _ z => z⟩
    have hqp : q ≠ p := by
      rintro rfl
      exact w ⟨i, d, h, h1⟩
    rw [upd_ne hqp]; exact h2
theorem ER.freezeAt {i : Nat} (r : ER K mg T e σ H F) (h : e[i]? = some (.own d)) (hp : σ[i]? = some (some (.ref p))) {o : HO} (ho : H p = some o) : ER K mg T (e.set i (.val d)) σ H (upd F p o) ∧ Rp K mg (upd F p o) d (.ref p) ∧ Mv e σ H F (e.set i (.val d)) σ H (upd F p o) := by
  obtain ⟨q, h1, h2, h3⟩ := r.own i d h
  rw [hp] at h1; cases h1
  have s : Same F (upd F p o) := same_upd h2
  have hrp := h3.rp h2 ho
  have hi : i < e.length := (List.getElem?_eq_some_iff.mp h).1
  have other : ∀ (j : Nat) (x : D), (e.set i (Sl.val d))[j]? = some (.own x) → e[j]? = some (.own x) ∧ j ≠ i := fun j x q => by
    by_cases hj : j = i
    · subst hj; rw [List.getElem?_set_self hi] at q; cases q
    · rw [List.getElem?_set_ne (Ne.symm hj)] at q; exact ⟨q, hj⟩
  refine ⟨⟨fun b u q => ?_, fun j x q => ?_, fun j x q => ?_, fun j k p' x y q1 q2 => r.inj j k p' x y (other j x q1).1 (other k y q2).1, by rw [List.length_set]; exact r.len, r.pin, r.tb.updF (h3.nt ho)⟩, hrp, s, fun a u q n => ⟨fun _ => q, ?_⟩, fun a u q => ?_, fun a q => q⟩
  · by_cases hb : b = p
    · subst hb; rw [upd_same] at q; cases q; exact ho
    · rw [upd_ne hb] at q; exact r.sub b u q
  · by_cases hj : j = i
    · subst hj; rw [List.getElem?_set_self hi] at q; cases q
      exact ⟨_, hp, hrp⟩
    · rw [List.getElem?_set_ne (Ne.symm hj)] at q
      obtain ⟨v, h4, h5⟩ := r.val j x q
      exact ⟨v, h4, Rp.mono s _ _ h5⟩
  · obtain ⟨q, hj⟩ := other j x q
    obtain ⟨p', h4, h5, h6⟩ := r.own j x q
    refine ⟨p', h4, ?_, h6.keep s fun _ z => z⟩
    rw [upd_ne]; exact h5
    rintro rfl
    exact hj (r.inj j i p' x d q h h4 hp)
  · rintro ⟨j, x, q1, q2⟩
    exact n ⟨j, x, (other j x q1).1, q2⟩
  · by_cases hb : a = p
    · subst hb; exact .inr (.inr ⟨i, d, h, hp⟩)
    · rw [upd_ne hb] at q; exact .inl q
end
section
variable (K : PySem.W.Frag) (mg : Str → Option Value) (T : Pn) (W : WX)
def TV (m : M D) : TE := fun σ H Q => ∃ e F, ER K mg T e σ H F ∧ RunAt K mg T W e F m σ H fun d _ H' F' => ∀ v, Rp K mg F' d v → Q v H'
def TO (m : M D) : TE := fun σ H Q => ∃ e F, ER K mg T e σ H F ∧ RunAt K mg T W e F m σ H fun d e' H' F' => ∀ p, H p = none → F' p = none → ¬ Ow e' σ p → OwnAt K mg H' F' p d → Q (.ref p) H'
def TT' (m : M Bool) : TT := fun σ H Q => ∃ e F, ER K mg T e σ H F ∧ RunAt K mg T W e F m σ H fun b _ H' F' => Q b H'
def TAs (m : M (List D)) : TA := fun σ H Q => ∃ e F, ER K mg T e σ H F ∧ RunAt K mg T W e F m σ H fun ds _ H' F' => ∀ vs, RpL K mg F' ds vs → Q vs H'
end
section
variable {K : PySem.W.Frag} {mg : Str → Option Value} {T : Pn} {W : WX} {A B : Type} {e : En} {σ : St} {H F : Hp}
theorem RunAt.bind {m : M A} {f : A → M B} {P : B → En → Hp → Hp → Prop} (h : RunAt K mg T W e F (bnd m f) σ H P) : RunAt K mg T W e F m σ H fun a e1 H1 F1 => RunAt K mg T W e1 F1 (f a) σ H1 P := by
  unfold RunAt bnd at h
  unfold RunAt
  cases q : m e with
  | ok a e1 =>
    rw [q] at h
    dsimp only at h ⊢
    intro H1 F1 er1 mv1
    cases q2 : f a e1 with
    | ok b e2 =>
      rw [q2] at h
      exact fun H2 F2 er2 mv2 => h H2 F2 er2 (mv1.trans mv2)
    | exc x e2 =>
      rw [q2] at h
      exact fun H2 F2 cl dd er2 mv2 => h H2 F2 cl dd er2 (mv1.trans mv2)
    | bad => rw [q2] at h; exact h
  | exc x e' => rw [q] at h; exact h
  | bad => rw [q] at h; exact h
theorem RunAt.rfin {a : A} {P : A → En → Hp → Hp → Prop} (h : RunAt K mg T W e F (ret a) σ H P) (er : ER K mg T e σ H F) : ∀ H' F', Al H F H' F' → P a e H' F' :=
  fun H' F' al => h H' F' (er.al al) (Mv.al er al)
end
end Sr
namespace Sr
variable [TabL]
open PySem PySem.Spec L2
open PyProof.Rows hiding St
theorem PEimp {X : Cx} {e : Expr} {t t' : TE} (h : PE X e t) (k : ∀ σ H Q, t' σ H Q → t σ H Q) : PE X e t' := ⟨fun pins s σ H Q I q => h.run pins s σ H Q I (k σ H Q q)⟩
abbrev JV (X : Cx) (T : Pn) (W : WX) (e : Expr) (m : M D) : Prop := PE X e (TV X.K X.mg T W m)
abbrev JO (X : Cx) (T : Pn) (W : WX) (e : Expr) (m : M D) : Prop := PE X e (TO X.K X.mg T W m)
abbrev JT (X : Cx) (T : Pn) (W : WX) (e : Expr) (m : M Bool) : Prop := PT X e (TT' X.K X.mg T W m)
abbrev JW (X : Cx) (T : Pn) (W : WX) (e : Expr) (m : M Bool) : Prop := PW X e (TT' X.K X.mg T W m)
abbrev JA (X : Cx) (T : Pn) (W : WX) (es : List Expr) (m : M (List D)) : Prop := PA X es (TAs X.K X.mg T W m)
def TBw (K : PySem.W.Frag) (mg : Str → Option Value) (T : Pn) (W : WX) (m : M Bv) : TE := fun σ H Q => ∃ e F, ER K mg T e σ H F ∧ RunAt K mg T W e F m σ H fun b _ H' F' => ∀ v, BwR K mg σ F' b v → Q v H'
abbrev JB (X : Cx) (T : Pn) (W : WX) (e : Expr) (m : M Bv) : Prop := PE X e (TBw X.K X.mg T W m)
def der (b : Bv) : M D := fun e => match b with
  | .val d => .ok d e
  | .slot i => match e[i]? with
    | some (.val d) => .ok d e
    | some (.own d) => .ok d e
    | _ => .bad
section
variable {K : PySem.W.Frag} {mg : Str → Option Value} {T : Pn} {W : WX} {e : En} {σ : St} {H F F' : Hp} {b : Bv} {v : V}
theorem der_fin {P : D → En → Hp → Hp → Prop} (h : RunAt K mg T W e F (der b) σ H P) (er : ER K mg T e σ H F) (hb : BwR K mg σ F b v) : ∃ d, Rq K mg H F d v ∧ P d e H F := by
  cases b with
  | val d => exact ⟨d, Rp.rq er.sub hb, h H F er Mv.refl⟩
  | slot i =>
    unfold RunAt der at h
    cases q : e[i]? with
    | none => simp only [q] at h
    | some sl =>
      cases sl with
      | no => simp only [q] at h
      | val d =>
        simp only [q] at h
        obtain ⟨w, h1, h2⟩ := er.val i d q
        have hv : σ[i]? = some (some v) := hb
        rw [h1] at hv; cases hv
        exact ⟨d, Rp.rq er.sub h2, h H F er Mv.refl⟩
      | own d =>
        simp only [q] at h
        obtain ⟨p, h1, h2, h3⟩ := er.own i d q
        have hv : σ[i]? = some (some v) := hb
        rw [h1] at hv; cases hv
        exact ⟨d, h3.rq, h H F er Mv.refl⟩
end
section
variable {X : Cx} {T : Pn} {W : WX} {pos : Pos} {a b c : Expr} {ma mb mc : M D}
theorem ofO {m : M D} (h : JO X T W a m) : JV X T W a m := by
  refine PEimp h fun σ H Q ⟨e, F, er, q⟩ => ⟨e, F, er, ?_⟩
  unfold RunAt at q ⊢
  cases r : m e with
  | ok d e' =>
    rw [r] at q
    intro H' F' er' mv p hp fp np ow
    obtain ⟨o, ho⟩ := ow.there
    refine q H' (upd F' p o) (er'.freeze fp np ho (ow.nt ho)) ⟨mv.sub.trans (same_upd fp), mv.keep, fun c u hc => ?_, mv.there⟩ _ (ow.rp fp ho)
    by_cases hcp : c = p
    · subst hcp; exact .inr (.inl hp)
    · rw [upd_ne hcp] at hc; exact mv.new c u hc
  | exc x e' => rw [r] at q; exact q
  | bad => rw [r] at q; exact q
def mB (m : M D) : M Bv := bnd m fun d => ret (.val d)
theorem ofV {m : M D} (h : JV X T W a m) : JB X T W a (mB m) := by
  refine PEimp h fun σ H Q ⟨e, F, er, q⟩ => ⟨e, F, er, q.bind.mono fun d e1 H1 F1 er1 mv1 q1 v hv => q1.rfin er1 H1 F1 Al.refl v hv⟩
theorem jv_int {i j} : JV X T W (.Constant (.int i) j pos) (ret (.int i)) := PEimp pe_int fun σ H Q ⟨e, F, er, h⟩ => h.rfin er H F Al.refl _ (by unfold Rp; rfl)
theorem jv_bl {i j} : JV X T W (.Constant (.bool i) j pos) (ret (.bl i)) := PEimp pe_bl fun σ H Q ⟨e, F, er, h⟩ => h.rfin er H F Al.refl _ (by unfold Rp; rfl)
theorem jv_str {i j} : JV X T W (.Constant (.str i) j pos) (ret (.str i)) := PEimp pe_str fun σ H Q ⟨e, F, er, h⟩ => h.rfin er H F Al.refl _ (by unfold Rp; rfl)
theorem jv_non {j} : JV X T W (.Constant .none j pos) (ret .non) := PEimp pe_non fun σ H Q ⟨e, F, er, h⟩ => h.rfin er H F Al.refl _ (by unfold Rp; rfl)
theorem jv_glob {x : Str} {v : V} {u : Value} {d : D} (hg : Gl X x) (hm : X.mg x = some u) (r : RelV v u) (hd : ∀ F, Rp X.K X.mg F d v) (hx : (x == ("__debug__" : Str)) = false := by decide) : JV X T W (.Name x pos) (ret d) :=
  PEimp (pe_glob hg hm r hx) fun σ H Q ⟨e, F, er, h⟩ => h.rfin er H F Al.refl _ (hd F)
def mN (i : Nat) : M D := fun e => match e[i]? with
  | some (.val d) => .ok d e
  | some (.own d) => .ok d (e.set i (.val d))
  | _ => .bad
def mNB (i : Nat) : M Bv := fun e => match e[i]? with
  | some (.val d) => .ok (.val d) e
  | some (.own _) => .ok (.slot i) e
  | _ => .bad
theorem jv_name (i : Nat) {x : Str} (hN : X.N[i]? = some x := by rfl) (hv : Vis X.env.scope x := by first | exact Or.inl rfl | exact Or.inr (Or.inl rfl) | exact Or.inr (Or.inr rfl)) (hd : (x == ("__debug__" : Str)) = false := by decide)
    (hcd : (x == ("__classdict__" : Str)) = false := by decide) : JV X T W (.Name x pos) (mN i) := by
  refine PEimp (pe_var hN hv hd hcd) fun σ H Q ⟨e, F, er, h⟩ => ?_
  unfold RunAt mN at h
  cases q : e[i]? with
  | none => simp only [q] at h
  | some sl =>
    cases sl with
    | no => simp only [q] at h
    | val d =>
      simp only [q] at h
      obtain ⟨v, h1, h2⟩ := er.val i d q
      exact ⟨v, h1, h H F er Mv.refl v h2⟩
    | own d =>
      simp only [q] at h
      obtain ⟨p, h1, h2, h3⟩ := er.own i d q
      obtain ⟨o, ho⟩ := h3.there
      obtain ⟨er', hr, mv⟩ := er.freezeAt q h1 ho
      exact ⟨_, h1, h H _ er' mv _ hr⟩
theorem jb_name (i : Nat) {x : Str} (hN : X.N[i]? = some x := by rfl) (hv : Vis X.env.scope x := by first | exact Or.inl rfl | exact Or.inr (Or.inl rfl) | exact Or.inr (Or.inr rfl)) (hd : (x == ("__debug__" : Str)) = false := by decide)
    (hcd : (x == ("__classdict__" : Str)) = false := by decide) : JB X T W (.Name x pos) (mNB i) := by
  refine PEimp (pe_var hN hv hd hcd) fun σ H Q ⟨e, F, er, h⟩ => ?_
  unfold RunAt mNB at h
  cases q : e[i]? with
  | none => simp only [q] at h
  | some sl =>
    cases sl with
    | no => simp only [q] at h
    | val d =>
      simp only [q] at h
      obtain ⟨v, h1, h2⟩ := er.val i d q
      exact ⟨v, h1, h H F er Mv.refl v h2⟩
    | own d =>
      simp only [q] at h
      obtain ⟨p, h1, h2, h3⟩ := er.own i d q
      exact ⟨_, h1, h H F er Mv.refl _ h1⟩
def Op2 (X : Cx) (f : Value → Value → Sem Value) (g : D → D → Option D) : Prop :=
  ∀ (H F : Hp) (x y : V) (d1 d2 d : D), Same F H → Rq X.K X.mg H F d1 x → Rq X.K X.mg H F d2 y → g d1 d2 = some d →
    ∃ r : R2, OpR X f r ∧ ∀ Q : VK, (∀ H' F' z, Al H F H' F' → Rp X.K X.mg F' d z → Q z H') → r x y H Q
theorem Op2.or {f : Value → Value → Sem Value} {g g' : D → D → Option D} (h : Op2 X f g) (h' : Op2 X f g') : Op2 X f (fun a b => (g a b).or (g' a b)) := by
  intro H F x y d1 d2 d s r1 r2 e
  cases q : g d1 d2 with
  | some z => simp only [q, Option.some_or] at e; cases e; exact h H F x y d1 d2 _ s r1 r2 q
  | none => simp only [q, Option.none_or] at e; exact h' H F x y d1 d2 d s r1 r2 e
def m2 (g : D → D → Option D) (ma mb : M D) : M D := bnd ma fun d1 => bnd mb fun d2 => opt (g d1 d2)
def m2b (g : D → D → Option D) (ma : M Bv) (mb : M D) : M D := bnd ma fun b1 => bnd mb fun d2 => bnd (der b1) fun d1 => opt (g d1 d2)
def m2r (g : D → D → Option D) (ma : M D) (mb : M Bv) : M D := bnd ma fun d1 => bnd mb fun b2 => bnd (der b2) fun d2 => opt (g d1 d2)
section
variable {f : Value → Value → Sem Value} {g : D → D → Option D} {R : V → V → Hp → Prop} {Q : VK}
theorem run2 (ho : Op2 X f g) {σ : St} {H : Hp} (h : TV X.K X.mg T W (m2 g ma mb) σ H Q) : TV X.K X.mg T W ma σ H fun x H1 => TV X.K X.mg T W mb σ H1 fun y H2 => ∃ r, OpR X f r ∧ r x y H2 Q := by
  obtain ⟨e, F, er, h⟩ := h
  refine ⟨e, F, er, h.bind.mono fun d1 e1 H1 F1 er1 mv1 h1 v hv => ⟨e1, F1, er1, h1.bind.mono fun d2 e2 H2 F2 er2 mv2 h2 w hw => ?_⟩⟩
  obtain ⟨d, hd, fin⟩ := h2.fin er2
  obtain ⟨r, hr, q⟩ := ho H2 F2 v w d1 d2 d er2.sub (Rp.rq er2.sub (Rp.mono mv2.sub _ _ hv)) (Rp.rq er2.sub hw) hd
  exact ⟨r, hr, q Q fun H' F' z al hz => fin H' F' al z hz⟩
end
def rAny (X : Cx) (f : Value → Value → Sem Value) : R2 := fun x y H Q => ∃ r, OpR X f r ∧ r x y H Q
theorem opAny {f : Value → Value → Sem Value} : OpR X f (rAny X f) := fun pins s σ H x y v u Q I rx ry ⟨r, hr, q⟩ => hr pins s σ H x y v u Q I rx ry q
theorem jv_bin {op : Operator} {g : D → D → Option D} (ho : Op2 X (binaryOp op) g) (ha : JV X T W a ma) (hb : JV X T W b mb) : JV X T W (.BinOp a op b pos) (m2 g ma mb) :=
  PEimp (pe_op opAny ha hb) fun σ H Q h => run2 ho h
theorem jv_cmp {op : CmpOp} {g : D → D → Option D} (ho : Op2 X (compareOp op) g) (ha : JV X T W a ma) (hb : JV X T W b mb) (hm : behindInMarks op b = false := by first | exact nomark _ | rfl) : JV X T W (.Compare a [op] [b] pos) (m2 g ma mb) :=
  PEimp (pe_cmpR opAny ha hb hm) fun σ H Q h => run2 ho h
def asB : D → Option Bool
  | .bl b => some b
  | _ => none
def mT (m : M D) : M Bool := bnd m fun d => opt (asB d)
theorem runT {σ : St} {H : Hp} {Q : Bool → Hp → Prop} (h : TT' X.K X.mg T W (mT ma) σ H Q) : TV X.K X.mg T W ma σ H fun x H1 => ∃ k, x = .bl k ∧ Q k H1 := by
  obtain ⟨e, F, er, h⟩ := h
  refine ⟨e, F, er, h.bind.mono fun d e1 H1 F1 er1 mv1 h1 v hv => ?_⟩
  obtain ⟨k, hk, fin⟩ := h1.fin er1
  cases d <;> cases hk
  unfold Rp at hv
  exact ⟨_, hv, fin H1 F1 Al.refl⟩
theorem PTimp {e : Expr} {t t' : TT} (h : PT X e t) (k : ∀ σ H Q, t' σ H Q → t σ H Q) : PT X e t' := ⟨fun pins s σ H Q I q => h.run pins s σ H Q I (k σ H Q q)⟩
theorem PWimp {e : Expr} {t t' : TT} (h : PW X e t) (k : ∀ σ H Q, t' σ H Q → t σ H Q) : PW X e t' := ⟨fun wh pins s σ H Q I q => h.run wh pins s σ H Q I (k σ H Q q)⟩
theorem jt_cmp {op : CmpOp} {g : D → D → Option D} (ho : Op2 X (compareOp op) g) (ha : JV X T W a ma) (hb : JV X T W b mb) (hm : behindInMarks op b = false := by first | exact nomark _ | rfl) : JT X T W (.Compare a [op] [b] pos) (mT (m2 g ma mb)) :=
  PTimp (pt_cmpR opAny ha hb hm) fun σ H Q h => run2 ho (runT h)
def mChain (g g' : D → D → Option D) (ma mb mc : M D) : M D := bnd ma fun d1 => bnd mb fun d2 => bnd (opt ((g d1 d2).bind asB)) fun k => if k = true then bnd mc fun d3 => opt (g' d2 d3) else ret (.bl false)
def mAnd (m m' : M Bool) : M Bool := bnd m fun k => if k = true then m' else ret false
def mOr (m m' : M Bool) : M Bool := bnd m fun k => if k = true then ret true else m'
def mNot (m : M Bool) : M Bool := bnd m fun k => ret (!k)
variable {rest : List Expr} {n n' : M Bool}
theorem jw_and1 (ha : JT X T W a n) : JW X T W (.BoolOp .And [a] pos) n := pw_and1 ha
theorem jw_or1 (ha : JT X T W a n) : JW X T W (.BoolOp .Or [a] pos) n := pw_or1 ha
theorem jw_and (ha : JT X T W a n) (hb : JW X T W (.BoolOp .And (b :: rest) pos) n') : JW X T W (.BoolOp .And (a :: b :: rest) pos) (mAnd n n') := by
  refine PWimp (pw_and ha hb) fun σ H Q ⟨e, F, er, h⟩ => ⟨e, F, er, h.bind.mono fun k e1 H1 F1 er1 mv1 h1 => ?_⟩
  cases k with
  | true => rw [if_pos rfl] at h1 ⊢; exact ⟨e1, F1, er1, h1⟩
  | false => rw [if_neg (by decide)] at h1 ⊢; exact h1.rfin er1 H1 F1 Al.refl
theorem jw_or (ha : JT X T W a n) (hb : JW X T W (.BoolOp .Or (b :: rest) pos) n') : JW X T W (.BoolOp .Or (a :: b :: rest) pos) (mOr n n') := by
  refine PWimp (pw_or ha hb) fun σ H Q ⟨e, F, er, h⟩ => ⟨e, F, er, h.bind.mono fun k e1 H1 F1 er1 mv1 h1 => ?_⟩
  cases k with
  | false => rw [if_neg (by decide)] at h1 ⊢; exact ⟨e1, F1, er1, h1⟩
  | true => rw [if_pos rfl] at h1 ⊢; exact h1.rfin er1 H1 F1 Al.refl
theorem ofW (h : JW X T W a n) : JT X T W a n := h.pt
theorem jt_not (ha : JT X T W a n) : JT X T W (.UnaryOp .Not a pos) (mNot n) :=
  PTimp (pt_not ha) fun σ H Q ⟨e, F, er, h⟩ => ⟨e, F, er, h.bind.mono fun k e1 H1 F1 er1 mv1 h1 => h1.rfin er1 H1 F1 Al.refl⟩
def mAndV (m m' : M D) : M D := bnd m fun d => bnd (opt (asB d)) fun k => if k = true then m' else ret (.bl false)
def mOrV (m m' : M D) : M D := bnd m fun d => bnd (opt (asB d)) fun k => if k = true then ret (.bl true) else m'
def mNotV (m : M D) : M D := bnd m fun d => opt ((asB d).map fun k => .bl (!k))
theorem jv_one {op} (h : JV X T W a ma) : JV X T W (.BoolOp op [a] pos) ma := pe_one h
theorem jv_and (ha : JV X T W a ma) (hb : JV X T W (.BoolOp .And (b :: rest) pos) mb) : JV X T W (.BoolOp .And (a :: b :: rest) pos) (mAndV ma mb) := by
  refine PEimp (pe_and ha hb) fun σ H Q ⟨e, F, er, h⟩ => ⟨e, F, er, h.bind.mono fun d e1 H1 F1 er1 mv1 h1 v hv => ?_⟩
  obtain ⟨k, hk, fin⟩ := h1.bind.fin er1
  cases d <;> cases hk
  unfold Rp at hv
  refine ⟨k, hv, ?_⟩
  have h2 := fin H1 F1 Al.refl
  cases k with
  | true => rw [if_pos rfl] at h2 ⊢; exact ⟨e1, F1, er1, h2⟩
  | false => rw [if_neg (by decide)] at h2 ⊢; exact h2.rfin er1 H1 F1 Al.refl _ (by unfold Rp; rfl)
def mIf (n : M Bool) (ma mb : M D) : M D := bnd n fun k => if k = true then ma else mb
theorem jv_if {c : Expr} (hc : JT X T W c n) (ha : JV X T W a ma) (hb : JV X T W b mb) : JV X T W (.IfExp c a b pos) (mIf n ma mb) := by
  refine PEimp (pe_ifExp hc ha hb) fun σ H Q ⟨e, F, er, h⟩ => ⟨e, F, er, h.bind.mono fun k e1 H1 F1 er1 mv1 h1 => ?_⟩
  cases k with
  | true => rw [if_pos rfl] at h1 ⊢; exact ⟨e1, F1, er1, h1⟩
  | false => rw [if_neg (by decide)] at h1 ⊢; exact ⟨e1, F1, er1, h1⟩
theorem RpL.isEmpty {K : PySem.W.Frag} {mg : Str → Option Value} {F : Hp} {ds : List D} {xs : List V} (h : RpL K mg F ds xs) : ds.isEmpty = xs.isEmpty := by
  cases ds with
  | nil => unfold RpL at h; subst h; rfl
  | cons d ds => unfold RpL at h; obtain ⟨v, vs, rfl, _⟩ := h; rfl
theorem RpK.isEmpty {K : PySem.W.Frag} {mg : Str → Option Value} {F : Hp} {ds : List (Key × D)} {xs : List (Key × V)} (h : RpK K mg F ds xs) : ds.isEmpty = xs.isEmpty := by
  cases ds with
  | nil => unfold RpK at h; subst h; rfl
  | cons d ds => obtain ⟨k, d⟩ := d; unfold RpK at h; obtain ⟨v, vs, rfl, _⟩ := h; rfl
theorem jt_val (ha : JV X T W a ma) (he : ∀ whole, isTrue a X.env whole = (do let v ← whole; standAt a.pos; holding [v] (truthy v)) := by intro _; rfl) : JT X T W a (mT ma) :=
  PTimp (pt_val ha he) fun σ H Q h => runT h
def mNil : M (List D) := ret []
def mCons (m : M D) (ms : M (List D)) : M (List D) := bnd m fun d => bnd ms fun ds => ret (d :: ds)
theorem PAimp {es : List Expr} {t t' : TA} (h : PA X es t) (k : ∀ σ H Q, t' σ H Q → t σ H Q) : PA X es t' := ⟨fun pos pins s σ H Q I q => h.run pos pins s σ H Q I (k σ H Q q)⟩
theorem ja_nil : JA X T W [] mNil := PAimp pa_nil fun σ H Q ⟨e, F, er, h⟩ => h.rfin er H F Al.refl _ (by unfold RpL; rfl)
theorem ja_cons {e : Expr} {es : List Expr} {m : M D} {ms : M (List D)} (ha : JV X T W e m) (hr : JA X T W es ms) (hs : starEach (e :: es) X.env = (false, eval e X.env) :: starEach es X.env := by rfl) : JA X T W (e :: es) (mCons m ms) := by
  refine PAimp (pa_cons ha hr hs) fun σ H Q ⟨e, F, er, h⟩ => ⟨e, F, er, h.bind.mono fun d e1 H1 F1 er1 mv1 h1 v hv => ⟨e1, F1, er1, h1.bind.mono fun ds e2 H2 F2 er2 mv2 h2 vs hvs => ?_⟩⟩
  exact h2.rfin er2 H2 F2 Al.refl _ (by unfold RpL; exact ⟨v, vs, rfl, Rp.mono mv2.sub _ _ hv, hvs⟩)
def mTup (ms : M (List D)) : M D := bnd ms fun ds => opt (if ds.length ≤ sizeLine then some (.tup ds) else none)
def mLst (ms : M (List D)) : M D := bnd ms fun ds => opt (if ds.length ≤ sizeLine then some (.lst ds) else none)
theorem jv_tup {es : List Expr} {x1} {ms : M (List D)} (h : JA X T W es ms) : JV X T W (.Tuple es x1 pos) (mTup ms) := by
  refine PEimp (pe_tup h) fun σ H Q ⟨e, F, er, h⟩ => ⟨e, F, er, h.bind.mono fun ds e1 H1 F1 er1 mv1 h1 vs hvs => ?_⟩
  obtain ⟨d, hd, fin⟩ := h1.fin er1
  split at hd
  · rename_i hz
    cases hd
    refine ⟨by rw [← hvs.len]; exact hz, fun p hp => fin _ _ (Al.one hp) _ ?_⟩
    unfold Rp
    exact ⟨p, vs, rfl, upd_same, RpL.mono (same_upd (er1.sub.free hp)) _ _ hvs⟩
  · cases hd
end
section
variable {X : Cx} {T : Pn} {W : WX} {pos : Pos} {a b c : Expr} {ma mb mc : M D}
theorem jo_lst {es : List Expr} {ms : M (List D)} (h : JA X T W es ms) : JO X T W (.List es pos) (mLst ms) := by
  refine PEimp (pe_lst h) fun σ H Q ⟨e, F, er, h⟩ => ⟨e, F, er, h.bind.mono fun ds e1 H1 F1 er1 mv1 h1 vs hvs => ?_⟩
  unfold opt at h1
  split at h1
  · rename_i d hd
    split at hd
    · rename_i hz
      cases hd
      refine ⟨by rw [← hvs.len]; exact hz, fun p hp => ?_⟩
      exact (h1.new er1 hp) p (mv1.there p hp) (er1.sub.free hp) (Ow.ne_of_free er1 hp) ⟨vs, upd_same, hvs⟩
    · cases hd
  · exact h1.elim
end
end Sr
namespace Sr
variable [TabL]
open PySem PySem.Spec L2
open PyProof.Rows hiding St
section
variable {K : PySem.W.Frag} {mg : Str → Option Value} {F H : Hp}
theorem rp_int {i : Int} {v : V} : Rp K mg F (.int i) v ↔ v = .int i := by unfold Rp; exact Iff.rfl
theorem rp_str {x : Str} {v : V} : Rp K mg F (.str x) v ↔ v = .str x := by unfold Rp; exact Iff.rfl
theorem rp_bl {x : Bool} {v : V} : Rp K mg F (.bl x) v ↔ v = .bl x := by unfold Rp; exact Iff.rfl
theorem rp_non {v : V} : Rp K mg F .non v ↔ v = .non := by unfold Rp; exact Iff.rfl
theorem rp_byt {x : Array UInt8} {v : V} : Rp K mg F (.byt x) v ↔ v = .byt x := by unfold Rp; exact Iff.rfl
theorem rq_int {i : Int} {v : V} : Rq K mg H F (.int i) v ↔ v = .int i := by unfold Rq Rp; exact Iff.rfl
theorem rq_str {x : Str} {v : V} : Rq K mg H F (.str x) v ↔ v = .str x := by unfold Rq Rp; exact Iff.rfl
theorem rq_bl {x : Bool} {v : V} : Rq K mg H F (.bl x) v ↔ v = .bl x := by unfold Rq Rp; exact Iff.rfl
theorem rq_non {v : V} : Rq K mg H F .non v ↔ v = .non := by unfold Rq Rp; exact Iff.rfl
theorem rq_byt {x : Array UInt8} {v : V} : Rq K mg H F (.byt x) v ↔ v = .byt x := by unfold Rq Rp; exact Iff.rfl
theorem rq_tup {ds : List D} {v : V} : Rq K mg H F (.tup ds) v ↔ ∃ a xs, v = .ref a ∧ F a = some (.tup xs) ∧ RpL K mg F ds xs := by
  show Rp K mg F (.tup ds) v ↔ _
  rw [Rp]
theorem rq_scr {ns : List Int} {v : V} : Rq K mg H F (.scr ns) v ↔ ∃ a, v = .ref a ∧ SqL K F a (ns.map V.int) := by
  show Rp K mg F (.scr ns) v ↔ _
  rw [Rp]
theorem rp_lst {ds : List D} {v : V} : Rp K mg F (.lst ds) v ↔ ∃ a xs, v = .ref a ∧ F a = some (.lst xs) ∧ RpL K mg F ds xs := by rw [Rp]
theorem rp_tup {ds : List D} {v : V} : Rp K mg F (.tup ds) v ↔ ∃ a xs, v = .ref a ∧ F a = some (.tup xs) ∧ RpL K mg F ds xs := by rw [Rp]
theorem rp_ct {ds : List D} {v : V} : Rp K mg F (.ct ds) v ↔ ∃ a xs, v = .ref a ∧ SqT K F a xs ∧ RpL K mg F ds xs := by rw [Rp]
theorem rq_ct {ds : List D} {v : V} : Rq K mg H F (.ct ds) v ↔ ∃ a xs, v = .ref a ∧ SqT K F a xs ∧ RpL K mg F ds xs := by
  show Rp K mg F (.ct ds) v ↔ _
  rw [Rp]
theorem rp_dk {ds : List (Key × D)} {v : V} : Rp K mg F (.dk ds) v ↔ ∃ a xs, v = .ref a ∧ F a = some (.dK xs) ∧ RpK K mg F ds xs := by rw [Rp]
theorem rp_obj {c : Str} {fs : List (Str × D)} {v : V} : Rp K mg F (.obj c fs) v ↔ ∃ a C dx gs, v = .ref a ∧ mg c = some (.ref C) ∧ F a = some (.ins C dx gs) ∧ RpF K mg F fs gs := by rw [Rp]
theorem rp_scr {ns : List Int} {v : V} : Rp K mg F (.scr ns) v ↔ ∃ a, v = .ref a ∧ SqL K F a (ns.map V.int) := by rw [Rp]
theorem RpL.get : ∀ {ds : List D} {xs : List V} {i : Nat} {d : D}, RpL K mg F ds xs → ds[i]? = some d → ∃ v, xs[i]? = some v ∧ Rp K mg F d v
  | [], _, _, _, _, e => by simp at e
  | d :: ds, xs, 0, d', h, e => by
    rw [rl_cons] at h
    obtain ⟨v, vs, rfl, r, _⟩ := h
    simp at e; subst e
    exact ⟨v, rfl, r⟩
  | d :: ds, xs, i + 1, d', h, e => by
    rw [rl_cons] at h
    obtain ⟨v, vs, rfl, _, q⟩ := h
    simp at e
    obtain ⟨w, h1, h2⟩ := RpL.get (i := i) q e
    exact ⟨w, by simpa using h1, h2⟩
theorem RpL.set {d : D} {v : V} (r : Rp K mg F d v) : ∀ (i : Nat) {ds : List D} {xs : List V}, RpL K mg F ds xs → RpL K mg F (ds.set i d) (xs.set i v)
  | _, [], xs, h => by rw [rl_nil] at h; subst h; simp [rl_nil]
  | 0, d' :: ds, xs, h => by
    rw [rl_cons] at h
    obtain ⟨w, vs, rfl, _, h⟩ := h
    rw [List.set_cons_zero, List.set_cons_zero, rl_cons]
    exact ⟨v, vs, rfl, r, h⟩
  | i + 1, d' :: ds, xs, h => by
    rw [rl_cons] at h
    obtain ⟨w, vs, rfl, r', h⟩ := h
    rw [List.set_cons_succ, List.set_cons_succ, rl_cons]
    exact ⟨w, vs.set i v, rfl, r', RpL.set r i h⟩
theorem RpL.ints : ∀ {ns : List Int} {xs : List V}, RpL K mg F (ns.map D.int) xs → xs = ns.map V.int
  | [], xs, h => by simpa [rl_nil] using h
  | n :: ns, xs, h => by
    rw [List.map_cons, rl_cons] at h
    obtain ⟨v, vs, rfl, r, h⟩ := h
    rw [rp_int] at r; subst r
    rw [RpL.ints h, List.map_cons]
end
section
variable {X : Cx}
def gI (c : Int → Int → Bool) (f : Int → Int → D) : D → D → Option D
  | .int i, .int j => if c i j = true then some (f i j) else none
  | _, _ => none
def gI0 (f : Int → Int → D) : D → D → Option D
  | .int i, .int j => some (f i j)
  | _, _ => none
theorem op2_i {f : Value → Value → Sem Value} {C : Int → Int → Prop} {c : Int → Int → Bool} {g : Int → Int → V} {g' : Int → Int → D} (ho : OpR X f (rI C g)) (hc : ∀ i j, c i j = true → C i j) (hg : ∀ i j F, Rp X.K X.mg F (g' i j) (g i j)) : Op2 X f (gI c g') := by
  intro H F x y d1 d2 d s r1 r2 e
  unfold gI at e
  split at e
  · rename_i i j
    split at e
    · rename_i hcc
      cases e
      rw [rq_int] at r1 r2
      exact ⟨_, ho, fun Q q => ⟨i, j, r1, r2, hc i j hcc, q H F _ Al.refl (hg i j F)⟩⟩
    · cases e
  · cases e
theorem op2_i0 {f : Value → Value → Sem Value} {g : Int → Int → V} {g' : Int → Int → D} (ho : OpR X f (rI0 g)) (hg : ∀ i j F, Rp X.K X.mg F (g' i j) (g i j)) : Op2 X f (gI0 g') := by
  intro H F x y d1 d2 d s r1 r2 e
  unfold gI0 at e
  split at e
  · rename_i i j
    cases e
    rw [rq_int] at r1 r2
    exact ⟨_, ho, fun Q q => ⟨i, j, r1, r2, q H F _ Al.refl (hg i j F)⟩⟩
  · cases e
def gSub : D → D → Option D := gI0 fun i j => .int (i - j)
def cMul (i j : Int) : Bool := (decide (-(2 ^ 64) < i) && decide (i < 2 ^ 64)) || (decide (-(2 ^ 64) < j) && decide (j < 2 ^ 64))
def gMulI : D → D → Option D := gI cMul fun i j => .int (i * j)
def cDiv (_ j : Int) : Bool := decide (0 < j) && decide (j < 1073741824)
def gDiv : D → D → Option D := gI cDiv fun i j => .int (i / j)
def gMod : D → D → Option D := gI (fun _ j => decide (0 < j)) fun i j => .int (i % j)
def cPow (i j : Int) : Bool := decide (0 ≤ j) && decide (j ≤ 1000000) && decide (i.natAbs < 2 ^ 64)
def gPow : D → D → Option D := gI cPow fun i j => .int (i ^ j.toNat)
def gShr : D → D → Option D := gI (fun _ j => decide (0 ≤ j)) fun i j => .int (i / 2 ^ j.toNat)
def gAndI : D → D → Option D := gI0 fun i j => .int (Builtin.bitAnd i j)
theorem o_sub : Op2 X (binaryOp .Sub) gSub := op2_i0 op_sub fun _ _ _ => by rw [rp_int]
theorem o_mulI : Op2 X (binaryOp .Mult) gMulI := op2_i op_mul (fun i j h => by
  unfold cMul at h
  simp only [Bool.or_eq_true, Bool.and_eq_true, decide_eq_true_eq] at h
  exact h) fun _ _ _ => by rw [rp_int]
theorem o_div : Op2 X (binaryOp .FloorDiv) gDiv := op2_i op_fdiv (fun i j h => by
  unfold cDiv at h
  simp only [Bool.and_eq_true, decide_eq_true_eq] at h
  exact h) fun _ _ _ => by rw [rp_int]
theorem o_mod : Op2 X (binaryOp .Mod) gMod := op2_i op_mod (fun i j h => of_decide_eq_true h) fun _ _ _ => by rw [rp_int]
theorem o_pow : Op2 X (binaryOp .Pow) gPow := op2_i op_pow (fun i j h => by
  unfold cPow at h
  simp only [Bool.and_eq_true, decide_eq_true_eq] at h
  exact ⟨h.1.1, h.1.2, h.2⟩) fun _ _ _ => by rw [rp_int]
theorem o_shr : Op2 X (binaryOp .RShift) gShr := op2_i op_shr (fun i j h => of_decide_eq_true h) fun _ _ _ => by rw [rp_int]
theorem o_andI : Op2 X (binaryOp .BitAnd) gAndI := op2_i0 op_and fun _ _ _ => by rw [rp_int]
theorem o_lt : Op2 X (compareOp .Lt) (gI0 fun i j => .bl (decide (i < j))) := op2_i0 op_lt fun _ _ _ => by rw [rp_bl]
theorem o_gt : Op2 X (compareOp .Gt) (gI0 fun i j => .bl (decide (j < i))) := op2_i0 op_gt fun _ _ _ => by rw [rp_bl]
def gAddI : D → D → Option D := gI0 fun i j => .int (i + j)
def gAddS : D → D → Option D
  | .str x, .str y => if x.length + y.length ≤ sizeLine then some (.str (x ++ y)) else none
  | _, _ => none
def gAddT : D → D → Option D
  | .tup xs, .tup ys => if xs.length + ys.length ≤ sizeLine then some (.tup (xs ++ ys)) else none
  | _, _ => none
def gAddL : D → D → Option D
  | .lst xs, .lst ys => if xs.length + ys.length ≤ sizeLine then some (.lst (xs ++ ys)) else none
  | _, _ => none
theorem o_addI : Op2 X (binaryOp .Add) gAddI := op2_i0 op_add fun _ _ _ => by rw [rp_int]
theorem o_addS : Op2 X (binaryOp .Add) gAddS := by
  intro H F x y d1 d2 d s r1 r2 e
  unfold gAddS at e
  split at e
  · split at e
    · rename_i hz
      cases e
      rw [rq_str] at r1 r2
      exact ⟨_, op_add_str, fun Q q => ⟨_, _, r1, r2, hz, q H F _ Al.refl (by rw [rp_str])⟩⟩
    · cases e
  · cases e
theorem o_addT : Op2 X (binaryOp .Add) gAddT := by
  intro H F x y d1 d2 d s r1 r2 e
  unfold gAddT at e
  split at e
  · split at e
    · rename_i ds es hz
      cases e
      rw [rq_tup] at r1 r2
      obtain ⟨a, xs, rfl, q1, l1⟩ := r1
      obtain ⟨b, ys, rfl, q2, l2⟩ := r2
      have hT : ∀ p, H p = none → Rp X.K X.mg (upd F p (.tup (xs ++ ys))) (.tup (ds ++ es)) (.ref p) := fun p hp => by
        rw [rp_tup]
        exact ⟨p, _, rfl, upd_same, RpL.mono (same_upd (s.free hp)) _ _ (l1.append l2)⟩
      refine ⟨_, op_catA, fun Q q => ⟨a, b, xs, ys, rfl, rfl, seqT_mono s q1, seqT_mono s q2, by rw [← l1.len, ← l2.len]; exact hz, fun e0 => ?_, fun _ e0 => ?_, fun _ _ p hp => q _ _ _ (Al.one hp) (hT p hp)⟩⟩
      · subst e0
        have e1 : ds = [] := List.length_eq_zero_iff.mp (by rw [l1.len]; rfl)
        subst e1
        refine q H F _ Al.refl ?_
        rw [rp_tup]
        exact ⟨b, ys, rfl, q2, l2⟩
      · subst e0
        have e1 : es = [] := List.length_eq_zero_iff.mp (by rw [l2.len]; rfl)
        subst e1
        rw [List.append_nil] at q
        refine q H F _ Al.refl ?_
        rw [rp_tup]
        exact ⟨a, xs, rfl, q1, l1⟩
    · cases e
  · cases e
theorem o_addL : Op2 X (binaryOp .Add) gAddL := by
  intro H F x y d1 d2 d s r1 r2 e
  unfold gAddL at e
  split at e
  · split at e
    · rename_i ds es hz
      cases e
      obtain ⟨a, xs, rfl, q1, l1⟩ := r1
      obtain ⟨b, ys, rfl, q2, l2⟩ := r2
      refine ⟨_, op_cat, fun Q q => ⟨a, b, xs, ys, rfl, rfl, q1, q2, by rw [← l1.len, ← l2.len]; exact hz, fun p hp => q _ _ _ (Al.one hp) ?_⟩⟩
      rw [rp_lst]
      exact ⟨p, _, rfl, upd_same, RpL.mono (same_upd (s.free hp)) _ _ (l1.append l2)⟩
    · cases e
  · cases e
def gAdd : D → D → Option D := fun a b => (gAddI a b).or ((gAddS a b).or ((gAddT a b).or (gAddL a b)))
theorem o_add : Op2 X (binaryOp .Add) gAdd := o_addI.or (o_addS.or (o_addT.or o_addL))
mutual
def toP : D → Option PyData
  | .non => some .none
  | .bl b => some (.bool b)
  | .int i => some (.int i)
  | .str x => some (.str x)
  | .lst ds => (toPL ds).map PyData.list
  | .tup ds => (toPL ds).map PyData.tuple
  | _ => none
def toPL : List D → Option (List PyData)
  | [] => some []
  | d :: ds => (toP d).bind fun p => (toPL ds).map fun ps => p :: ps
end
section
variable {K : PySem.W.Frag} {mg : Str → Option Value} {F H : Hp}
mutual
theorem Rp.dp (s : Same F H) : ∀ (d : D) (v : V) (p : PyData), toP d = some p → Rp K mg F d v → Dp K H v p
  | .non, v, p, e, h => by rw [rp_non] at h; subst h; simp only [toP, Option.some.injEq] at e; subst e; exact .non
  | .bl b, v, p, e, h => by rw [rp_bl] at h; subst h; simp only [toP, Option.some.injEq] at e; subst e; exact .bl b
  | .int i, v, p, e, h => by rw [rp_int] at h; subst h; simp only [toP, Option.some.injEq] at e; subst e; exact .int i
  | .str x, v, p, e, h => by rw [rp_str] at h; subst h; simp only [toP, Option.some.injEq] at e; subst e; exact .str x
  | .lst ds, v, p, e, h => by
    rw [rp_lst] at h
    obtain ⟨a, xs, rfl, q, l⟩ := h
    simp only [toP, Option.map_eq_some_iff] at e
    obtain ⟨ps, e, rfl⟩ := e
    exact .lst (SqL.of (s _ _ q)) (RpL.dp s ds xs ps e l)
  | .tup ds, v, p, e, h => by
    rw [rp_tup] at h
    obtain ⟨a, xs, rfl, q, l⟩ := h
    simp only [toP, Option.map_eq_some_iff] at e
    obtain ⟨ps, e, rfl⟩ := e
    exact .tup (seqT_mono s q) (RpL.dp s ds xs ps e l)
  | .byt _, v, p, e, h => by simp [toP] at e
  | .dk _, v, p, e, h => by simp [toP] at e
  | .dt _, v, p, e, h => by simp [toP] at e
  | .obj _ _, v, p, e, h => by simp [toP] at e
  | .scr _, v, p, e, h => by simp [toP] at e
  | .ct _, v, p, e, h => by simp [toP] at e
theorem RpL.dp (s : Same F H) : ∀ (ds : List D) (xs : List V) (ps : List PyData), toPL ds = some ps → RpL K mg F ds xs → DpAll K H xs ps
  | [], xs, ps, e, h => by rw [rl_nil] at h; subst h; simp only [toPL, Option.some.injEq] at e; subst e; exact .nil
  | d :: ds, xs, ps, e, h => by
    rw [rl_cons] at h
    obtain ⟨v, vs, rfl, r, l⟩ := h
    simp only [toPL, Option.bind_eq_some_iff, Option.map_eq_some_iff] at e
    obtain ⟨p, e1, qs, e2, rfl⟩ := e
    exact .cons (Rp.dp s d v p e1 r) (RpL.dp s ds vs qs e2 l)
end
theorem Rq.dp (s : Same F H) {d : D} {v : V} {p : PyData} (e : toP d = some p) (h : Rq K mg H F d v) : Dp K H v p := by
  cases d with
  | lst ds =>
    obtain ⟨a, xs, rfl, q, l⟩ := h
    simp only [toP, Option.map_eq_some_iff] at e
    obtain ⟨ps, e, rfl⟩ := e
    exact .lst (SqL.of q) (RpL.dp s ds xs ps e l)
  | dk ds => simp [toP] at e
  | dt ds => simp [toP] at e
  | obj c fs => simp [toP] at e
  | dl ks => simp [toP] at e
  | _ => exact Rp.dp (mg := mg) s _ _ _ e h
end
def eqS : D → D → Option Bool
  | .int i, .int j => some (decide (i = j))
  | .str i, .str j => some (decide (i = j))
  | .bl i, .bl j => some (decide (i = j))
  | .non, .non => some true
  | .byt i, .byt j => some (decide (i = j))
  | _, _ => none
def eqDeep (a b : D) : Option Bool := match toP a, toP b with
  | some p, some q => if (SeqAt.shaped p && SeqAt.shaped q) = true then some (PyData.eqv p q) else none
  | _, _ => none
def dEq (a b : D) : Option Bool := (eqS a b).or (eqDeep a b)
def gEq (a b : D) : Option D := (dEq a b).map D.bl
def gNe (a b : D) : Option D := (dEq a b).map fun k => D.bl (!k)
theorem eqS_ok {K : PySem.W.Frag} {mg : Str → Option Value} {F H : Hp} {d1 d2 : D} {x y : V} {k : Bool} (r1 : Rq K mg H F d1 x) (r2 : Rq K mg H F d2 y) (e : eqS d1 d2 = some k) : scal x y = true ∧ decide (x = y) = k := by
  unfold eqS at e
  split at e
  · rw [rq_int] at r1 r2; subst r1 r2; cases e; exact ⟨rfl, by simp⟩
  · rw [rq_str] at r1 r2; subst r1 r2; cases e; exact ⟨rfl, by simp⟩
  · rw [rq_bl] at r1 r2; subst r1 r2; cases e; exact ⟨rfl, by simp⟩
  · rw [rq_non] at r1 r2; subst r1 r2; cases e; exact ⟨rfl, by simp⟩
  · rw [rq_byt] at r1 r2; subst r1 r2; cases e; exact ⟨rfl, by simp⟩
  · cases e
theorem eqDeep_ok {K : PySem.W.Frag} {mg : Str → Option Value} {F H : Hp} (s : Same F H) {d1 d2 : D} {x y : V} {k : Bool} (r1 : Rq K mg H F d1 x) (r2 : Rq K mg H F d2 y) (e : eqDeep d1 d2 = some k) : ∃ p q, Dp K H x p ∧ Dp K H y q ∧ SeqAt.shaped p = true ∧ SeqAt.shaped q = true ∧ PyData.eqv p q = k := by
  unfold eqDeep at e
  split at e
  · rename_i p q e1 e2
    split at e
    · rename_i hs
      rw [Bool.and_eq_true] at hs
      exact ⟨p, q, Rq.dp s e1 r1, Rq.dp s e2 r2, hs.1, hs.2, by cases e; rfl⟩
    · cases e
  · cases e
theorem o_eq (hu : X.A.units + 64 < cLine) : Op2 X (compareOp .Eq) gEq := by
  intro H F x y d1 d2 d s r1 r2 e
  simp only [gEq, Option.map_eq_some_iff] at e
  obtain ⟨k, e, rfl⟩ := e
  unfold dEq at e
  cases q : eqS d1 d2 with
  | some k' =>
    rw [q, Option.some_or] at e; cases e
    obtain ⟨h1, h2⟩ := eqS_ok r1 r2 q
    exact ⟨_, op_eq, fun Q q => ⟨h1, by rw [h2]; exact q H F _ Al.refl (by rw [rp_bl])⟩⟩
  | none =>
    rw [q, Option.none_or] at e
    obtain ⟨p, q, h1, h2, h3, h4, h5⟩ := eqDeep_ok s r1 r2 e
    exact ⟨_, op_eqD hu, fun Q qq => ⟨p, q, h1, h2, h3, h4, by rw [h5]; exact qq H F _ Al.refl (by rw [rp_bl])⟩⟩
theorem o_ne (hu : X.A.units + 64 < cLine) : Op2 X (compareOp .NotEq) gNe := by
  intro H F x y d1 d2 d s r1 r2 e
  simp only [gNe, Option.map_eq_some_iff] at e
  obtain ⟨k, e, rfl⟩ := e
  unfold dEq at e
  cases q : eqS d1 d2 with
  | some k' =>
    rw [q, Option.some_or] at e; cases e
    obtain ⟨h1, h2⟩ := eqS_ok r1 r2 q
    exact ⟨_, op_ne, fun Q q => ⟨h1, by rw [h2]; exact q H F _ Al.refl (by rw [rp_bl])⟩⟩
  | none =>
    rw [q, Option.none_or] at e
    obtain ⟨p, q, h1, h2, h3, h4, h5⟩ := eqDeep_ok s r1 r2 e
    exact ⟨_, op_neD hu, fun Q qq => ⟨p, q, h1, h2, h3, h4, by rw [h5]; exact qq H F _ Al.refl (by rw [rp_bl])⟩⟩
def dInts : List D → Option (List Int)
  | [] => some []
  | .int i :: ds => (dInts ds).map fun ns => i :: ns
  | _ => none
theorem dInts_eq : ∀ {ds : List D} {ns : List Int}, dInts ds = some ns → ds = ns.map D.int
  | [], ns, h => by simp only [dInts, Option.some.injEq] at h; subst h; rfl
  | .int i :: ds, ns, h => by
    simp only [dInts, Option.map_eq_some_iff] at h
    obtain ⟨ms, h, rfl⟩ := h
    rw [dInts_eq h]; rfl
  | .non :: _, _, h => by simp [dInts] at h
  | .bl _ :: _, _, h => by simp [dInts] at h
  | .str _ :: _, _, h => by simp [dInts] at h
  | .byt _ :: _, _, h => by simp [dInts] at h
  | .lst _ :: _, _, h => by simp [dInts] at h
  | .tup _ :: _, _, h => by simp [dInts] at h
  | .dk _ :: _, _, h => by simp [dInts] at h
  | .dt _ :: _, _, h => by simp [dInts] at h
  | .obj _ _ :: _, _, h => by simp [dInts] at h
  | .scr _ :: _, _, h => by simp [dInts] at h
  | .ct _ :: _, _, h => by simp [dInts] at h
def gLtT : D → D → Option D
  | .tup xs, .tup ys => match dInts xs, dInts ys with
    | some ns, some ms => some (.bl (HT.lexLt ns ms))
    | _, _ => none
  | _, _ => none
theorem o_ltT (hu : X.A.units < cLine) : Op2 X (compareOp .Lt) gLtT := by
  intro H F x y d1 d2 d s r1 r2 e
  unfold gLtT at e
  split at e
  · split at e
    · rename_i xs ys ns ms e1 e2
      cases e
      rw [rq_tup] at r1 r2
      obtain ⟨a, xs, rfl, q1, l1⟩ := r1
      obtain ⟨b, ys, rfl, q2, l2⟩ := r2
      rw [dInts_eq e1] at l1
      rw [dInts_eq e2] at l2
      have l1 := l1.ints
      have l2 := l2.ints
      subst l1 l2
      exact ⟨_, op_ltT hu, fun Q q => ⟨a, b, ns, ms, rfl, rfl, seqT_mono s q1, seqT_mono s q2, q H F _ Al.refl (by rw [rp_bl])⟩⟩
    · cases e
  · cases e
def isNon : D → Bool
  | .non => true
  | _ => false
end
section
variable {X : Cx} {T : Pn} {W : WX} {pos : Pos} {a b c : Expr} {ma mb mc : M D}
def mIsN (m : M D) : M D := bnd m fun d => ret (.bl (isNon d))
def mNotN (m : M D) : M D := bnd m fun d => ret (.bl (!isNon d))
def m1 (g : D → Option D) (m : M D) : M D := bnd m fun d => opt (g d)
def gNeg : D → Option D
  | .int i => some (.int (-i))
  | _ => none
theorem jv_neg (ha : JV X T W a ma) : JV X T W (.UnaryOp .USub a pos) (m1 gNeg ma) := by
  refine PEimp (pe_un un_neg ha) fun σ H Q ⟨e, F, er, h⟩ => ⟨e, F, er, h.bind.mono fun d e1 H1 F1 er1 mv1 h1 v hv => ?_⟩
  obtain ⟨z, hz, fin⟩ := h1.fin er1
  cases d <;> cases hz
  rw [rp_int] at hv
  exact ⟨_, hv, fin H1 F1 Al.refl _ (by rw [rp_int])⟩
def Cal (X : Cx) (f : Value) (g : List D → Option D) : Prop :=
  ∀ (H F : Hp) (xs : List V) (ds : List D) (d : D), Same F H → RpL X.K X.mg F ds xs → g ds = some d →
    ∃ r, CallR X f r ∧ ∀ Q : VK, (∀ H' F' z, Al H F H' F' → Rp X.K X.mg F' d z → Q z H') → r xs H Q
def Cal1 (X : Cx) (f : Value) (g : D → Option D) : Prop :=
  ∀ (H F : Hp) (x : V) (d d' : D), Same F H → Rq X.K X.mg H F d x → g d = some d' →
    ∃ r, CallR X f r ∧ ∀ Q : VK, (∀ H' F' z, Al H F H' F' → Rp X.K X.mg F' d' z → Q z H') → r [x] H Q
def rAnyC (X : Cx) (f : Value) : List V → Hp → VK → Prop := fun xs H Q => ∃ r, CallR X f r ∧ r xs H Q
theorem callAny {f : Value} : CallR X f (rAnyC X f) := fun pins s σ H xs us Q I rx ⟨r, hr, q⟩ => hr pins s σ H xs us Q I rx q
def mCal (g : List D → Option D) (ms : M (List D)) : M D := bnd ms fun ds => opt (g ds)
def mCal1 (g : D → Option D) (m : M Bv) : M D := bnd m fun b => bnd (der b) fun d => opt (g d)
theorem runCal {f : Value} {g : List D → Option D} {ms : M (List D)} {σ : St} {H : Hp} {Q : VK} (hc : Cal X f g) (h : TV X.K X.mg T W (mCal g ms) σ H Q) : TAs X.K X.mg T W ms σ H fun vs H1 => rAnyC X f vs H1 Q := by
  obtain ⟨e, F, er, h⟩ := h
  refine ⟨e, F, er, h.bind.mono fun ds e1 H1 F1 er1 mv1 h1 vs hvs => ?_⟩
  obtain ⟨z, hz, fin⟩ := h1.fin er1
  obtain ⟨r, hr, q⟩ := hc H1 F1 vs ds z er1.sub hvs hz
  exact ⟨r, hr, q Q fun H' F' z al hz => fin H' F' al z hz⟩
theorem runCal1 {f : Value} {g : D → Option D} {m : M Bv} {σ : St} {H : Hp} {Q : VK} (hc : Cal1 X f g) (h : TV X.K X.mg T W (mCal1 g m) σ H Q) : TBw X.K X.mg T W m σ H fun v H1 => rAnyC X f [v] H1 Q := by
  obtain ⟨e, F, er, h⟩ := h
  refine ⟨e, F, er, h.bind.mono fun b e1 H1 F1 er1 mv1 h1 v hv => ?_⟩
  obtain ⟨d, r1, h3⟩ := der_fin h1.bind er1 hv
  obtain ⟨z, hz, fin⟩ := h3.fin er1
  obtain ⟨r, hr, q⟩ := hc H1 F1 v d z er1.sub r1 hz
  exact ⟨r, hr, q Q fun H' F' z al hz => fin H' F' al z hz⟩
section
variable {x : Str} {p : Pos} {e : Expr} {es : List Expr} {id : String} {ms : M (List D)} {g : List D → Option D} {g1 : D → Option D} {mb1 : M Bv}
theorem jv_callB (hc : Cal X (.builtin id) g) (hg : Gl X x) (hm : X.mg x = none) (hv : bootBuiltins x = some (.builtin id)) (ha : JA X T W (e :: es) ms) (hn : x ≠ "__name__" := by decide) (hdb : (x == ("__debug__" : Str)) = false := by decide)
    (he : starEach (e :: es) X.env = (false, eval e X.env) :: starEach es X.env := by rfl) (hpl : (backTo pos (starEach es X.env)).any (·.1) = false := by rfl) : JV X T W (.Call (.Name x p) (e :: es) [] pos) (mCal g ms) :=
  PEimp (pe_callB callAny hg hm hv ha hn hdb he hpl) fun σ H Q h => runCal hc h
theorem jv_callTy (hc : Cal X (.type id) g) (hg : Gl X x) (hm : X.mg x = none) (hv : bootBuiltins x = some (.type id)) (ha : JA X T W (e :: es) ms) (hn : x ≠ "__name__" := by decide) (hdb : (x == ("__debug__" : Str)) = false := by decide)
    (he : starEach (e :: es) X.env = (false, eval e X.env) :: starEach es X.env := by rfl) (hpl : (backTo pos (starEach es X.env)).any (·.1) = false := by rfl) : JV X T W (.Call (.Name x p) (e :: es) [] pos) (mCal g ms) :=
  PEimp (pe_callTy callAny hg hm hv ha hn hdb he hpl) fun σ H Q h => runCal hc h
theorem jv_callTy1 (hc : Cal1 X (.type id) g1) (hg : Gl X x) (hm : X.mg x = none) (hv : bootBuiltins x = some (.type id)) (ha : JB X T W e mb1) (hn : x ≠ "__name__" := by decide) (hdb : (x == ("__debug__" : Str)) = false := by decide)
    (he : starEach [e] X.env = (false, eval e X.env) :: starEach [] X.env := by rfl) : JV X T W (.Call (.Name x p) [e] [] pos) (mCal1 g1 mb1) :=
  PEimp (pe_callTy callAny hg hm hv (pa_cons ha pa_nil he) hn hdb he rfl) fun σ H Q h => runCal1 hc h
end
def gLen : D → Option D
  | .str y => if y.length ≤ sizeLine then some (.int y.length) else none
  | .byt y => if y.size ≤ sizeLine then some (.int y.size) else none
  | .lst ds => some (.int ds.length)
  | .tup ds => some (.int ds.length)
  | .dk ds => some (.int ds.length)
  | .scr ns => some (.int ns.length)
  | _ => none
theorem c_len : Cal1 X (.builtin "len") gLen := by
  intro H F x d d' s r e
  cases d <;> simp only [gLen, reduceCtorEq] at e
  · rw [rq_str] at r; subst r
    split at e
    · rename_i hz; cases e
      exact ⟨_, call_len, fun Q q => ⟨_, _, rfl, ⟨hz, rfl⟩, q H F _ Al.refl (by rw [rp_int])⟩⟩
    · cases e
  · rw [rq_byt] at r; subst r
    split at e
    · rename_i hz; cases e
      exact ⟨_, call_len, fun Q q => ⟨_, _, rfl, ⟨hz, rfl⟩, q H F _ Al.refl (by rw [rp_int])⟩⟩
    · cases e
  · obtain ⟨a, xs, rfl, q, l⟩ := r
    cases e
    exact ⟨_, call_len, fun Q qq => ⟨_, _, rfl, .inl ⟨xs, SqL.of q, rfl⟩, qq H F _ Al.refl (by rw [rp_int, l.len])⟩⟩
  · rw [rq_tup] at r
    obtain ⟨a, xs, rfl, q, l⟩ := r
    cases e
    exact ⟨_, call_len, fun Q qq => ⟨_, _, rfl, .inr ⟨xs, seqT_mono s q, rfl⟩, qq H F _ Al.refl (by rw [rp_int, l.len])⟩⟩
  · obtain ⟨a, xs, rfl, q, l⟩ := r
    cases e
    exact ⟨_, call_lenD, fun Q qq => ⟨a, xs, rfl, q, qq H F _ Al.refl (by rw [rp_int, l.len])⟩⟩
  · rw [rq_scr] at r
    obtain ⟨a, rfl, q⟩ := r
    cases e
    exact ⟨_, call_len, fun Q qq => ⟨_, _, rfl, .inl ⟨_, s.seq q, rfl⟩, qq H F _ Al.refl (by rw [rp_int, List.length_map])⟩⟩
def gInt1 : List D → Option D
  | [.int i] => some (.int i)
  | [.bl k] => some (.int (if k then 1 else 0))
  | _ => none
theorem rl_one {K : PySem.W.Frag} {mg : Str → Option Value} {F : Hp} {d : D} {xs : List V} (h : RpL K mg F [d] xs) : ∃ v, xs = [v] ∧ Rp K mg F d v := by
  rw [rl_cons] at h
  obtain ⟨v, vs, rfl, r, h⟩ := h
  rw [rl_nil] at h; subst h
  exact ⟨v, rfl, r⟩
theorem rl_two {K : PySem.W.Frag} {mg : Str → Option Value} {F : Hp} {d d' : D} {xs : List V} (h : RpL K mg F [d, d'] xs) : ∃ v w, xs = [v, w] ∧ Rp K mg F d v ∧ Rp K mg F d' w := by
  rw [rl_cons] at h
  obtain ⟨v, vs, rfl, r, h⟩ := h
  obtain ⟨w, rfl, r'⟩ := rl_one h
  exact ⟨v, w, rfl, r, r'⟩
theorem c_int : Cal X (.type "int") gInt1 := by
  intro H F xs ds d s r e
  unfold gInt1 at e
  split at e
  · cases e
    obtain ⟨v, rfl, r0⟩ := rl_one r
    rw [rp_int] at r0; subst r0
    exact ⟨_, call_int1, fun Q q => .inl ⟨_, rfl, q H F _ Al.refl (by rw [rp_int])⟩⟩
  · cases e
    obtain ⟨v, rfl, r0⟩ := rl_one r
    rw [rp_bl] at r0; subst r0
    exact ⟨_, call_int1, fun Q q => .inr ⟨_, rfl, q H F _ Al.refl (by rw [rp_int])⟩⟩
  · cases e
def gMax2 : List D → Option D
  | [.int i, .int j] => some (.int (if j > i then j else i))
  | _ => none
def gMin2 : List D → Option D
  | [.int i, .int j] => some (.int (if j < i then j else i))
  | _ => none
def gAbs : List D → Option D
  | [.int i] => some (.int (if i < 0 then -i else i))
  | _ => none
theorem c_max (hc : X.calm = true) : Cal X (.builtin "max") gMax2 := by
  intro H F xs ds d s r e
  unfold gMax2 at e
  split at e
  · cases e
    obtain ⟨v, w, rfl, r0, r'⟩ := rl_two r
    rw [rp_int] at r0 r'; subst r0 r'
    exact ⟨_, call_max2 hc, fun Q q => ⟨_, _, rfl, q H F _ Al.refl (by rw [rp_int])⟩⟩
  · cases e
theorem c_min (hc : X.calm = true) : Cal X (.builtin "min") gMin2 := by
  intro H F xs ds d s r e
  unfold gMin2 at e
  split at e
  · cases e
    obtain ⟨v, w, rfl, r0, r'⟩ := rl_two r
    rw [rp_int] at r0 r'; subst r0 r'
    exact ⟨_, call_min2 hc, fun Q q => ⟨_, _, rfl, q H F _ Al.refl (by rw [rp_int])⟩⟩
  · cases e
def gIx : D → D → Option D
  | .lst ds, .int i => atI ds i
  | .tup ds, .int i => atI ds i
  | .str z, .int i => if z.length ≤ sizeLine then (atI z.cps.toList i).map fun c => .str ⟨#[c]⟩ else none
  | .scr ns, .int i => (atI ns i).map D.int
  | .ct ds, .int i => atI ds i
  | _, _ => none
theorem RpL.atI {K : PySem.W.Frag} {mg : Str → Option Value} {F : Hp} {ds : List D} {xs : List V} {i : Int} {d : D} (l : RpL K mg F ds xs) (h : L2.atI ds i = some d) : ∃ v, L2.atI xs i = some v ∧ Rp K mg F d v := by
  unfold L2.atI at h ⊢
  rw [← l.len]
  cases q : ixN ds.length i with
  | none => rw [q] at h; cases h
  | some j => rw [q] at h; exact l.get h
theorem atI_map {A B : Type} (f : A → B) (xs : List A) (i : Int) : L2.atI (xs.map f) i = (L2.atI xs i).map f := by
  unfold L2.atI
  rw [List.length_map]
  cases ixN xs.length i with
  | none => rfl
  | some j => simp
theorem ix_data {H F : Hp} {d1 d2 d : D} {x y : V} (s : Same F H) (r1 : Rq X.K X.mg H F d1 x) (r2 : Rq X.K X.mg H F d2 y) (e : gIx d1 d2 = some d) (Q : VK) (q : ∀ z, Rp X.K X.mg F d z → Q z H) : L2.rIx X.K x y H Q := by
  unfold gIx at e
  split at e
  · obtain ⟨a, xs, rfl, h, l⟩ := r1
    rw [rq_int] at r2
    obtain ⟨v, h1, h2⟩ := l.atI e
    exact .inl ⟨a, xs, _, v, rfl, r2, SqL.of h, h1, q v h2⟩
  · rw [rq_tup] at r1
    obtain ⟨a, xs, rfl, h, l⟩ := r1
    rw [rq_int] at r2
    obtain ⟨v, h1, h2⟩ := l.atI e
    exact .inr (.inl ⟨a, xs, _, v, rfl, r2, seqT_mono s h, h1, q v h2⟩)
  · split at e
    · rename_i hz
      rw [Option.map_eq_some_iff] at e
      obtain ⟨c, e, rfl⟩ := e
      rw [rq_str] at r1
      rw [rq_int] at r2
      exact .inr (.inr ⟨_, _, c, r1, r2, hz, e, q _ (by rw [rp_str])⟩)
    · cases e
  · rw [rq_scr] at r1
    obtain ⟨a, rfl, h⟩ := r1
    rw [rq_int] at r2
    rw [Option.map_eq_some_iff] at e
    obtain ⟨n, e, rfl⟩ := e
    exact .inl ⟨a, _, _, .int n, rfl, r2, s.seq h, by rw [atI_map, e]; rfl, q _ (by rw [rp_int])⟩
  · rw [rq_ct] at r1
    obtain ⟨a, xs, rfl, h, l⟩ := r1
    rw [rq_int] at r2
    obtain ⟨v, h1, h2⟩ := l.atI e
    exact .inr (.inl ⟨a, xs, _, v, rfl, r2, seqC_mono s h, h1, q v h2⟩)
  · cases e
theorem jv_ixB {m1 : M Bv} (ha : JB X T W a m1) (hb : JV X T W b mb) (hs : PlainIx b := by intro _ _; rfl) : JV X T W (.Subscript a b pos) (m2b gIx m1 mb) := by
  refine PEimp (pe_ix ix_seq ha hb hs) fun σ H Q ⟨e, F, er, h⟩ => ⟨e, F, er, h.bind.mono fun b1 e1 H1 F1 er1 mv1 h1 v hv => ⟨e1, F1, er1, h1.bind.mono fun d2 e2 H2 F2 er2 mv2 h2 w hw => ?_⟩⟩
  obtain ⟨d1, r1, h3⟩ := der_fin h2.bind er2 (hv.mono mv2.sub)
  obtain ⟨d, hd, fin⟩ := h3.fin er2
  exact ix_data er2.sub r1 (Rp.rq er2.sub hw) hd Q fun z hz => fin H2 F2 Al.refl z hz
theorem jv_ix (ha : JV X T W a ma) (hb : JV X T W b mb) (hs : PlainIx b := by intro _ _; rfl) : JV X T W (.Subscript a b pos) (m2 gIx ma mb) := by
  refine PEimp (pe_ix ix_seq ha hb hs) fun σ H Q ⟨e, F, er, h⟩ => ⟨e, F, er, h.bind.mono fun d1 e1 H1 F1 er1 mv1 h1 v hv => ⟨e1, F1, er1, h1.bind.mono fun d2 e2 H2 F2 er2 mv2 h2 w hw => ?_⟩⟩
  obtain ⟨d, hd, fin⟩ := h2.fin er2
  exact ix_data er2.sub (Rp.rq er2.sub (Rp.mono mv2.sub _ _ hv)) (Rp.rq er2.sub hw) hd Q fun z hz => fin H2 F2 Al.refl z hz
end
end Sr
namespace Sr
variable [TabL]
open PySem PySem.Spec L2
open PyProof.Rows hiding St
section
variable (K : PySem.W.Frag) (mg : Str → Option Value) (T : Pn) (W : WX)
def TSt (s : M Fl) : TS := fun Dn σ H => ∃ e F, ER K mg T e σ H F ∧ RunS K mg T W e F s σ H Dn
end
abbrev JS (X : Cx) (T : Pn) (W : WX) (st : Stmt) (m : M Fl) : Prop := PS X st (TSt X.K X.mg T W m)
abbrev JSs (X : Cx) (T : Pn) (W : WX) (st : List Stmt) (m : M Fl) : Prop := PSs X st (TSt X.K X.mg T W m)
theorem PSimp {X : Cx} {e : Stmt} {t t' : TS} (h : PS X e t) (k : ∀ D σ H, t' D σ H → t D σ H) : PS X e t' := ⟨fun pins s σ H D I q => h.run pins s σ H D I (k D σ H q)⟩
theorem PSsimp {X : Cx} {e : List Stmt} {t t' : TS} (h : PSs X e t) (k : ∀ D σ H, t' D σ H → t D σ H) : PSs X e t' := ⟨fun pins s σ H D I q => h.run pins s σ H D I (k D σ H q)⟩
section
variable {K : PySem.W.Frag} {mg : Str → Option Value} {T : Pn} {W : WX} {e e1 : En} {σ σ1 : St} {H F H1 F1 : Hp} {A : Type}
theorem Mv.newO (mv : Mv e σ H F e1 σ1 H1 F1) {p : Addr} (h : H1 p = none ∨ Ow e1 σ1 p) : H p = none ∨ Ow e σ p := by
  rcases h with h | h
  · exact .inl (mv.there p h)
  · cases q : H p with
    | none => exact .inl rfl
    | some o =>
      by_cases w : Ow e σ p
      · exact .inr w
      · exact absurd h (mv.keep p o q w).2
theorem RunS.after {s s' : M Fl} {Dn : Ends} (h : RunS K mg T W e F s σ H Dn) (hs : s e = s' e1) (mv : Mv e σ H F e1 σ1 H1 F1) : RunS K mg T W e1 F1 s' σ1 H1 Dn := by
  unfold RunS at h ⊢
  rw [hs] at h
  cases q : s' e1 with
  | ok fl e2 =>
    rw [q] at h
    cases fl with
    | nx => exact fun σ' H' F' er mv' => h σ' H' F' er (mv.trans mv')
    | rt d => exact fun σ' H' F' v er mv' => h σ' H' F' v er (mv.trans mv')
    | ro d => exact fun σ' H' F' p er mv' hp => h σ' H' F' p er (mv.trans mv') (mv.newO hp)
    | bk => exact fun σ' H' F' er mv' => h σ' H' F' er (mv.trans mv')
    | ct => exact fun σ' H' F' er mv' => h σ' H' F' er (mv.trans mv')
  | exc x e2 => rw [q] at h; exact fun σ' H' F' cl dd er mv' => h σ' H' F' cl dd er (mv.trans mv')
  | bad => rw [q] at h; exact h
theorem RunS.bind {m : M A} {f : A → M Fl} {Dn : Ends} (h : RunS K mg T W e F (bnd m f) σ H Dn) : RunAt K mg T W e F m σ H fun a e1 H1 F1 => RunS K mg T W e1 F1 (f a) σ H1 Dn := by
  unfold RunAt
  cases q : m e with
  | ok a e1 =>
    intro H1 F1 er1 mv1
    exact h.after (by unfold bnd; rw [q]) mv1
  | exc x e1 =>
    unfold RunS bnd at h
    rw [q] at h
    exact fun H' F' cl dd er mv xr => h σ H' F' cl dd er mv xr
  | bad => unfold RunS bnd at h; rw [q] at h; exact h
end
section
variable {X : Cx} {T : Pn} {W : WX} {pos : Pos} {a b c : Expr} {ma mb mc : M D} {st : Stmt} {rest sa sb : List Stmt} {s u : M Fl}
def skp : M Fl := ret .nx
def sq (s u : M Fl) : M Fl := fun e => match s e with
  | .ok .nx e1 => u e1
  | o => o
theorem js_nil : JSs X T W [] skp := PSsimp pss_nil fun D σ H ⟨e, F, er, h⟩ => h σ H F er Mv.refl
theorem js_cons (h1 : JS X T W st s) (h2 : JSs X T W rest u) : JSs X T W (st :: rest) (sq s u) := by
  refine PSsimp (pss_cons h1 h2) fun D σ H ⟨e, F, er, h⟩ => ⟨e, F, er, ?_⟩
  unfold RunS
  cases q : s e with
  | ok fl e1 =>
    cases fl with
    | nx => exact fun σ' H' F' er' mv => ⟨e1, F', er', h.after (by unfold sq; rw [q]) mv⟩
    | rt d => unfold RunS sq at h; rw [q] at h; exact h
    | ro d => unfold RunS sq at h; rw [q] at h; exact h
    | bk => unfold RunS sq at h; rw [q] at h; exact h
    | ct => unfold RunS sq at h; rw [q] at h; exact h
  | exc x e1 => unfold RunS sq at h; rw [q] at h; exact h
  | bad => unfold RunS sq at h; rw [q] at h; exact h
theorem js_one (h1 : JS X T W st s) : JSs X T W [st] s := pss_one h1
def sDrop (m : M D) : M Fl := bnd m fun _ => skp
theorem js_expr (ha : JV X T W a ma) (hs : swapsWith a none pos.line X.env = pure false := by rfl) : JS X T W (.Expr a pos) (sDrop ma) :=
  PSimp (ps_expr ha hs) fun D σ H ⟨e, F, er, h⟩ => ⟨e, F, er, h.bind.mono fun d e1 H1 F1 er1 mv1 h1 v hv => h1 σ H1 F1 er1 Mv.refl⟩
def sRet (m : M D) : M Fl := bnd m fun d => ret (.rt d)
def sRetO (m : M D) : M Fl := bnd m fun d => ret (.ro d)
theorem js_ret (ha : JV X T W a ma) : JS X T W (.Return (some a) pos) (sRet ma) :=
  PSimp (ps_ret ha) fun D σ H ⟨e, F, er, h⟩ => ⟨e, F, er, h.bind.mono fun d e1 H1 F1 er1 mv1 h1 v hv => h1 σ H1 F1 v er1 Mv.refl hv⟩
theorem js_retO (ha : JO X T W a ma) : JS X T W (.Return (some a) pos) (sRetO ma) :=
  PSimp (ps_ret ha) fun D σ H ⟨e, F, er, h⟩ => ⟨e, F, er, by
    unfold RunAt
    cases q : ma e with
    | ok d e1 =>
      intro H1 F1 er1 mv1 p hp fp np ow
      unfold RunS sRetO bnd ret at h
      rw [q] at h
      exact h σ H1 F1 p er1 mv1 (.inl hp) fp np ow
    | exc x e1 => unfold RunS sRetO bnd at h; rw [q] at h; exact fun H' F' cl dd er mv xr => h σ H' F' cl dd er mv xr
    | bad => unfold RunS sRetO bnd at h; rw [q] at h; exact h⟩
def sIf (n : M Bool) (s u : M Fl) : M Fl := bnd n fun k => if k = true then s else u
theorem js_if {n : M Bool} (hc : JT X T W c n) (ha : JSs X T W sa s) (hb : JSs X T W sb u) : JS X T W (.If c sa sb pos) (sIf n s u) := by
  refine PSimp (ps_if hc ha hb) fun D σ H ⟨e, F, er, h⟩ => ⟨e, F, er, h.bind.mono fun k e1 H1 F1 er1 mv1 h1 => ?_⟩
  cases k with
  | true => rw [if_pos rfl] at h1 ⊢; exact ⟨e1, F1, er1, h1⟩
  | false => rw [if_neg (by decide)] at h1 ⊢; exact ⟨e1, F1, er1, h1⟩
theorem ER.setV {K : PySem.W.Frag} {mg : Str → Option Value} {e : En} {σ : St} {H F : Hp} {i : Nat} {d : D} {v : V} (er : ER K mg T e σ H F) (hT : NoP T i) (r : Rp K mg F d v) :
    ER K mg T (e.set i (.val d)) (σ.set i (some v)) H F ∧ Mv e σ H F (e.set i (.val d)) (σ.set i (some v)) H F := by
  have ow : ∀ (j : Nat) (x : D), (e.set i (Sl.val d))[j]? = some (.own x) → e[j]? = some (.own x) ∧ j ≠ i := fun j x q => by
    by_cases hj : j = i
    · subst hj
      by_cases hl : j < e.length
      · rw [List.getElem?_set_self hl] at q; cases q
      · rw [List.getElem?_eq_none (by rw [List.length_set]; omega)] at q; cases q
    · rw [List.getElem?_set_ne (Ne.symm hj)] at q; exact ⟨q, hj⟩
  refine ⟨⟨er.sub, fun j x q => ?_, fun j x q => ?_, fun j k p x y q1 q2 q3 q4 => ?_, by rw [List.length_set, List.length_set]; exact er.len, fun p hp => ?_, er.tb⟩, Same.refl _, fun a o q n => ⟨fun _ => q, ?_⟩, fun a o q => .inl q, fun a q => q⟩
  · by_cases hj : j = i
    · subst hj
      by_cases hl : j < e.length
      · rw [List.getElem?_set_self hl] at q; cases q
        exact ⟨v, List.getElem?_set_self (by rw [← er.len]; exact hl), r⟩
      · rw [List.getElem?_eq_none (by rw [List.length_set]; omega)] at q; cases q
    · rw [List.getElem?_set_ne (Ne.symm hj)] at q
      obtain ⟨w, h1, h2⟩ := er.val j x q
      exact ⟨w, by rw [List.getElem?_set_ne (Ne.symm hj)]; exact h1, h2⟩
  · obtain ⟨q, hj⟩ := ow j x q
    obtain ⟨p, h1, h2, h3⟩ := er.own j x q
    exact ⟨p, by rw [List.getElem?_set_ne (Ne.symm hj)]; exact h1, h2, h3⟩
  · obtain ⟨q1, hj⟩ := ow j x q1
    obtain ⟨q2, hk⟩ := ow k y q2
    rw [List.getElem?_set_ne (Ne.symm hj)] at q3
    rw [List.getElem?_set_ne (Ne.symm hk)] at q4
    exact er.inj j k p x y q1 q2 q3 q4
  · rw [List.getElem?_set_ne (Ne.symm (hT p hp))]; exact er.pin p hp
  · rintro ⟨j, x, q1, q2⟩
    obtain ⟨q1, hj⟩ := ow j x q1
    rw [List.getElem?_set_ne (Ne.symm hj)] at q2
    exact n ⟨j, x, q1, q2⟩
theorem ER.setO {K : PySem.W.Frag} {mg : Str → Option Value} {e : En} {σ : St} {H F H0 : Hp} {i : Nat} {d : D} {p : Addr} (er : ER K mg T e σ H F) (hT : NoP T i) (fp : F p = none) (np : ¬ Ow e σ p) (ow : OwnAt K mg H F p d) :
    ER K mg T (e.set i (.own d)) (σ.set i (some (.ref p))) H F ∧ ∀ {e0 : En} {σ0 : St} {F0 : Hp}, H0 p = none → Mv e0 σ0 H0 F0 e σ H F → Mv e0 σ0 H0 F0 (e.set i (.own d)) (σ.set i (some (.ref p))) H F := by
  have own : ∀ (j : Nat) (x : D), (e.set i (Sl.own d))[j]? = some (.own x) → (j ≠ i ∧ e[j]? = some (.own x)) ∨ (j = i ∧ x = d ∧ i < e.length) := fun j x q => by
    by_cases hj : j = i
    · subst hj
      by_cases hl : j < e.length
      · rw [List.getElem?_set_self hl] at q; cases q; exact .inr ⟨rfl, rfl, hl⟩
      · rw [List.getElem?_eq_none (by rw [List.length_set]; omega)] at q; cases q
    · rw [List.getElem?_set_ne (Ne.symm hj)] at q; exact .inl ⟨hj, q⟩
  refine ⟨⟨er.sub, fun j x q => ?_, fun j x q => ?_, fun j k p' x y q1 q2 q3 q4 => ?_, by rw [List.length_set, List.length_set]; exact er.len, fun p hp => ?_, er.tb⟩, fun {e0 σ0 F0} hp mv => ⟨mv.sub, fun a o q n => ?_, mv.new, mv.there⟩⟩
  · have hj : j ≠ i := by
      rintro rfl
      by_cases hl : j < e.length
      · rw [List.getElem?_set_self hl] at q; cases q
      · rw [List.getElem?_eq_none (by rw [List.length_set]; omega)] at q; cases q
    rw [List.getElem?_set_ne (Ne.symm hj)] at q
    obtain ⟨w, h1, h2⟩ := er.val j x q
    exact ⟨w, by rw [List.getElem?_set_ne (Ne.symm hj)]; exact h1, h2⟩
  · rcases own j x q with ⟨hj, q⟩ | ⟨rfl, rfl, hl⟩
    · obtain ⟨p', h1, h2, h3⟩ := er.own j x q
      exact ⟨p', by rw [List.getElem?_set_ne (Ne.symm hj)]; exact h1, h2, h3⟩
    · exact ⟨p, List.getElem?_set_self (by rw [← er.len]; exact hl), fp, ow⟩
  · rcases own j x q1 with ⟨hj, w1⟩ | ⟨hj, _, hl⟩
    · rw [List.getElem?_set_ne (Ne.symm hj)] at q3
      rcases own k y q2 with ⟨hk, w2⟩ | ⟨hk, _, hl⟩
      · rw [List.getElem?_set_ne (Ne.symm hk)] at q4
        exact er.inj j k p' x y w1 w2 q3 q4
      · rw [hk, List.getElem?_set_self (by rw [← er.len]; exact hl)] at q4
        cases q4
        exact (np ⟨j, x, w1, q3⟩).elim
    · rcases own k y q2 with ⟨hk, w2⟩ | ⟨hk, _, hl2⟩
      · rw [List.getElem?_set_ne (Ne.symm hk)] at q4
        rw [hj, List.getElem?_set_self (by rw [← er.len]; exact hl)] at q3
        cases q3
        exact (np ⟨k, y, w2, q4⟩).elim
      · rw [hj, hk]
  · rw [List.getElem?_set_ne (Ne.symm (hT p hp))]; exact er.pin p hp
  · obtain ⟨h1, h2⟩ := mv.keep a o q n
    refine ⟨h1, ?_⟩
    rintro ⟨j, x, q1, q2⟩
    rcases own j x q1 with ⟨hj, q1⟩ | ⟨rfl, rfl, hl⟩
    · rw [List.getElem?_set_ne (Ne.symm hj)] at q2
      exact h2 ⟨j, x, q1, q2⟩
    · rw [List.getElem?_set_self (by rw [← er.len]; exact hl)] at q2
      cases q2
      rw [hp] at q; cases q
def sSet (i : Nat) (m : M D) : M Fl := bnd m fun d e => .ok .nx (e.set i (.val d))
def sSetO (i : Nat) (m : M D) : M Fl := bnd m fun d e => .ok .nx (e.set i (.own d))
theorem run_set {i : Nat} {Dn : Ends} {σ : St} {H : Hp} (hT : NoP T i) (h : TSt X.K X.mg T W (sSet i ma) Dn σ H) : tAsg (TV X.K X.mg T W ma) (gName i) Dn σ H := by
  obtain ⟨e, F, er, h⟩ := h
  refine ⟨e, F, er, h.bind.mono fun d e1 H1 F1 er1 mv1 h1 v hv => ?_⟩
  obtain ⟨er2, mv2⟩ := er1.setV hT hv
  exact h1 _ H1 F1 er2 mv2
theorem run_setO {i : Nat} {Dn : Ends} {σ : St} {H : Hp} (hT : NoP T i) (h : TSt X.K X.mg T W (sSetO i ma) Dn σ H) : tAsg (TO X.K X.mg T W ma) (gName i) Dn σ H := by
  obtain ⟨e, F, er, h⟩ := h
  refine ⟨e, F, er, ?_⟩
  unfold RunAt
  cases q : ma e with
  | ok d e1 =>
    intro H1 F1 er1 mv1 p hp fp np ow
    obtain ⟨er2, mv2⟩ := er1.setO (H0 := H) hT fp np ow
    unfold RunS sSetO bnd at h
    rw [q] at h
    exact h _ H1 F1 er2 (mv2 hp mv1)
  | exc x e1 => unfold RunS sSetO bnd at h; rw [q] at h; exact fun H' F' cl dd er mv xr => h σ H' F' cl dd er mv xr
  | bad => unfold RunS sSetO bnd at h; rw [q] at h; exact h
theorem js_set {i : Nat} {x : Str} {pos' : Pos} (hT : NoP T i) (hN : X.N.Nodup) (hi : X.N[i]? = some x) (hx : Loc X.env.scope x) (ha : JV X T W a ma) (hs : swapsWith a (some (.Name x pos')) pos.line X.env = pure false := by rfl) (hf : X.fn x = true ∨ X.env.scope.names.lookup x = some .local := by first | exact .inl rfl | exact .inr rfl | assumption) :
    JS X T W (.Assign [.Name x pos'] a pos) (sSet i ma) := PSimp (ps_set hN hi hx ha hs hf) fun D σ H h => run_set hT h
theorem js_setO {i : Nat} {x : Str} {pos' : Pos} (hT : NoP T i) (hN : X.N.Nodup) (hi : X.N[i]? = some x) (hx : Loc X.env.scope x) (ha : JO X T W a ma) (hs : swapsWith a (some (.Name x pos')) pos.line X.env = pure false := by rfl) (hf : X.fn x = true ∨ X.env.scope.names.lookup x = some .local := by first | exact .inl rfl | exact .inr rfl | assumption) :
    JS X T W (.Assign [.Name x pos'] a pos) (sSetO i ma) := PSimp (ps_set hN hi hx ha hs hf) fun D σ H h => run_setO hT h
def TG' (K : PySem.W.Frag) (mg : Str → Option Value) (T : Pn) (W : WX) (w : D → M Unit) : TG := fun v σ H Q => ∃ e F d, ER K mg T e σ H F ∧ Rp K mg F d v ∧
  match w d e with
  | .ok _ e' => ∀ σ' H' F', ER K mg T e' σ' H' F' → Mv e σ H F e' σ' H' F' → Q σ' H'
  | _ => False
abbrev JG (X : Cx) (T : Pn) (W : WX) (tg : Expr) (w : D → M Unit) : Prop := PG X tg (TG' X.K X.mg T W w)
def gN (i : Nat) : D → M Unit := fun d e => .ok () (e.set i (.val d))
def gsN : List D → M Unit
  | [] => ret ()
  | _ => fun _ => .bad
def gsC (w : D → M Unit) (ws : List D → M Unit) : List D → M Unit
  | d :: ds => bnd (w d) fun _ => ws ds
  | [] => fun _ => .bad
def gT (n : Nat) (ws : List D → M Unit) : D → M Unit
  | .tup ds => if ds.length = n then ws ds else fun _ => .bad
  | .ct ds => if ds.length = n then ws ds else fun _ => .bad
  | _ => fun _ => .bad
theorem jg_name {i : Nat} {x : Str} (hT : NoP T i) (hN : X.N.Nodup) (hi : X.N[i]? = some x) (hx : Loc X.env.scope x) (hf : X.fn x = true ∨ X.env.scope.names.lookup x = some .local := by first | exact .inl rfl | exact .inr rfl | assumption) : JG X T W (.Name x pos) (gN i) := by
  refine ⟨fun pins s σ H v u Q I r h => (pg_name hN hi hx hf).run pins s σ H v u Q I r ?_⟩
  obtain ⟨e, F, d, er, rd, h⟩ := h
  obtain ⟨er2, mv2⟩ := er.setV hT rd
  exact h _ H F er2 mv2
def sAsg (m : M D) (w : D → M Unit) : M Fl := bnd m fun d => bnd (w d) fun _ => skp
def NoExc (w : D → M Unit) : Prop := ∀ d e x e', w d e ≠ .exc x e'
theorem ne_name {i : Nat} : NoExc (gN i) := fun _ _ _ _ h => by cases h
def sPar (ms : M (List D)) (ws : List D → M Unit) : M Fl := bnd ms fun ds => bnd (ws ds) fun _ => skp
theorem js_par {i j : Nat} {x y : Str} {ms : M (List D)} {px py pt : Pos} {kt k2 pt2} (hT : NoP T i) (hT' : NoP T j) (hc : X.calm = true) (hN : X.N.Nodup) (hi : X.N[i]? = some x) (hj : X.N[j]? = some y) (hij : i ≠ j)
    (hx : X.env.scope.names.lookup x = some .local) (hy : X.env.scope.names.lookup y = some .local) (ha : JA X T W [a, b] ms)
    (hw : swappedStores [.Tuple [.Name x px, .Name y py] kt pt] (.Tuple [a, b] k2 pt2) X.env = pure (some [x, y]) := by rfl)
    (hs : swapsWithSole [.Tuple [.Name x px, .Name y py] kt pt] (.Tuple [a, b] k2 pt2) pos.line X.env = pure false := by rfl) :
    JS X T W (.Assign [.Tuple [.Name x px, .Name y py] kt pt] (.Tuple [a, b] k2 pt2) pos) (sPar ms (gsC (gN i) (gsC (gN j) gsN))) := by
  refine PSimp (ps_par hc hN hi hj hij hx hy ha hw hs) fun D σ H ⟨e, F, er, h⟩ => ⟨e, F, er, h.bind.mono fun ds e1 H1 F1 er1 mv1 h1 vs hvs => ?_⟩
  match ds, hvs with
  | [], _ => exact h1.elim
  | [_], _ => exact h1.elim
  | _ :: _ :: _ :: _, _ => exact h1.elim
  | [d1, d2], hvs =>
    obtain ⟨v, w, rfl, r1, r2⟩ := rl_two hvs
    obtain ⟨er2, mv2⟩ := er1.setV hT r1
    obtain ⟨er3, mv3⟩ := er2.setV hT' r2
    exact ⟨v, w, rfl, h1 _ H1 F1 er3 (mv2.trans mv3)⟩
theorem js_par3 {i j l : Nat} {x y z : Str} {ms : M (List D)} {px py pz pt : Pos} {kt k2 pt2} (hT : NoP T i) (hT' : NoP T j) (hT2 : NoP T l) (hc : X.calm = true) (hN : X.N.Nodup) (hi : X.N[i]? = some x) (hj : X.N[j]? = some y) (hl : X.N[l]? = some z) (hij : i ≠ j) (hil : i ≠ l) (hjl : j ≠ l)
    (hx : X.env.scope.names.lookup x = some .local) (hy : X.env.scope.names.lookup y = some .local) (hz : X.env.scope.names.lookup z = some .local) (ha : JA X T W [a, b, c] ms)
    (hw : swappedStores [.Tuple [.Name x px, .Name y py, .Name z pz] kt pt] (.Tuple [a, b, c] k2 pt2) X.env = pure (some [x, y, z]) := by rfl)
    (hs : swapsWithSole [.Tuple [.Name x px, .Name y py, .Name z pz] kt pt] (.Tuple [a, b, c] k2 pt2) pos.line X.env = pure false := by rfl) :
    JS X T W (.Assign [.Tuple [.Name x px, .Name y py, .Name z pz] kt pt] (.Tuple [a, b, c] k2 pt2) pos) (sPar ms (gsC (gN i) (gsC (gN j) (gsC (gN l) gsN)))) := by
  refine PSimp (ps_par3 hc hN hi hj hl hij hil hjl hx hy hz ha hw hs) fun D σ H ⟨e, F, er, h⟩ => ⟨e, F, er, h.bind.mono fun ds e1 H1 F1 er1 mv1 h1 vs hvs => ?_⟩
  match ds, hvs with
  | [], _ => exact h1.elim
  | [_], _ => exact h1.elim
  | [_, _], _ => exact h1.elim
  | _ :: _ :: _ :: _ :: _, _ => exact h1.elim
  | [d1, d2, d3], hvs =>
    rw [rl_cons] at hvs
    obtain ⟨u, us, rfl, r0, hvs⟩ := hvs
    obtain ⟨v, w, rfl, r1, r2⟩ := rl_two hvs
    obtain ⟨er2, mv2⟩ := er1.setV hT r0
    obtain ⟨er3, mv3⟩ := er2.setV hT' r1
    obtain ⟨er4, mv4⟩ := er3.setV hT2 r2
    exact ⟨u, v, w, rfl, h1 _ H1 F1 er4 ((mv2.trans mv3).trans mv4)⟩
end
end Sr
namespace Sr
variable [TabL]
open PySem PySem.Spec L2
open PyProof.Rows hiding St
def Walks (K : PySem.W.Frag) (mg : Str → Option Value) (J : It) (ds : List D) (F : Hp) : Prop :=
  ∃ (G : Hp → Prop) (Y : Nat → Hp → V → Hp → Prop), Walk J ds.length G Y ∧ (∀ H, Same F H → G H) ∧
    ∀ i H1 F1 x H2, i < ds.length → Same F F1 → Same F1 H1 → Y i H1 x H2 → ∃ F2 d, Al H1 F1 H2 F2 ∧ ds[i]? = some d ∧ Rp K mg F2 d x
def TIt (K : PySem.W.Frag) (mg : Str → Option Value) (T : Pn) (W : WX) (m : M (List D)) : TI := fun σ H R => ∃ e F, ER K mg T e σ H F ∧ RunAt K mg T W e F m σ H fun ds _ H' F' => ∀ J, Walks K mg J ds F' → R J H'
abbrev JI (X : Cx) (T : Pn) (W : WX) (tg iter : Expr) (m : M (List D)) : Prop := PI X tg iter (TIt X.K X.mg T W m)
theorem PIimp {X : Cx} {tg iter : Expr} {t t' : TI} (h : PI X tg iter t) (k : ∀ σ H R, t' σ H R → t σ H R) : PI X tg iter t' := ⟨fun pins s σ H R I q => h.run pins s σ H R I (k σ H R q)⟩
def lp (b k : M Fl) : M Fl := fun e => match b e with
  | .ok .nx e2 => k e2
  | .ok .ct e2 => k e2
  | .ok .bk e2 => .ok .nx e2
  | o => o
def forL (w : D → M Unit) (b : M Fl) : List D → M Fl
  | [] => skp
  | d :: ds => bnd (w d) fun _ => lp b (forL w b ds)
def sFor (m : M (List D)) (w : D → M Unit) (b : M Fl) : M Fl := bnd m fun ds => forL w b ds
section
variable {X : Cx} {T : Pn} {W : WX} {pos : Pos} {a b c : Expr} {ma mb mc : M D} {body : List Stmt} {s u : M Fl}
theorem RunS.lp {K : PySem.W.Frag} {mg : Str → Option Value} {e : En} {F : Hp} {σ : St} {H : Hp} {Dn : Ends} {b k : M Fl} (h : RunS K mg T W e F (Sr.lp b k) σ H Dn) (N : St → Hp → Prop) (hN : ∀ σ' H' e' F', ER K mg T e' σ' H' F' → RunS K mg T W e' F' k σ' H' Dn → N σ' H') :
    RunS K mg T W e F b σ H { Dn with nx := N, ct := N, bk := Dn.nx } := by
  unfold RunS
  cases q : b e with
  | ok fl e1 =>
    cases fl with
    | nx => exact fun σ' H' F' er mv => hN σ' H' e1 F' er (h.after (by unfold Sr.lp; rw [q]) mv)
    | ct => exact fun σ' H' F' er mv => hN σ' H' e1 F' er (h.after (by unfold Sr.lp; rw [q]) mv)
    | bk => unfold RunS Sr.lp at h; rw [q] at h; exact h
    | rt d => unfold RunS Sr.lp at h; rw [q] at h; exact h
    | ro d => unfold RunS Sr.lp at h; rw [q] at h; exact h
  | exc x e1 => unfold RunS Sr.lp at h; rw [q] at h; exact h
  | bad => unfold RunS Sr.lp at h; rw [q] at h; exact h
theorem js_for {tg iter : Expr} {m : M (List D)} {w : D → M Unit} (hp : PassesOwn (model X.prog X.w) X.A X.env X.xe) (hc : X.calm = true) (hi : JI X T W tg iter m) (hg : JG X T W tg w) (hne : NoExc w) (hb : JSs X T W body s)
    (hs : ∀ x, foldedSetIterable iter X.env x = pure x := by intro _; rfl) : JS X T W (.For tg iter body [] pos) (sFor m w s) := by
  refine PSimp (ps_for hp hc hi hg hb hs) fun Dn σ H ⟨e, F, er, h⟩ => ⟨e, F, er, h.bind.mono fun ds e1 H1 F1 er1 mv1 h1 J wk => ?_⟩
  obtain ⟨G, Y, wlk, hG, hY⟩ := wk
  refine for_it wlk (fun i σ2 H2 => ∃ e2 F2, ER X.K X.mg T e2 σ2 H2 F2 ∧ Same F1 F2 ∧ RunS X.K X.mg T W e2 F2 (forL w s (ds.drop i)) σ2 H2 Dn) ⟨e1, F1, er1, Same.refl _, h1⟩ (fun i σ2 H2 _ ⟨e2, F2, er2, s2, _⟩ => hG H2 (s2.trans er2.sub)) ?_ ?_
  · rintro i x σ2 H2 H3 hi ⟨e2, F2, er2, s2, h2⟩ y
    obtain ⟨F3, d, al, hd, rd⟩ := hY i H2 F2 x H3 hi s2 er2.sub y
    have er3 := er2.al al
    have hdr : ds.drop i = d :: ds.drop (i + 1) := by
      rw [List.drop_eq_getElem_cons hi]
      have : ds[i] = d := by rw [List.getElem?_eq_getElem hi] at hd; exact Option.some.inj hd
      rw [this]
    rw [hdr] at h2
    have h3 := h2.after (s' := forL w s (d :: ds.drop (i + 1))) rfl (Mv.al er2 al)
    refine ⟨e2, F3, d, er3, rd, ?_⟩
    cases q : w d e2 with
    | ok u e3 =>
      intro σ4 H4 F4 er4 mv4
      have h4 := h3.after (s' := Sr.lp s (forL w s (ds.drop (i + 1)))) (by show bnd (w d) _ e2 = _; unfold bnd; rw [q]) mv4
      refine ⟨e3, F4, er4, ?_⟩
      have s4 : Same F1 F4 := (s2.trans (al.same er2.sub).1).trans mv4.sub
      have hh := h4.lp (fun σ' H' => ∃ e5 F5, ER X.K X.mg T e5 σ' H' F5 ∧ RunS X.K X.mg T W e5 F5 (forL w s (ds.drop (i + 1))) σ' H' Dn) fun σ' H' e' F' er' r' => ⟨e', F', er', r'⟩
      unfold RunS at hh ⊢
      cases q2 : s e3 with
      | ok fl e5 =>
        rw [q2] at hh
        cases fl with
        | nx => exact fun σ' H' F' er' mv' => ⟨e5, F', er', s4.trans mv'.sub, h4.after (by unfold Sr.lp; rw [q2]) mv'⟩
        | ct => exact fun σ' H' F' er' mv' => ⟨e5, F', er', s4.trans mv'.sub, h4.after (by unfold Sr.lp; rw [q2]) mv'⟩
        | bk => exact hh
        | rt d => exact hh
        | ro d => exact hh
      | exc x e5 => rw [q2] at hh; exact hh
      | bad => rw [q2] at hh; exact hh
    | exc x e3 => exact (hne d e2 x e3 q).elim
    | bad =>
      have h4 : RunS X.K X.mg T W e2 F3 (bnd (w d) fun _ => Sr.lp s (forL w s (ds.drop (i + 1)))) σ2 H3 Dn := h3
      unfold RunS bnd at h4; rw [q] at h4; exact h4
  · rintro σ2 H2 ⟨e2, F2, er2, s2, h2⟩
    rw [List.drop_length] at h2
    exact h2 σ2 H2 F2 er2 Mv.refl
def dItems : D → Option (List D)
  | .lst ds => some ds
  | .tup ds => some ds
  | .str z => some (z.cps.toList.map fun c => .str ⟨#[c]⟩)
  | .ct ds => some ds
  | _ => none
def mItems (m : M D) : M (List D) := bnd m fun d => opt (dItems d)
theorem walks_list {K : PySem.W.Frag} {mg : Str → Option Value} {F : Hp} {a : Addr} {xs : List V} {ds : List D} (h : F a = some (.lst xs)) (l : RpL K mg F ds xs) : Walks K mg (Itl K a) ds F := by
  refine ⟨_, _, by rw [l.len]; exact walk_list (xs := xs), fun H s => SqL.of (s _ _ h), fun i H1 F1 x H2 hi s1 s2 y => ?_⟩
  obtain ⟨rfl, y⟩ := y
  obtain ⟨v, h1, h2⟩ := l.get (List.getElem?_eq_getElem hi)
  rw [h1] at y; cases y
  exact ⟨F1, ds[i], Al.refl, List.getElem?_eq_getElem hi, Rp.mono s1 _ _ h2⟩
theorem walks_tup {K : PySem.W.Frag} {mg : Str → Option Value} {F : Hp} {a : Addr} {xs : List V} {ds : List D} (h : SqT K F a xs) (l : RpL K mg F ds xs) : Walks K mg (Itt K a) ds F := by
  refine ⟨_, _, by rw [l.len]; exact walk_tup (xs := xs), fun H s => seqC_mono s h, fun i H1 F1 x H2 hi s1 s2 y => ?_⟩
  obtain ⟨rfl, y⟩ := y
  obtain ⟨v, h1, h2⟩ := l.get (List.getElem?_eq_getElem hi)
  rw [h1] at y; cases y
  exact ⟨F1, ds[i], Al.refl, List.getElem?_eq_getElem hi, Rp.mono s1 _ _ h2⟩
theorem walks_str {K : PySem.W.Frag} {mg : Str → Option Value} {F : Hp} {z : Str} : Walks K mg (Its z) (z.cps.toList.map fun c => .str ⟨#[c]⟩) F := by
  refine ⟨_, _, by rw [List.length_map, Array.length_toList]; exact walk_str (z := z), fun H s => trivial, fun i H1 F1 x H2 hi s1 s2 y => ?_⟩
  obtain ⟨rfl, c, hc, rfl⟩ := y
  refine ⟨F1, .str ⟨#[c]⟩, Al.refl, ?_, by rw [rp_str]⟩
  rw [List.getElem?_map, Array.getElem?_toList, hc]; rfl
theorem RunAt.got {K : PySem.W.Frag} {mg : Str → Option Value} {A : Type} {e e1 : En} {σ : St} {H F : Hp} {m : M A} {x : A} {P : A → En → Hp → Hp → Prop} (h : RunAt K mg T W e F m σ H P) (q : m e = .ok x e1) : RunAt K mg T W e F m σ H fun a e' H' F' => a = x ∧ e' = e1 ∧ P a e' H' F' := by
  unfold RunAt at h ⊢
  rw [q] at h ⊢
  exact fun H' F' er mv => ⟨rfl, rfl, h H' F' er mv⟩
theorem PIor {tg iter : Expr} {t t' : TI} (h : PI X tg iter t) (h' : PI X tg iter t') : PI X tg iter (fun σ H R => t σ H R ∨ t' σ H R) := ⟨fun pins s σ H R I q => q.elim (h.run pins s σ H R I) (h'.run pins s σ H R I)⟩
theorem ji_v {tg : Expr} (ha : JV X T W a ma) : JI X T W tg a (mItems ma) := by
  refine PIimp (PIor (pi_list ha) (PIor (pi_tup ha) (pi_str ha))) fun σ H R ⟨e, F, er, h⟩ => ?_
  cases q : ma e with
  | ok d e1 =>
    cases d with
    | lst ds =>
      refine .inl ⟨e, F, er, (h.bind.got q).mono fun d e1 H1 F1 er1 mv1 h1 v hv => ?_⟩
      obtain ⟨rfl, rfl, h1⟩ := h1
      rw [rp_lst] at hv
      obtain ⟨a, xs, rfl, hv, l⟩ := hv
      exact ⟨a, rfl, ⟨xs, SqL.of (er1.sub _ _ hv)⟩, h1 H1 F1 er1 Mv.refl _ (walks_list hv l)⟩
    | tup ds =>
      refine .inr (.inl ⟨e, F, er, (h.bind.got q).mono fun d e1 H1 F1 er1 mv1 h1 v hv => ?_⟩)
      obtain ⟨rfl, rfl, h1⟩ := h1
      rw [rp_tup] at hv
      obtain ⟨a, xs, rfl, hv, l⟩ := hv
      exact ⟨a, rfl, ⟨xs, seqT_mono er1.sub hv⟩, h1 H1 F1 er1 Mv.refl _ (walks_tup (SqT.of hv) l)⟩
    | ct ds =>
      refine .inr (.inl ⟨e, F, er, (h.bind.got q).mono fun d e1 H1 F1 er1 mv1 h1 v hv => ?_⟩)
      obtain ⟨rfl, rfl, h1⟩ := h1
      rw [rp_ct] at hv
      obtain ⟨a, xs, rfl, hv, l⟩ := hv
      exact ⟨a, rfl, ⟨xs, seqC_mono er1.sub hv⟩, h1 H1 F1 er1 Mv.refl _ (walks_tup hv l)⟩
    | str z =>
      refine .inr (.inr ⟨e, F, er, (h.bind.got q).mono fun d e1 H1 F1 er1 mv1 h1 v hv => ?_⟩)
      obtain ⟨rfl, rfl, h1⟩ := h1
      rw [rp_str] at hv
      exact ⟨z, hv, h1 H1 F1 er1 Mv.refl _ walks_str⟩
    | _ => unfold RunAt mItems bnd at h; rw [q] at h; exact h.elim
  | exc x e1 =>
    refine .inl ⟨e, F, er, ?_⟩
    unfold RunAt mItems bnd at h; unfold RunAt; rw [q] at h ⊢; exact h
  | bad => unfold RunAt mItems bnd at h; rw [q] at h; exact h.elim
def rngL (lo hi : Int) : List D := (List.range (hi - lo).toNat).map fun (i : Nat) => D.int (lo + i)
def okR (i : Int) : Bool := decide (-(2 ^ 62) ≤ i) && decide (i < 2 ^ 62)
def gRng : List D → Option (List D)
  | [.int n] => if okR n = true then some (rngL 0 n) else none
  | _ => none
def gRng2 : List D → Option (List D)
  | [.int a, .int b] => if (okR a && okR b) = true then some (rngL a b) else none
  | _ => none
def mRng (ms : M (List D)) : M (List D) := bnd ms fun ds => opt (gRng ds)
def mRng2 (ms : M (List D)) : M (List D) := bnd ms fun ds => opt (gRng2 ds)
theorem walks_range {K : PySem.W.Frag} {mg : Str → Option Value} {F : Hp} {lo hi : Int} : Walks K mg (Itr lo (hi - lo).toNat) (rngL lo hi) F := by
  refine ⟨_, _, by unfold rngL; rw [List.length_map, List.length_range]; exact walk_range, fun H s => trivial, fun i H1 F1 x H2 hi s1 s2 y => ?_⟩
  obtain ⟨rfl, rfl⟩ := y
  refine ⟨F1, .int (lo + i), Al.refl, ?_, by rw [rp_int]⟩
  unfold rngL at hi ⊢
  rw [List.length_map, List.length_range] at hi
  rw [List.getElem?_map, List.getElem?_range hi]; rfl
theorem ji_range1 {tg : Expr} {p : Pos} {ms : M (List D)} (hg : Gl X "range") (hm : X.mg "range" = none) (ha : JA X T W [a] ms) (hs : starEach [a] X.env = [(false, eval a X.env)] := by rfl) : JI X T W tg (.Call (.Name "range" p) [a] [] pos) (mRng ms) := by
  refine PIimp (pi_range1 hg hm ha hs) fun σ H R ⟨e, F, er, h⟩ => ⟨e, F, er, h.bind.mono fun ds e1 H1 F1 er1 mv1 h1 vs hvs => ?_⟩
  obtain ⟨z, hz, fin⟩ := h1.fin er1
  unfold gRng at hz
  split at hz
  · rename_i n
    split at hz
    · rename_i ho
      cases hz
      obtain ⟨v, rfl, r⟩ := rl_one hvs
      rw [rp_int] at r; subst r
      unfold okR at ho
      rw [Bool.and_eq_true, decide_eq_true_eq, decide_eq_true_eq] at ho
      refine ⟨n, rfl, ho.1, ho.2, fin H1 F1 Al.refl _ ?_⟩
      have := walks_range (K := X.K) (mg := X.mg) (F := F1) (lo := 0) (hi := n)
      rw [Int.sub_zero] at this
      exact this
    · cases hz
  · cases hz
theorem ER.put {K : PySem.W.Frag} {mg : Str → Option Value} {e : En} {σ : St} {H F : Hp} {i : Nat} {d d' : D} {p : Addr} {o : HO} (er : ER K mg T e σ H F) (h : e[i]? = some (.own d)) (hp : σ[i]? = some (some (.ref p))) (ow : OwnAt K mg (upd H p o) F p d') :
    ER K mg T (e.set i (.own d')) σ (upd H p o) F ∧ Mv e σ H F (e.set i (.own d')) σ (upd H p o) F := by
  have hi : i < e.length := (List.getElem?_eq_some_iff.mp h).1
  obtain ⟨p', h1, h2, h3⟩ := er.own i d h
  rw [hp] at h1; cases h1
  obtain ⟨o0, ho0⟩ := h3.there
  have own : ∀ (j : Nat) (x : D), (e.set i (Sl.own d'))[j]? = some (.own x) → (j ≠ i ∧ e[j]? = some (.own x)) ∨ (j = i ∧ x = d') := fun j x q => by
    by_cases hj : j = i
    · subst hj
      rw [List.getElem?_set_self hi] at q; cases q; exact .inr ⟨rfl, rfl⟩
    · rw [List.getElem?_set_ne (Ne.symm hj)] at q; exact .inl ⟨hj, q⟩
  have iff : ∀ a, Ow (e.set i (Sl.own d')) σ a → Ow e σ a := fun a ⟨j, x, q1, q2⟩ => by
    rcases own j x q1 with ⟨_, w⟩ | ⟨rfl, _⟩
    · exact ⟨j, x, w, q2⟩
    · exact ⟨j, d, h, q2⟩
  refine ⟨⟨fun b u q => ?_, fun j x q => ?_, fun j x q => ?_, fun j k q x y q1 q2 q3 q4 => ?_, by rw [List.length_set]; exact er.len, er.pin, er.tb.write h3 (ow.nt upd_same)⟩, Same.refl _, fun a u q n => ⟨fun _ => ?_, fun z => n (iff a z)⟩, fun a u q => .inl q, fun a q => ?_⟩
  · rw [upd_ne (ne_of_none q h2)]; exact er.sub b u q
  · have hj : j ≠ i := by rintro rfl; rw [List.getElem?_set_self hi] at q; cases q
    rw [List.getElem?_set_ne (Ne.symm hj)] at q
    exact er.val j x q
  · rcases own j x q with ⟨hj, w⟩ | ⟨rfl, rfl⟩
    · obtain ⟨p', g1, g2, g3⟩ := er.own j x w
      refine ⟨p', g1, g2, g3.keep (Same.refl _) fun o' ho' => ?_⟩
      rw [upd_ne]; exact ho'
      rintro rfl
      exact hj (er.inj j i p' x d w h g1 hp)
    · exact ⟨p, hp, h2, ow⟩
  · rcases own j x q1 with ⟨hj, w1⟩ | ⟨hj, _⟩ <;> rcases own k y q2 with ⟨hk, w2⟩ | ⟨hk, _⟩
    · exact er.inj j k q x y w1 w2 q3 q4
    · rw [hk] at q4 ⊢; exact er.inj j i q x d w1 h q3 q4
    · rw [hj] at q3 ⊢; exact er.inj i k q d y h w2 q3 q4
    · rw [hj, hk]
  · rw [upd_ne]; exact q
    rintro rfl
    exact n ⟨i, d, h, hp⟩
  · by_cases hb : a = p
    · subst hb; rw [upd_same] at q; cases q
    · rw [upd_ne hb] at q; exact q
def chkL (i : Nat) : M Unit := fun e => match e[i]? with
  | some (.own (.lst _)) => .ok () e
  | _ => .bad
def putL (i : Nat) (f : List D → Option (List D)) : M Fl := fun e => match e[i]? with
  | some (.own (.lst ds)) => match f ds with
    | some ds' => .ok .nx (e.set i (.own (.lst ds')))
    | none => .bad
  | _ => .bad
theorem chk_fin {K : PySem.W.Frag} {mg : Str → Option Value} {e : En} {σ : St} {H F : Hp} {i : Nat} {Dn : Ends} {k : M Fl} (h : RunS K mg T W e F (bnd (chkL i) fun _ => k) σ H Dn) (er : ER K mg T e σ H F) : ∃ p xs, σ[i]? = some (some (.ref p)) ∧ H p = some (.lst xs) ∧ RunS K mg T W e F k σ H Dn := by
  cases q : e[i]? with
  | none => unfold RunS bnd chkL at h; rw [q] at h; exact h.elim
  | some sl =>
    cases sl with
    | no => unfold RunS bnd chkL at h; rw [q] at h; exact h.elim
    | val d => unfold RunS bnd chkL at h; rw [q] at h; exact h.elim
    | own d =>
      cases d with
      | lst ds =>
        obtain ⟨p, h1, h2, xs, h3, h4⟩ := er.own i _ q
        exact ⟨p, xs, h1, h3, h.after (by unfold bnd chkL; rw [q]) Mv.refl⟩
      | _ => unfold RunS bnd chkL at h; rw [q] at h; exact h.elim
theorem put_fin {K : PySem.W.Frag} {mg : Str → Option Value} {e : En} {σ : St} {H F : Hp} {i : Nat} {Dn : Ends} {f : List D → Option (List D)} (h : RunS K mg T W e F (putL i f) σ H Dn) (er : ER K mg T e σ H F) : ∃ p ds ds' xs, σ[i]? = some (some (.ref p)) ∧ H p = some (.lst xs) ∧ RpL K mg F ds xs ∧ f ds = some ds' ∧
    ∀ xs', RpL K mg F ds' xs' → Dn.nx σ (upd H p (.lst xs')) := by
  cases q : e[i]? with
  | none => unfold RunS putL at h; rw [q] at h; exact h.elim
  | some sl =>
    cases sl with
    | no => unfold RunS putL at h; rw [q] at h; exact h.elim
    | val d => unfold RunS putL at h; rw [q] at h; exact h.elim
    | own d =>
      cases d with
      | lst ds =>
        obtain ⟨p, h1, h2, xs, h3, h4⟩ := er.own i _ q
        cases qf : f ds with
        | none => unfold RunS putL at h; simp only [q, qf] at h
        | some ds' =>
          refine ⟨p, ds, ds', xs, h1, h3, h4, qf, fun xs' l => ?_⟩
          obtain ⟨er2, mv2⟩ := er.put (o := .lst xs') (d' := .lst ds') q h1 ⟨xs', upd_same, l⟩
          unfold RunS putL at h
          simp only [q, qf] at h
          exact h σ _ F er2 mv2
      | _ => unfold RunS putL at h; rw [q] at h; exact h.elim
def sApp (i : Nat) (m : M D) : M Fl := bnd (chkL i) fun _ => bnd m fun d => putL i fun ds => if ds.length < sizeLine then some (ds ++ [d]) else none
theorem js_append {i : Nat} {x : Str} {pn apos cpos : Pos} (hN : X.N[i]? = some x) (hv : Vis X.env.scope x) (ha : JV X T W a ma)
    (hd : (x == ("__debug__" : Str)) = false := by decide) (hcd : (x == ("__classdict__" : Str)) = false := by decide)
    (hst : swapsWith (.Call (.Attribute (.Name x pn) "append" apos) [a] [] cpos) none pos.line X.env = pure false := by rfl)
    (hbase : attributeBase (.Name x pn) "append" X.env (eval (.Name x pn) X.env) = eval (.Name x pn) X.env := by rfl)
    (hfew : ((backTo cpos (starEach [a] X.env)).all (fun x => !x.1) && (backToKw cpos (keywordEach [] X.env)).all (fun x => x.1.isSome)
      && decide ([a].length + ([] : List Keyword).length + (if ([] : List Keyword).isEmpty then 0 else 1) < 30)) = true := by rfl)
    (hline : (apos.endLine == cpos.line) = true := by rfl) (hs : starEach [a] X.env = (false, eval a X.env) :: starEach [] X.env := by rfl) :
    JS X T W (.Expr (.Call (.Attribute (.Name x pn) "append" apos) [a] [] cpos) pos) (sApp i ma) := by
  refine PSimp (ps_expr (pe_bm PySem.F.plainAttrs_list PySem.F.slot_list_append PySem.F.type_list_append mt_append (pe_var hN hv hd hcd) (pa_cons ha pa_nil hs) hbase hfew hline hs rfl) hst) fun Dn σ H ⟨e, F, er, h⟩ => ?_
  obtain ⟨p, xs, h1, h2, h⟩ := chk_fin h er
  refine ⟨_, h1, .inl ⟨rfl, xs, SqL.of h2⟩, e, F, er, h.bind.mono fun d e1 H1 F1 er1 mv1 h3 v hv => ?_⟩
  obtain ⟨p', ds, ds', ys, g1, g2, g3, g4, g5⟩ := put_fin h3 er1
  rw [h1] at g1; cases g1
  split at g4
  · rename_i hz
    cases g4
    exact ⟨p, ys, v, rfl, rfl, g2, by rw [← g3.len]; exact hz, g5 _ (g3.append (by rw [rl_cons]; exact ⟨v, [], rfl, hv, by rw [rl_nil]⟩))⟩
  · cases g4
def sPutI (i : Nat) (mi m : M D) : M Fl := bnd m fun d => bnd (chkL i) fun _ => bnd mi fun k => putL i fun ds => match k with
  | .int j => (ixN ds.length j).map fun n => ds.set n d
  | _ => none
theorem js_putI {i : Nat} {x : Str} {pn ps : Pos} {mi : M D} (hN : X.N[i]? = some x) (hv : Vis X.env.scope x) (ha : JV X T W a ma) (hi : JV X T W b mi)
    (hd : (x == ("__debug__" : Str)) = false := by decide) (hcd : (x == ("__classdict__" : Str)) = false := by decide)
    (hs : swapsWithSole [.Subscript (.Name x pn) b ps] a pos.line X.env = pure false := by rfl) (hw : swappedStores [.Subscript (.Name x pn) b ps] a X.env = pure none := by rfl)
    (h1 : (assignEach [.Subscript (.Name x pn) b ps] X.env).map (·.2) = [assign (.Subscript (.Name x pn) b ps) X.env] := by rfl)
    (hb : ∀ v, assign (.Subscript (.Name x pn) b ps) X.env v = (do
      let ov ← holding [v] (eval (.Name x pn) X.env)
      let iv ← holding [v, ov] (eval b X.env)
      standAt ps
      holding [v, ov, iv] (setItem ov iv v)
      release [v, ov, iv] []) := by intro _; rfl) :
    JS X T W (.Assign [.Subscript (.Name x pn) b ps] a pos) (sPutI i mi ma) := by
  refine PSimp (ps_asg ha (pg_sub (pe_var hN hv hd hcd) hi set_list hb) hs hw h1) fun Dn σ H ⟨e, F, er, h⟩ => ⟨e, F, er, h.bind.mono fun d e1 H1 F1 er1 mv1 h3 v hv => ?_⟩
  obtain ⟨p, xs, g1, g2, h4⟩ := chk_fin h3 er1
  refine ⟨_, g1, e1, F1, er1, h4.bind.mono fun k e2 H2 F2 er2 mv2 h5 w hw => ?_⟩
  obtain ⟨p', ds, ds', ys, g3, g4, g5, g6, g7⟩ := put_fin h5 er2
  rw [g1] at g3; cases g3
  split at g6
  · rename_i j
    rw [Option.map_eq_some_iff] at g6
    obtain ⟨n, g6, rfl⟩ := g6
    rw [rp_int] at hw
    exact ⟨p, ys, j, n, rfl, hw, g4, by rw [← g5.len]; exact g6, g7 _ (RpL.set (Rp.mono mv2.sub _ _ hv) n g5)⟩
  · cases g6
end
end Sr
namespace Sr
variable [TabL]
open PySem hiding start
open PySem.Spec L2
open PyProof.Rows hiding St
section
variable (K : PySem.W.Frag) (mg : Str → Option Value)
def spF1 (ro : Bool) (n : Nat) (f : Fnc) : Sp := fun vs H Q E => ∃ (p : Addr) (o : D) (ws : List V) (ds : List D) (F : Hp), vs = .ref p :: ws ∧ Same F H ∧ TbOk H F ∧ F p = none ∧ OwnAt K mg H F p o ∧ RpL K mg F ds ws ∧ ds.length + 1 = n ∧
  match f o ds with
  | .ok d o' => ∀ H' F', Fr (some p) H F H' F' → F' p = none → OwnAt K mg H' F' p o' → Res K mg ro (some p) d H Q H' F'
  | .exc x o' => ∀ H' F' cl dd, Fr (some p) H F H' F' → F' p = none → OwnAt K mg H' F' p o' → XR K mg x cl dd H' F' → E cl dd H'
  | .bad => False
end
def st0 (nl : Nat) (ds : List D) : En := ds.map Sl.val ++ List.replicate (nl - ds.length) Sl.no
def st1 (nl : Nat) (o : D) (ds : List D) : En := Sl.own o :: st0 (nl - 1) ds
def fin0 (ro : Bool) : Out Fl → Rs
  | .ok .nx _ => if ro = true then .bad else .ok .non .non
  | .ok (.rt d) _ => if ro = true then .bad else .ok d .non
  | .ok (.ro d) _ => .ok d .non
  | .ok _ _ => .bad
  | .exc x _ => .exc x .non
  | .bad => .bad
def fin1 (ro : Bool) : Out Fl → Rs
  | .ok fl e => match (e[0]? : Option Sl) with
    | some (Sl.own o) => match fl with
      | .nx => if ro = true then .bad else .ok .non o
      | .rt d => if ro = true then .bad else .ok d o
      | .ro d => .ok d o
      | _ => .bad
    | _ => .bad
  | .exc x e => match (e[0]? : Option Sl) with
    | some (Sl.own o) => .exc x o
    | _ => .bad
  | .bad => .bad
def mkF0 (nl : Nat) (ro : Bool) (s : M Fl) : Fnc := fun _ ds => fin0 ro (s (st0 nl ds))
def mkF1 (nl : Nat) (ro : Bool) (s : M Fl) : Fnc := fun o ds => fin1 ro (s (st1 nl o ds))
section
variable {K : PySem.W.Frag} {mg : Str → Option Value}
theorem st0_get {nl : Nat} {ds : List D} {i : Nat} {sl : Sl} (h : (st0 nl ds)[i]? = some sl) : (∃ d, ds[i]? = some d ∧ sl = .val d) ∨ sl = .no := by
  unfold st0 at h
  rw [List.getElem?_append] at h
  split at h
  · rw [List.getElem?_map] at h
    cases q : ds[i]? with
    | none => rw [q] at h; cases h
    | some d => rw [q] at h; cases h; exact .inl ⟨d, rfl, rfl⟩
  · rw [List.getElem?_replicate] at h
    split at h
    · cases h; exact .inr rfl
    · cases h
theorem ER.start0 {N : List Str} {vs : List V} {ds : List D} {H F : Hp} (s : Same F H) (tb : TbOk H F) (l : RpL K mg F ds vs) (hl : vs.length ≤ N.length) : ER K mg [] (st0 N.length ds) (start N vs) H F := by
  refine ⟨s, fun i d h => ?_, fun i d h => ?_, fun i j p d d' h => ?_, ?_, (fun p h => nomatch h), tb⟩
  · rcases st0_get h with ⟨d', h1, h2⟩ | h2
    · cases h2
      obtain ⟨v, h3, h4⟩ := l.get h1
      refine ⟨v, ?_, h4⟩
      unfold start
      rw [List.getElem?_append_left (by rw [List.length_map]; exact (List.getElem?_eq_some_iff.mp h3).1), List.getElem?_map, h3]; rfl
    · cases h2
  · rcases st0_get h with ⟨d', h1, h2⟩ | h2 <;> cases h2
  · rcases st0_get h with ⟨d', h1, h2⟩ | h2 <;> cases h2
  · unfold st0 start
    simp only [List.length_append, List.length_map, List.length_replicate, l.len]
theorem ER.start1 {N : List Str} {ws : List V} {ds : List D} {H F : Hp} {p : Addr} {o : D} (s : Same F H) (tb : TbOk H F) (fp : F p = none) (ow : OwnAt K mg H F p o) (l : RpL K mg F ds ws) (hl : ws.length + 1 ≤ N.length) : ER K mg [(0, p)] (st1 N.length o ds) (start N (.ref p :: ws)) H F := by
  have own : ∀ (i : Nat) (d : D), (st1 N.length o ds)[i]? = some (.own d) → i = 0 ∧ d = o := fun i d h => by
    unfold st1 at h
    cases i with
    | zero => simp at h; exact ⟨rfl, h.symm⟩
    | succ i =>
      rw [List.getElem?_cons_succ] at h
      rcases st0_get h with ⟨d', h1, h2⟩ | h2 <;> cases h2
  refine ⟨s, fun i d h => ?_, fun i d h => ?_, fun i j q d d' h h' => fun _ _ => by rw [(own i d h).1, (own j d' h').1], ?_, fun q h => ?_, tb⟩
  · unfold st1 at h
    cases i with
    | zero => simp at h
    | succ i =>
      rw [List.getElem?_cons_succ] at h
      rcases st0_get h with ⟨d', h1, h2⟩ | h2
      · cases h2
        obtain ⟨v, h3, h4⟩ := l.get h1
        refine ⟨v, ?_, h4⟩
        unfold start
        rw [List.map_cons, List.cons_append, List.getElem?_cons_succ, List.getElem?_append_left (by rw [List.length_map]; exact (List.getElem?_eq_some_iff.mp h3).1), List.getElem?_map, h3]; rfl
      · cases h2
  · obtain ⟨rfl, rfl⟩ := own i d h
    exact ⟨p, rfl, fp, ow⟩
  · unfold st1 st0 start
    simp only [List.length_append, List.length_map, List.length_replicate, List.length_cons, l.len]
    omega
  · rw [List.mem_singleton] at h; subst h; rfl
theorem no_ow0 {nl : Nat} {ds : List D} {σ : St} {a : Addr} : ¬ Ow (st0 nl ds) σ a := by
  rintro ⟨i, d, h, _⟩
  rcases st0_get h with ⟨d', h1, h2⟩ | h2 <;> cases h2
theorem ow1 {N : List Str} {ds : List D} {o : D} {ws : List V} {p a : Addr} (h : Ow (st1 N.length o ds) (start N (.ref p :: ws)) a) : a = p := by
  obtain ⟨i, d, h, h'⟩ := h
  unfold st1 at h
  cases i with
  | zero =>
    have e : (start N (.ref p :: ws))[0]? = some (some (.ref p)) := rfl
    rw [e] at h'; cases h'; rfl
  | succ i =>
    rw [List.getElem?_cons_succ] at h
    rcases st0_get h with ⟨d', h1, h2⟩ | h2 <;> cases h2
theorem Mv.fr0 {nl : Nat} {ds : List D} {e' : En} {σ σ' : St} {H F H' F' : Hp} (er : ER K mg [] e' σ' H' F') (mv : Mv (st0 nl ds) σ H F e' σ' H' F') : Fr none H F H' F' :=
  ⟨mv.sub, er.sub, fun a o h z _ => (mv.keep a o h no_ow0).1 z, fun a o h => by
    rcases mv.new a o h with h | h | h
    · exact .inl h
    · exact .inr h
    · exact (no_ow0 h).elim, mv.there, er.tb⟩
theorem Mv.fr1 {N : List Str} {ds : List D} {o o' : D} {ws : List V} {p : Addr} {e' : En} {σ' : St} {H F H' F' : Hp} (er : ER K mg [(0, p)] e' σ' H' F') (h0 : e'[0]? = some (.own o')) (mv : Mv (st1 N.length o ds) (start N (.ref p :: ws)) H F e' σ' H' F') : Fr (some p) H F H' F' ∧ F' p = none ∧ OwnAt K mg H' F' p o' := by
  obtain ⟨p', h1, h2, h3⟩ := er.own 0 o' h0
  rw [er.pin (0, p) List.mem_cons_self] at h1; cases h1
  refine ⟨⟨mv.sub, er.sub, fun a u h zz n => (mv.keep a u h fun z => n (by rw [ow1 z])).1 zz, fun a u h => ?_, mv.there, er.tb⟩, h2, h3⟩
  rcases mv.new a u h with g | g | g
  · exact .inl g
  · exact .inr g
  · rw [ow1 g, h2] at h; cases h
end
section
variable {P : Program} {w : World} {K : PySem.W.Frag} {mg : Str → Option Value} {base : Heap} {x qual : Str} {params : Arguments} {body : List Stmt} {scope : Scope} {dvs : List V} {kws : List (Str × V)} {f : Addr} {fd : FuncData}
abbrev WE0 (E : XK) : WX := fun cls d _ H => E cls d H
theorem res_v {ro : Bool} {p : Option Addr} {d : D} {H H' F' : Hp} {Q : VK} {v : V} (hr : ro = false) (h : Res K mg ro p d H Q H' F') (r : Rp K mg F' d v) : Q v H' := by
  subst hr; exact h v r
theorem res_o {d : D} {H F H' F' : Hp} {Q : VK} {q : Addr} {p : Option Addr} {ro : Bool} {C : Hp → Hp → Prop} (h : ∀ H' F', Fr p H F H' F' → C H' F' → Res K mg ro p d H Q H' F') (hC : ∀ F'', Same F' F'' → (∀ o, F'' = upd F' q o → C H' F'')) (c0 : C H' F') (fr : Fr p H F H' F') (hq : H q = none) (fq : F' q = none) (ow : OwnAt K mg H' F' q d) : Q (.ref q) H' := by
  cases ro with
  | true => exact h H' F' fr c0 q hq fq ow
  | false =>
    obtain ⟨o, ho⟩ := ow.there
    have s : Same F' (upd F' q o) := same_upd fq
    refine h H' (upd F' q o) ⟨fr.sub.trans s, fun b u e => ?_, fr.keep, fun b u e => ?_, fr.there, fr.tb.updF (ow.nt ho)⟩ (hC _ s o rfl) _ (ow.rp fq ho)
    · by_cases hb : b = q
      · subst hb; rw [upd_same] at e; cases e; exact ho
      · rw [upd_ne hb] at e; exact fr.fin b u e
    · by_cases hb : b = q
      · subst hb; exact .inr hq
      · rw [upd_ne hb] at e; exact fr.new b u e
theorem fnG_of {N ps : List Str} {k : Nat} {sp : Sp} (G : FunD K x qual params body scope dvs kws f fd) (S : FnScope N ps scope) (len : ∀ vs H Q E, sp vs H Q E → vs.length = ps.length)
    (hbody : ∀ (cdv : Value) (_ : fd.code = cdv) (A : Around) (outer : List Env) (s : Shared) (H : Hp) (vs : List V) (Q : VK) (E : XK), Room k (A.deeper (envOfC qual scope s.heap.objs.size f cdv)) → A.guards = some [] → sp vs H Q E →
      ∃ t, PSs (cxOf (L2N.CX P w) P w K mg base N qual scope f cdv A outer s H E) body t ∧ t { nx := fun _ H' => Q .non H', rt := Q } (start N vs) H) :
    FnG P w K mg base (k + 1) f fd ps sp := by
  obtain ⟨oc, od, dV, kV, doc, pm, an, cdv, ct, osl, rfl, lk, hcd, _, _⟩ := G.ex
  refine ⟨len, fun A outer s H args us vs Q E hr hgu e0 hb r hsp => ?_⟩
  have KX : K.In s.heap := e0.mod.kin.keeps fun b o q => (e0.bs b o q).1
  have lim : s.heap.NoLimit := e0.mod.nolimit.keeps fun b o q => (e0.bs b o q).1
  refine codeAny_call_function hr.depth (KX _ _ lk) rfl S.co S.gen rfl (PySem.W.codeRec_of KX hcd) (hb _ _ _ _ ?_)
  refine wpAny_newFunctionEnv_cells S.kind (fun ⟨n, v⟩ hy => ?_) fun env he s1 y => ?_
  · rcases S.par n (List.of_mem_zip hy).1 with q | q
    · exact .inl q
    · exact .inr ⟨q, PySem.W.cellsFrom_some _ _ _ (.inl q)⟩
  · subst he
    refine ⟨lim.keeps y.toInCall.keep, codeAny_func ?_⟩
    obtain ⟨t, ht, hq⟩ := hbody cdv rfl A outer s H vs Q E (hr.deeper _) hgu hsp
    have I := inv_start (CX := L2N.CX P w) (mg := mg) (E := E) S hr.hd e0 (len _ _ _ _ hsp) r y
    refine wpAny_mono (ht.run [] s1 (start N vs) H _ I hq) (fun fl s' hs => ?_) fun _ _ hs => hs
    match fl, hs with
    | .ret u, ⟨v, σ', H', J, rv, q⟩ => exact ⟨v, H', J.os, J.bare, J.base, J.hok, rv, q⟩
    | .next, ⟨σ', H', J, q⟩ => exact ⟨.non, H', J.os, J.bare, J.base, J.hok, rfl, q⟩
    | .brk, ⟨_, _, _, q⟩ => exact q.elim
    | .cont, ⟨_, _, _, q⟩ => exact q.elim
theorem fn0g {N ps : List Str} {k nl np : Nat} {ro : Bool} {s : M Fl} (hnl : N.length = nl) (hnp : ps.length = np) (G : FunD K x qual params body scope dvs kws f fd) (S : FnScope N ps scope)
    (hb : ∀ (cdv : Value) (_ : fd.code = cdv) (A : Around) (outer : List Env) (s0 : Shared) (H : Hp) (E : XK), Room k (A.deeper (envOfC qual scope s0.heap.objs.size f cdv)) → A.guards = some [] → JSs (cxOf (L2N.CX P w) P w K mg base N qual scope f cdv A outer s0 H E) [] (WE0 E) body s) :
    FnG P w K mg base (k + 1) f fd ps (spF0 K mg ro np (mkF0 nl ro s)) := by
  subst hnl hnp
  refine fnG_of G S (fun vs H Q E h => ?_) (fun cdv ec A outer s0 H vs Q E hr hgu h => ?_)
  · obtain ⟨ds, F, _, _, l, hl, _⟩ := h
    rw [← l.len]; exact hl
  · obtain ⟨ds, F, sub, tb, l, hl, h⟩ := h
    have hN : ps.length ≤ N.length := by have := congrArg List.length S.pre; rw [List.length_take] at this; omega
    refine ⟨_, hb cdv ec A outer s0 H E hr hgu, st0 N.length ds, F, ER.start0 sub tb l (by rw [← l.len]; omega), ?_⟩
    unfold RunS
    unfold mkF0 at h
    cases q : s (st0 N.length ds) with
    | ok fl e1 =>
      rw [q] at h
      cases fl with
      | nx =>
        cases ro with
        | true => exact h.elim
        | false => exact fun σ' H' F' er mv => res_v rfl (h H' F' (mv.fr0 er)) (by rw [rp_non])
      | rt d =>
        cases ro with
        | true => exact h.elim
        | false => exact fun σ' H' F' v er mv r => res_v rfl (h H' F' (mv.fr0 er)) r
      | ro d => exact fun σ' H' F' p er mv hp fp np ow => res_o (C := fun _ _ => True) (fun H' F' fr _ => h H' F' fr) (fun _ _ _ _ => trivial) trivial (mv.fr0 er) (hp.elim id fun z => (no_ow0 z).elim) fp ow
      | bk => exact h.elim
      | ct => exact h.elim
    | exc x e1 =>
      rw [q] at h
      intro σ' H' F' cl dd er mv xr
      exact h H' F' cl dd (mv.fr0 er) xr
    | bad => rw [q] at h; exact h.elim
theorem fn1g {N ps : List Str} {k nl np : Nat} {ro : Bool} {s : M Fl} (hnl : N.length = nl) (hnp : ps.length = np) (G : FunD K x qual params body scope dvs kws f fd) (S : FnScope N ps scope)
    (hb : ∀ (cdv : Value) (_ : fd.code = cdv) (A : Around) (outer : List Env) (s0 : Shared) (H : Hp) (E : XK) (p : Addr), Room k (A.deeper (envOfC qual scope s0.heap.objs.size f cdv)) → A.guards = some [] → JSs (cxOf (L2N.CX P w) P w K mg base N qual scope f cdv A outer s0 H E) [(0, p)] (WE0 E) body s) :
    FnG P w K mg base (k + 1) f fd ps (spF1 K mg ro np (mkF1 nl ro s)) := by
  subst hnl hnp
  refine fnG_of G S (fun vs H Q E h => ?_) (fun cdv ec A outer s0 H vs Q E hr hgu h => ?_)
  · obtain ⟨p, o, ws, ds, F, rfl, _, _, _, _, l, hl, _⟩ := h
    rw [List.length_cons, ← l.len]; exact hl
  · obtain ⟨p, o, ws, ds, F, rfl, sub, tb, fp, ow, l, hl, h⟩ := h
    have hN : ps.length ≤ N.length := by have := congrArg List.length S.pre; rw [List.length_take] at this; omega
    refine ⟨_, hb cdv ec A outer s0 H E p hr hgu, st1 N.length o ds, F, ER.start1 sub tb fp ow l (by rw [← l.len]; omega), ?_⟩
    unfold RunS
    unfold mkF1 at h
    cases q : s (st1 N.length o ds) with
    | ok fl e1 =>
      rw [q] at h
      unfold fin1 at h
      dsimp only at h
      cases q0 : (e1[0]? : Option Sl) with
      | none => rw [q0] at h; exact h.elim
      | some sl =>
        rw [q0] at h
        cases sl with
        | no => exact h.elim
        | val d => exact h.elim
        | own o' =>
          dsimp only at h
          cases fl with
          | nx =>
            cases ro with
            | true => exact h.elim
            | false =>
              intro σ' H' F' er mv
              obtain ⟨f1, f2, f3⟩ := mv.fr1 er q0
              exact res_v rfl (h H' F' f1 f2 f3) (by rw [rp_non])
          | rt d =>
            cases ro with
            | true => exact h.elim
            | false =>
              intro σ' H' F' v er mv r
              obtain ⟨f1, f2, f3⟩ := mv.fr1 er q0
              exact res_v rfl (h H' F' f1 f2 f3) r
          | ro d =>
            intro σ' H' F' pp er mv hp fp' np ow'
            obtain ⟨f1, f2, f3⟩ := mv.fr1 er q0
            obtain ⟨o1, ho1⟩ := ow.there
            have hpp : p ≠ pp := by
              rintro rfl
              exact np ⟨0, o', q0, er.pin (0, p) List.mem_cons_self⟩
            have hp : H pp = none := hp.elim id fun z => absurd (ow1 z).symm hpp
            refine res_o (ro := ro) (C := fun H'' F'' => F'' p = none ∧ OwnAt K mg H'' F'' p o') (fun H2 F2 fr c => h H2 F2 fr c.1 c.2) (fun F'' sm o e => ⟨?_, f3.keep sm fun _ z => z⟩) ⟨f2, f3⟩ f1 hp fp' ow'
            rw [e, upd_ne hpp]; exact f2
          | bk => exact h.elim
          | ct => exact h.elim
    | exc x e1 =>
      rw [q] at h
      unfold fin1 at h
      dsimp only at h
      cases q0 : (e1[0]? : Option Sl) with
      | none => rw [q0] at h; exact h.elim
      | some sl =>
        rw [q0] at h
        cases sl with
        | no => exact h.elim
        | val d => exact h.elim
        | own o' =>
          intro σ' H' F' cl dd er mv xr
          obtain ⟨f1, f2, f3⟩ := mv.fr1 er q0
          exact h H' F' cl dd f1 f2 f3 xr
    | bad => rw [q] at h; exact h.elim
theorem fn0 {N ps : List Str} {k nl np : Nat} {ro : Bool} {s : M Fl} (hnl : N.length = nl) (hnp : ps.length = np) (G : FunD K x qual params body scope dvs kws f fd) (S : FnScope N ps scope)
    (hb : ∀ (cdv : Value) (A : Around) (outer : List Env) (s0 : Shared) (H : Hp) (E : XK), Room k (A.deeper (envOfC qual scope s0.heap.objs.size f cdv)) → A.guards = some [] → JSs (cxOf (L2N.CX P w) P w K mg base N qual scope f cdv A outer s0 H E) [] (WE0 E) body s) :
    FnG P w K mg base (k + 1) f fd ps (spF0 K mg ro np (mkF0 nl ro s)) := fn0g hnl hnp G S fun cdv _ => hb cdv
theorem fn1 {N ps : List Str} {k nl np : Nat} {ro : Bool} {s : M Fl} (hnl : N.length = nl) (hnp : ps.length = np) (G : FunD K x qual params body scope dvs kws f fd) (S : FnScope N ps scope)
    (hb : ∀ (cdv : Value) (A : Around) (outer : List Env) (s0 : Shared) (H : Hp) (E : XK) (p : Addr), Room k (A.deeper (envOfC qual scope s0.heap.objs.size f cdv)) → A.guards = some [] → JSs (cxOf (L2N.CX P w) P w K mg base N qual scope f cdv A outer s0 H E) [(0, p)] (WE0 E) body s) :
    FnG P w K mg base (k + 1) f fd ps (spF1 K mg ro np (mkF1 nl ro s)) := fn1g hnl hnp G S fun cdv _ => hb cdv
theorem fn0L {N ps : List Str} {k nl np : Nat} {ro : Bool} {s : M Fl} {c : Addr} (hnl : N.length = nl) (hnp : ps.length = np) (G : FunD K x qual params body scope dvs kws f fd) (S : FnScope N ps scope) (hc : fd.code = .ref c)
    (hb : ∀ (A : Around) (outer : List Env) (s0 : Shared) (H : Hp) (E : XK), Room k (A.deeper (envOfC qual scope s0.heap.objs.size f (.ref c))) → A.guards = some [] → JSs (cxOf (L2N.CX P w) P w K mg base N qual scope f (.ref c) A outer s0 H E) [] (WE0 E) body s) :
    FnG P w K mg base (k + 1) f fd ps (spF0 K mg ro np (mkF0 nl ro s)) := fn0g hnl hnp G S fun cdv e => by
  obtain rfl := e.symm.trans hc
  exact hb
end
end Sr
namespace Sr
variable [TabL]
open PySem hiding start
open PySem.Spec L2
open PyProof.Rows hiding St
section
variable {K : PySem.W.Frag} {mg : Str → Option Value} {T : Pn} {W : WX} {e : En} {σ : St} {H F H' F' : Hp}
theorem ER.fr (er : ER K mg T e σ H F) (fr : Fr none H F H' F') : ER K mg T e σ H' F' ∧ Mv e σ H F e σ H' F' := by
  have s : ∀ a o, H a = some o → NTb o → H' a = some o := fun a o h zz => fr.keep a o h zz (fun z => nomatch z)
  refine ⟨⟨fr.fin, fun i d h => ?_, fun i d h => ?_, er.inj, er.len, er.pin, fr.tb⟩, fr.sub, fun a o h n => ⟨s a o h, n⟩, fun a o h => ?_, fr.there⟩
  · obtain ⟨v, h1, h2⟩ := er.val i d h
    exact ⟨v, h1, Rp.mono fr.sub _ _ h2⟩
  · obtain ⟨p, h1, h2, h3⟩ := er.own i d h
    refine ⟨p, h1, ?_, h3.keep fr.sub fun o ho => s p o ho (h3.nt ho)⟩
    obtain ⟨o, ho⟩ := h3.there
    cases q : F' p with
    | none => rfl
    | some u =>
      rcases fr.new p u q with z | z
      · rw [h2] at z; cases z
      · rw [ho] at z; cases z
  · rcases fr.new a o h with z | z
    · exact .inl z
    · exact .inr (.inl z)
theorem ER.fr1 {i : Nat} {o o' : D} {p : Addr} (er : ER K mg T e σ H F) (h0 : e[i]? = some (.own o)) (hp : σ[i]? = some (some (.ref p))) (fr : Fr (some p) H F H' F') (fp : F' p = none) (ow : OwnAt K mg H' F' p o') : ER K mg T (e.set i (.own o')) σ H' F' ∧ Mv e σ H F (e.set i (.own o')) σ H' F' := by
  have hi : i < e.length := (List.getElem?_eq_some_iff.mp h0).1
  have own : ∀ (j : Nat) (x : D), (e.set i (Sl.own o'))[j]? = some (.own x) → (j ≠ i ∧ e[j]? = some (.own x)) ∨ (j = i ∧ x = o') := fun j x q => by
    by_cases hj : j = i
    · subst hj
      rw [List.getElem?_set_self hi] at q; cases q; exact .inr ⟨rfl, rfl⟩
    · rw [List.getElem?_set_ne (Ne.symm hj)] at q; exact .inl ⟨hj, q⟩
  have iff : ∀ a, Ow (e.set i (Sl.own o')) σ a → Ow e σ a := fun a ⟨j, x, q1, q2⟩ => by
    rcases own j x q1 with ⟨_, w⟩ | ⟨rfl, _⟩
    · exact ⟨j, x, w, q2⟩
    · exact ⟨j, o, h0, q2⟩
  refine ⟨⟨fr.fin, fun j d h => ?_, fun j d h => ?_, fun j k q x y q1 q2 q3 q4 => ?_, by rw [List.length_set]; exact er.len, er.pin, fr.tb⟩, fr.sub, fun a u h n => ⟨fun zz => fr.keep a u h zz fun z => n ?_, fun z => n (iff a z)⟩, fun a u h => ?_, fr.there⟩
  · have hj : j ≠ i := by rintro rfl; rw [List.getElem?_set_self hi] at h; cases h
    rw [List.getElem?_set_ne (Ne.symm hj)] at h
    obtain ⟨v, h1, h2⟩ := er.val j d h
    exact ⟨v, h1, Rp.mono fr.sub _ _ h2⟩
  · rcases own j d h with ⟨hj, w⟩ | ⟨rfl, rfl⟩
    · obtain ⟨q, h1, h2, h3⟩ := er.own j d w
      have hqp : q ≠ p := by
        rintro rfl
        exact hj (er.inj j i q d o w h0 h1 hp)
      obtain ⟨u, hu⟩ := h3.there
      refine ⟨q, h1, ?_, h3.keep fr.sub fun v hv => fr.keep q v hv (h3.nt hv) fun z => hqp (Option.some.inj z).symm⟩
      cases c : F' q with
      | none => rfl
      | some y =>
        rcases fr.new q y c with z | z
        · rw [h2] at z; cases z
        · rw [hu] at z; cases z
    · exact ⟨p, hp, fp, ow⟩
  · rcases own j x q1 with ⟨hj, w1⟩ | ⟨hj, _⟩ <;> rcases own k y q2 with ⟨hk, w2⟩ | ⟨hk, _⟩
    · exact er.inj j k q x y w1 w2 q3 q4
    · rw [hk] at q4 ⊢; exact er.inj j i q x o w1 h0 q3 q4
    · rw [hj] at q3 ⊢; exact er.inj i k q o y h0 w2 q3 q4
    · rw [hj, hk]
  · cases z; exact ⟨i, o, h0, hp⟩
  · rcases fr.new a u h with z | z
    · exact .inl z
    · exact .inr (.inl z)
end
def ap0 (f : Fnc) (ds : List D) : M D := fun e => match f .non ds with
  | .ok d _ => .ok d e
  | .exc x _ => .exc x e
  | .bad => .bad
def ap1 (f : Fnc) (i : Nat) (ds : List D) : M D := fun e => match e[i]? with
  | some (.own o) => match f o ds with
    | .ok d o' => .ok d (e.set i (.own o'))
    | .exc x o' => .exc x (e.set i (.own o'))
    | .bad => .bad
  | _ => .bad
def mC0 (f : Fnc) (dds : List D) (ms : M (List D)) : M D := bnd ms fun ds => ap0 f (ds ++ dds)
def chkO (i : Nat) : M Unit := fun e => match e[i]? with
  | some (.own _) => .ok () e
  | _ => .bad
def mC1 (f : Fnc) (i : Nat) (dds : List D) (ms : M (List D)) : M D := bnd (chkO i) fun _ => bnd ms fun ds => ap1 f i (ds ++ dds)
section
variable {K : PySem.W.Frag} {mg : Str → Option Value} {T : Pn} {W : WX} {e : En} {σ : St} {H F : Hp} {f : Fnc} {ds : List D} {n : Nat}
theorem ap0_v {vs : List V} {Q : VK} (h : RunAt K mg T W e F (ap0 f ds) σ H fun d _ H' F' => ∀ v, Rp K mg F' d v → Q v H') (er : ER K mg T e σ H F) (l : RpL K mg F ds vs) (hn : ds.length = n) : spF0 K mg false n f vs H Q (fun cl dd H' => W cl dd σ H') := by
  refine ⟨ds, F, er.sub, er.tb, l, hn, ?_⟩
  unfold RunAt ap0 at h
  cases q : f .non ds with
  | ok d o =>
    simp only [q] at h
    intro H' F' fr
    obtain ⟨er', mv⟩ := er.fr fr
    exact h H' F' er' mv
  | exc x o =>
    simp only [q] at h
    intro H' F' cl dd fr xr
    obtain ⟨er', mv⟩ := er.fr fr
    exact h H' F' cl dd er' mv xr
  | bad => simp only [q] at h
theorem ap0_o {vs : List V} {Q : VK} {H0 : Hp} (h : RunAt K mg T W e F (ap0 f ds) σ H fun d e' H' F' => ∀ p, H0 p = none → F' p = none → ¬ Ow e' σ p → OwnAt K mg H' F' p d → Q (.ref p) H') (hH : ∀ p, H p = none → H0 p = none) (er : ER K mg T e σ H F) (l : RpL K mg F ds vs) (hn : ds.length = n) : spF0 K mg true n f vs H Q (fun cl dd H' => W cl dd σ H') := by
  refine ⟨ds, F, er.sub, er.tb, l, hn, ?_⟩
  unfold RunAt ap0 at h
  cases q : f .non ds with
  | ok d o =>
    simp only [q] at h
    intro H' F' fr p hp fp ow
    obtain ⟨er', mv⟩ := er.fr fr
    exact h H' F' er' mv p (hH p hp) fp (Ow.ne_of_free er hp) ow
  | exc x o =>
    simp only [q] at h
    intro H' F' cl dd fr xr
    obtain ⟨er', mv⟩ := er.fr fr
    exact h H' F' cl dd er' mv xr
  | bad => simp only [q] at h
theorem ap1_v {i : Nat} {p : Addr} {vs : List V} {Q : VK} (h : RunAt K mg T W e F (ap1 f i ds) σ H fun d _ H' F' => ∀ v, Rp K mg F' d v → Q v H') (er : ER K mg T e σ H F) (hp : σ[i]? = some (some (.ref p))) (l : RpL K mg F ds vs) (hn : ds.length + 1 = n) : spF1 K mg false n f (.ref p :: vs) H Q (fun cl dd H' => W cl dd σ H') := by
  unfold RunAt ap1 at h
  cases q0 : e[i]? with
  | none => simp only [q0] at h
  | some sl =>
    cases sl with
    | no => simp only [q0] at h
    | val d => simp only [q0] at h
    | own o =>
      simp only [q0] at h
      obtain ⟨p', h1, h2, h3⟩ := er.own i o q0
      rw [hp] at h1; cases h1
      refine ⟨p, o, vs, ds, F, rfl, er.sub, er.tb, h2, h3, l, hn, ?_⟩
      cases q : f o ds with
      | ok d o' =>
        simp only [q] at h
        intro H' F' fr fp ow
        obtain ⟨er', mv⟩ := er.fr1 q0 hp fr fp ow
        exact h H' F' er' mv
      | exc x o' =>
        simp only [q] at h
        intro H' F' cl dd fr fp ow xr
        obtain ⟨er', mv⟩ := er.fr1 q0 hp fr fp ow
        exact h H' F' cl dd er' mv xr
      | bad => simp only [q] at h
theorem chkO_fin {A : Type} {i : Nat} {k : M A} {P : A → En → Hp → Hp → Prop} (h : RunAt K mg T W e F (bnd (chkO i) fun _ => k) σ H P) (er : ER K mg T e σ H F) : ∃ p, σ[i]? = some (some (.ref p)) ∧ RunAt K mg T W e F k σ H P := by
  unfold RunAt bnd chkO at h
  cases q : e[i]? with
  | none => simp only [q] at h
  | some sl =>
    cases sl with
    | no => simp only [q] at h
    | val d => simp only [q] at h
    | own d =>
      simp only [q] at h
      obtain ⟨p, h1, h2, h3⟩ := er.own i d q
      exact ⟨p, h1, h⟩
end
theorem len_nil {e e' : En} {ds : List D} (h : mNil e = .ok ds e') : ds.length = 0 := by cases h; rfl
theorem len_cons {n : Nat} {m : M D} {ms : M (List D)} (hh : ∀ (ds : List D) (e e' : En), ms e = .ok ds e' → ds.length = n) (ds : List D) (e e' : En) (h : mCons m ms e = .ok ds e') : ds.length = n + 1 := by
  unfold mCons bnd at h
  cases q : m e with
  | ok d e1 =>
    simp only [q] at h
    cases q2 : ms e1 with
    | ok d2 e2 => simp only [q2, ret] at h; cases h; rw [List.length_cons, hh _ _ _ q2]
    | exc x e2 => simp only [q2] at h; cases h
    | bad => simp only [q2] at h; cases h
  | exc x e1 => simp only [q] at h; cases h
  | bad => simp only [q] at h; cases h
structure JL (X : Cx) (T : Pn) (W : WX) (es : List Expr) (ms : M (List D)) : Prop where
  ja : JA X T W es ms
  ln : ∀ (ds : List D) (e e' : En), ms e = .ok ds e' → ds.length = es.length
theorem jl_nil {X : Cx} {T : Pn} {W : WX} : JL X T W [] mNil := ⟨ja_nil, fun _ _ _ h => len_nil h⟩
theorem jl_cons {X : Cx} {T : Pn} {W : WX} {e : Expr} {es : List Expr} {m : M D} {ms : M (List D)} (ha : JV X T W e m) (hr : JL X T W es ms) (hs : starEach (e :: es) X.env = (false, eval e X.env) :: starEach es X.env := by rfl) : JL X T W (e :: es) (mCons m ms) :=
  ⟨ja_cons ha hr.ja hs, len_cons hr.ln⟩
structure Fn (X : Cx) (k : Nat) (x : Str) (sp : Sp) (ps : List Str) (dvs : List V) : Prop where
  ex : ∃ f fd ds, FnG X.prog X.w X.K X.mg X.base k f fd ps sp ∧ X.mg x = some (.ref f) ∧ PySem.W.keepIn X.K (.ref f) = true ∧ Binds X.K fd ps ds ∧ Vals dvs ds
section
variable {X : Cx} {k : Nat} {f : Addr} {fd : FuncData} {ps : List Str} {sp : Sp} {dvs : List V} {ds : List Value} {W : WX} {x : Str} {p pos : Pos} {e : Expr} {es : List Expr} {t : TA}
theorem run_g {pins : List (Addr × Obj)} {σ : St} {H : Hp} {s : Shared} {Q : VK} {us : List Value} {vs : List V} (F : FnG X.prog X.w X.K X.mg X.base k f fd ps sp) (hr : Room k X.A) (hgu : X.A.guards = some [])
    (hb : Binds X.K fd ps ds) (hd : Vals dvs ds) (tk : L2N.Takes X W) (I : Inv X pins σ H s) (r : Vals vs us) (h : sp (vs ++ dvs) H Q (WE W σ)) : wpAny (model X.prog X.w) X.A (call (.ref f) us) (EP X pins σ Q) X.xe s := by
  have r2 : Vals (vs ++ dvs) (us ++ ds) := r.append hd
  have hl : (us ++ ds).length = ps.length := by rw [← r2.length]; exact F.len _ _ _ _ h
  refine wpAny_call (codeAny_mono (F.run X.A X.stack s H _ _ _ Q _ hr hgu I.env0 (hb s us I.kIn hl) r2 h) ?_)
  intro r s' hq
  match r, hq with
  | .error e, hq => exact L2N.passAt tk σ pins H s e s' I hq
  | .ok (.ret u), hq => exact I.after hq
  | .ok .next, hq => exact hq.elim
  | .ok .brk, hq => exact hq.elim
  | .ok .cont, hq => exact hq.elim
theorem pe_callG (F : FnG X.prog X.w X.K X.mg X.base k f fd ps sp) (hr : Room k X.A) (hgu : X.A.guards = some []) (hg : Gl X x) (hm : X.mg x = some (.ref f)) (hk : PySem.W.keepIn X.K (.ref f) = true) (hb : Binds X.K fd ps ds) (hd : Vals dvs ds) (tk : L2N.Takes X W)
    (ha : PA X (e :: es) t) (hdb : (x == ("__debug__" : Str)) = false := by decide) (he : starEach (e :: es) X.env = (false, eval e X.env) :: starEach es X.env := by rfl) (hpl : (backTo pos (starEach es X.env)).any (·.1) = false := by rfl) :
    PE X (.Call (.Name x p) (e :: es) [] pos) (tCallSD sp dvs (fun σ => WE W σ) t) := by
  refine ⟨fun pins s σ H Q I h => wpAny_Call_Name_kw (ld_glob I hg hm ?_ hdb)⟩
  refine PySem.W.callWith_K (h₀ := X.base) I.ok.mod.kin hk (thn (ha.run pos pins s σ H _ I h) fun us s1 ⟨vs, H1, I1, r, q⟩ => ⟨I1.kIn, ?_⟩) he hpl
  exact run_g F hr hgu hb hd tk I1 r q
end
section
variable {X : Cx} {T : Pn} {W : WX} {pos p : Pos} {a b : Expr} {es : List Expr} {ma mb : M D} {ms : M (List D)} {f : Fnc} {k n : Nat} {x : Str} {ps : List Str} {dvs : List V} {dds : List D}
theorem jv_call0 (G : Fn X k x (spF0 X.K X.mg false n f) ps dvs) (hr : Room k X.A) (hgu : X.A.guards = some []) (tk : L2N.Takes X W) (hdd : ∀ F, RpL X.K X.mg F dds dvs) (hg : Gl X x) (ha : JL X T W (a :: es) ms) (hn : (a :: es).length + dds.length = n := by rfl)
    (hdb : (x == ("__debug__" : Str)) = false := by decide) (he : starEach (a :: es) X.env = (false, eval a X.env) :: starEach es X.env := by rfl) (hpl : (backTo pos (starEach es X.env)).any (·.1) = false := by rfl) :
    JV X T W (.Call (.Name x p) (a :: es) [] pos) (mC0 f dds ms) := by
  obtain ⟨fa, fd, ds0, FO, hm, hk, hb, hd⟩ := G.ex
  refine PEimp (pe_callG FO hr hgu hg hm hk hb hd tk ha.ja hdb he hpl) fun σ H Q ⟨e, F, er, h⟩ => ⟨e, F, er, ?_⟩
  have hb2 := h.bind
  unfold RunAt at hb2 ⊢
  cases q : ms e with
  | ok ds e1 =>
    rw [q] at hb2
    intro H1 F1 er1 mv1 vs hvs
    exact ap0_v (hb2 H1 F1 er1 mv1) er1 (hvs.append (hdd F1)) (by rw [List.length_append, ha.ln ds e e1 q]; exact hn)
  | exc x e1 => rw [q] at hb2; exact hb2
  | bad => rw [q] at hb2; exact hb2
theorem jo_call0 (G : Fn X k x (spF0 X.K X.mg true n f) ps dvs) (hr : Room k X.A) (hgu : X.A.guards = some []) (tk : L2N.Takes X W) (hdd : ∀ F, RpL X.K X.mg F dds dvs) (hg : Gl X x) (ha : JL X T W (a :: es) ms) (hn : (a :: es).length + dds.length = n := by rfl)
    (hdb : (x == ("__debug__" : Str)) = false := by decide) (he : starEach (a :: es) X.env = (false, eval a X.env) :: starEach es X.env := by rfl) (hpl : (backTo pos (starEach es X.env)).any (·.1) = false := by rfl) :
    JO X T W (.Call (.Name x p) (a :: es) [] pos) (mC0 f dds ms) := by
  obtain ⟨fa, fd, ds0, FO, hm, hk, hb, hd⟩ := G.ex
  refine PEimp (pe_callG FO hr hgu hg hm hk hb hd tk ha.ja hdb he hpl) fun σ H Q ⟨e, F, er, h⟩ => ⟨e, F, er, ?_⟩
  have hb2 := h.bind
  unfold RunAt at hb2 ⊢
  cases q : ms e with
  | ok ds e1 =>
    rw [q] at hb2
    intro H1 F1 er1 mv1 vs hvs
    exact ap0_o (hb2 H1 F1 er1 mv1) mv1.there er1 (hvs.append (hdd F1)) (by rw [List.length_append, ha.ln ds e e1 q]; exact hn)
  | exc x e1 => rw [q] at hb2; exact hb2
  | bad => rw [q] at hb2; exact hb2
theorem jv_call1 {i : Nat} {y : Str} {py : Pos} (G : Fn X k x (spF1 X.K X.mg false n f) ps dvs) (hr : Room k X.A) (hgu : X.A.guards = some []) (tk : L2N.Takes X W) (hdd : ∀ F, RpL X.K X.mg F dds dvs) (hg : Gl X x) (hN : X.N[i]? = some y) (hv : Vis X.env.scope y) (ha : JL X T W es ms) (hn : es.length + dds.length + 1 = n := by rfl)
    (hdb : (x == ("__debug__" : Str)) = false := by decide) (he : starEach (.Name y py :: es) X.env = (false, eval (.Name y py) X.env) :: starEach es X.env := by rfl) (hpl : (backTo pos (starEach es X.env)).any (·.1) = false := by rfl)
    (hd2 : (y == ("__debug__" : Str)) = false := by decide) (hcd : (y == ("__classdict__" : Str)) = false := by decide) :
    JV X T W (.Call (.Name x p) (.Name y py :: es) [] pos) (mC1 f i dds ms) := by
  obtain ⟨fa, fd, ds0, FO, hm, hk, hb, hd⟩ := G.ex
  refine PEimp (pe_callG FO hr hgu hg hm hk hb hd tk (pa_cons (pe_var hN hv hd2 hcd) ha.ja he) hdb he hpl) fun σ H Q ⟨e, F, er, h⟩ => ?_
  obtain ⟨p, hp, h⟩ := chkO_fin h er
  refine ⟨_, hp, e, F, er, ?_⟩
  have hb2 := h.bind
  unfold RunAt at hb2 ⊢
  cases q : ms e with
  | ok ds e1 =>
    rw [q] at hb2
    intro H1 F1 er1 mv1 vs hvs
    exact ap1_v (hb2 H1 F1 er1 mv1) er1 hp (hvs.append (hdd F1)) (by rw [List.length_append, ha.ln ds e e1 q]; exact hn)
  | exc x e1 => rw [q] at hb2; exact hb2
  | bad => rw [q] at hb2; exact hb2
end
end Sr
namespace Sr
variable [TabL]
open PySem hiding start
open PySem.Spec L2
open PyProof.Rows hiding St
def putD (f : Str) (d : D) : List (Str × D) → List (Str × D)
  | [] => [(f, d)]
  | (g, x) :: r => if g = f then (g, d) :: r else (g, x) :: putD f d r
section
variable {K : PySem.W.Frag} {mg : Str → Option Value} {F : Hp}
theorem RpF.get {f : Str} {d : D} : ∀ {fs : List (Str × D)} {gs : List (Str × V)}, RpF K mg F fs gs → fs.lookup f = some d → ∃ v, gs.lookup f = some v ∧ Rp K mg F d v
  | [], gs, _, e => by cases e
  | (k, x) :: fs, gs, h, e => by
    rw [rf_cons] at h
    obtain ⟨v, vs, rfl, r, h⟩ := h
    rw [List.lookup_cons] at e ⊢
    split at e
    · cases e; exact ⟨v, rfl, r⟩
    · exact RpF.get h e
theorem RpF.put {f : Str} {d : D} {v : V} (r : Rp K mg F d v) : ∀ {fs : List (Str × D)} {gs : List (Str × V)}, RpF K mg F fs gs → RpF K mg F (putD f d fs) (putF f v gs)
  | [], gs, h => by
    rw [rf_nil] at h; subst h
    unfold putD putF
    rw [rf_cons]; exact ⟨v, [], rfl, r, by rw [rf_nil]⟩
  | (k, x) :: fs, gs, h => by
    rw [rf_cons] at h
    obtain ⟨w, vs, rfl, q, h⟩ := h
    unfold putD putF
    split
    · rw [rf_cons]; exact ⟨v, vs, rfl, r, h⟩
    · rw [rf_cons]; exact ⟨w, _, rfl, q, RpF.put r h⟩
end
def gFld (c f : Str) : D → Option D
  | .obj c' fs => if c' = c then fs.lookup f else none
  | _ => none
def mFldB (c f : Str) (m : M Bv) : M D := bnd m fun b => bnd (der b) fun d => opt (gFld c f d)
section
variable {X : Cx} {T : Pn} {W : WX} {pos : Pos} {a b : Expr} {es : List Expr} {ma mb : M D} {m1 : M Bv} {ms : M (List D)} {f : Fnc} {k n : Nat} {x c g : Str} {C : Addr}
def gA (i : Nat) (c f : Str) : D → M Unit := fun d e => match e[i]? with
  | some (.own (.obj c' fs)) => if c' = c ∧ fs.length < 1000 then .ok () (e.set i (.own (.obj c (putD f d fs)))) else .bad
  | _ => .bad
end
end Sr
namespace Sr
variable [TabL]
open PySem hiding start
open PySem.Spec L2
open PyProof.Rows hiding St
theorem RunAt.eq {K : PySem.W.Frag} {mg : Str → Option Value} {T : Pn} {W : WX} {A : Type} {e : En} {σ : St} {H F : Hp} {m : M A} {P : A → En → Hp → Hp → Prop} (h : RunAt K mg T W e F m σ H P) : RunAt K mg T W e F m σ H fun a e' H' F' => m e = .ok a e' ∧ P a e' H' F' := by
  unfold RunAt at h ⊢
  cases q : m e with
  | ok a e' => rw [q] at h; exact fun H' F' er mv => ⟨rfl, h H' F' er mv⟩
  | exc x e' => rw [q] at h; exact h
  | bad => rw [q] at h; exact h
def sNever : M Fl := fun _ => .bad
def apM (c : Str) (f : Fnc) (ds : List D) : M D := fun e => match f (.obj c []) ds with
  | .ok .non o => .ok o e
  | .ok _ _ => .bad
  | .exc x _ => .exc x e
  | .bad => .bad
def mMk (c : Str) (f : Fnc) (gD : List D → List D → List D) (ms mk : M (List D)) : M D := bnd ms fun ds => bnd mk fun es => apM c f (gD ds es)
end Sr
namespace Sr
variable [TabL]
open PySem hiding start
open PySem.Spec L2
open PyProof.Rows hiding St
section
variable {X : Cx} {T : Pn} {W : WX} {pos : Pos} {a : Expr} {ma : M D}
def rRepr (K : PySem.W.Frag) : List V → Hp → VK → Prop := fun xs H Q => ∃ (q : Addr) (p : PyData), xs = [.ref q] ∧ Dp K H (.ref q) p ∧ p.showable = true ∧ p.hasDict = false ∧ p.depth ≤ 64 ∧ p.shown.length ≤ sizeLine ∧ Q (.str p.shown) H
theorem call_reprD (hgu : X.A.guards = some []) (hu : X.A.units + 100 < cLine) : CallR X (.builtin "repr") (rRepr X.K) := by
  intro pins s σ H xs us Q I r h
  obtain ⟨q, p, rfl, hp, h1, h2, h3, h4, hq⟩ := h
  obtain ⟨u, rfl, ru⟩ := vals1 r
  obtain rfl : u = Value.ref q := ru
  obtain ⟨as, rd⟩ := Dp.reads I p _ _ hp rfl
  exact repr_of_reads' rd h1 (PyData.noDict_hsm h2) hgu (by omega) (fun _ _ e => e) (fun h' u tk hk => ⟨.str _, H, I.kept hk, ⟨_, rfl⟩, hq⟩) h4
def gRepr : D → Option D
  | .lst ds => match toP (.lst ds) with
    | some p => if (p.showable && !p.hasDict && decide (p.depth ≤ 64) && decide (p.shown.length ≤ sizeLine)) = true then some (.str p.shown) else none
    | none => none
  | .tup ds => match toP (.tup ds) with
    | some p => if (p.showable && !p.hasDict && decide (p.depth ≤ 64) && decide (p.shown.length ≤ sizeLine)) = true then some (.str p.shown) else none
    | none => none
  | _ => none
theorem c_repr (hgu : X.A.guards = some []) (hu : X.A.units + 100 < cLine) : Cal1 X (.builtin "repr") gRepr := by
  intro H F x d d' s r e
  unfold gRepr at e
  split at e
  · rename_i ds
    split at e
    · rename_i p hp
      split at e
      · rename_i hh
        cases e
        simp only [Bool.and_eq_true, Bool.not_eq_true', decide_eq_true_eq] at hh
        have hdp := Rq.dp s hp r
        obtain ⟨q, xs, rfl, _⟩ := r
        exact ⟨_, call_reprD hgu hu, fun Q qq => ⟨q, p, rfl, hdp, hh.1.1.1, hh.1.1.2, hh.1.2, hh.2, qq H F _ Al.refl (by rw [rp_str])⟩⟩
      · cases e
    · cases e
  · rename_i ds
    split at e
    · rename_i p hp
      split at e
      · rename_i hh
        cases e
        simp only [Bool.and_eq_true, Bool.not_eq_true', decide_eq_true_eq] at hh
        have hdp := Rq.dp s hp r
        rw [rq_tup] at r
        obtain ⟨q, xs, rfl, _⟩ := r
        exact ⟨_, call_reprD hgu hu, fun Q qq => ⟨q, p, rfl, hdp, hh.1.1.1, hh.1.1.2, hh.1.2, hh.2, qq H F _ Al.refl (by rw [rp_str])⟩⟩
      · cases e
    · cases e
  · cases e
def IsiK (K : PySem.W.Frag) (mg : Str → Option Value) (u : Value) (g : D → Option Bool) : Prop := ∀ (H F : Hp) (d : D) (v : V) (b : Bool), Same F H → Rp K mg F d v → g d = some b → ∃ t, TyX K H v t ∧ PySem.W.kitOne K t u = some b
abbrev Isi (X : Cx) (u : Value) (g : D → Option Bool) : Prop := IsiK X.K X.mg u g
def mIsi (g : D → Option Bool) (m : M D) : M D := bnd m fun d => opt ((g d).map D.bl)
theorem runIsi {g : D → Option Bool} {u : Value} {cv : V} {σ : St} {H : Hp} {Q : VK} (hi : Isi X u g) (hc : ClsV cv u) (h : TV X.K X.mg T W (mIsi g ma) σ H Q) : TV X.K X.mg T W ma σ H fun v H1 => rIsi X.K [v, cv] H1 Q := by
  obtain ⟨e, F, er, h⟩ := h
  refine ⟨e, F, er, h.bind.mono fun d e1 H1 F1 er1 mv1 h1 v hv => ?_⟩
  obtain ⟨z, hz, fin⟩ := h1.fin er1
  rw [Option.map_eq_some_iff] at hz
  obtain ⟨b, hb, rfl⟩ := hz
  obtain ⟨t, h2, h3⟩ := hi H1 F1 d v b er1.sub hv hb
  exact ⟨v, cv, t, u, b, rfl, hc, h2, h3, fin H1 F1 Al.refl _ (by rw [rp_bl])⟩
theorem jv_isiB {g : D → Option Bool} {y : Str} {n : String} {p p2 : Pos} (hi : Isi X (.type n) g) (hg : Gl X "isinstance") (hm : X.mg "isinstance" = none) (hy : Gl X y) (hmy : X.mg y = none) (hv : bootBuiltins y = some (.type n)) (ha : JV X T W a ma)
    (hnn : y ≠ "__name__" := by decide) (hdy : (y == ("__debug__" : Str)) = false := by decide)
    (he : starEach [a, .Name y p2] X.env = (false, eval a X.env) :: starEach [.Name y p2] X.env := by rfl) (he2 : starEach [.Name y p2] X.env = (false, eval (.Name y p2) X.env) :: starEach [] X.env := by rfl) :
    JV X T W (.Call (.Name "isinstance" p) [a, .Name y p2] [] pos) (mIsi g ma) :=
  PEimp (pe_callB call_isi hg hm (by decide +kernel) (pa_cons ha (pa_cons (pe_bltn (v := .ty n) hy hmy hv rfl hnn hdy) pa_nil he2) he) (by decide) (by decide) he (by rfl)) fun σ H Q h => runIsi hi (.ty n) h
inductive Kd where
  | non | bool | int | str | bytes | list | tuple | dict
  deriving DecidableEq
def Kd.nm : Kd → String
  | .non => "NoneType"
  | .bool => "bool"
  | .int => "int"
  | .str => "str"
  | .bytes => "bytes"
  | .list => "list"
  | .tuple => "tuple"
  | .dict => "dict"
def dKind : D → Option (Kd ⊕ Str)
  | .non => some (.inl .non)
  | .bl _ => some (.inl .bool)
  | .int _ => some (.inl .int)
  | .str _ => some (.inl .str)
  | .byt _ => some (.inl .bytes)
  | .lst _ => some (.inl .list)
  | .tup _ => some (.inl .tuple)
  | .dk _ => some (.inl .dict)
  | .dt _ => some (.inl .dict)
  | .obj c _ => some (.inr c)
  | .scr _ => none
  | .ct _ => none
  | .dl _ => none
structure ClI (K : PySem.W.Frag) (mg : Str → Option Value) (c : Str) (C : Addr) : Prop where
  cl : ClK K mg c C
  ha : PySem.W.findIn K (.ref C) "__class__" = some (some (.builtin "object.__class__"))
  hn : PySem.W.specialIn K (.builtin "object.__class__") "__get__" = some (some (.builtin "getset_descriptor.__get__"))
  ht : PySem.W.takesIn K (.builtin "object.__class__") = some true
  hm : PySem.W.mroIn K C (.type "object") = some true
section
variable {K : PySem.W.Frag} {mg : Str → Option Value}
theorem tyx_ok {H F : Hp} {d : D} {v : V} {n : Kd} (s : Same F H) (r : Rp K mg F d v) (h : dKind d = some (.inl n)) : TyX K H v (.type n.nm) := by
  cases d <;> simp only [dKind, Option.some.injEq, Sum.inl.injEq, reduceCtorEq] at h
  · subst h; rw [rp_non] at r; subst r; exact .base .non
  · subst h; rw [rp_bl] at r; subst r; exact .base (.bl _)
  · subst h; rw [rp_int] at r; subst r; exact .base (.int _)
  · subst h; rw [rp_str] at r; subst r; exact .base (.str _)
  · subst h; rw [rp_byt] at r; subst r; exact .byt _
  · subst h; rw [rp_lst] at r; obtain ⟨a, xs, rfl, q, _⟩ := r; exact .base (.lst (s _ _ q))
  · subst h; rw [rp_tup] at r
    obtain ⟨a, xs, rfl, q, _⟩ := r
    exact .base (.tup (s _ _ q))
  · subst h; rw [rp_dk] at r; obtain ⟨a, xs, rfl, q, _⟩ := r; exact .base (.dK (s _ _ q))
  · subst h; unfold Rp at r; obtain ⟨a, xs, rfl, q, _⟩ := r; exact .base (.dT (s _ _ q))
theorem tyx_obj {H F : Hp} {c : Str} {C : Addr} {fs : List (Str × D)} {v : V} (s : Same F H) (r : Rp K mg F (.obj c fs) v) (h : ClI K mg c C) : TyX K H v (.ref C) := by
  rw [rp_obj] at r
  obtain ⟨a, C', dx, gs, rfl, h1, h2, _⟩ := r
  rw [h.cl.mg] at h1; cases h1
  exact .base (.ins (s _ _ h2) h.cl.cl h.ha h.hn h.ht h.hm)
def gIsi (tb : Kd → Option Bool) (to : Str → Option Bool) (d : D) : Option Bool := match dKind d with
  | some (.inl n) => tb n
  | some (.inr c) => to c
  | none => none
theorem isi_of {u : Value} {tb : Kd → Option Bool} {to : Str → Option Bool} (h1 : ∀ n b, tb n = some b → PySem.W.kitOne K (.type n.nm) u = some b) (h2 : ∀ c b, to c = some b → ∃ C, ClI K mg c C ∧ PySem.W.kitOne K (.ref C) u = some b) : IsiK K mg u (gIsi tb to) := by
  intro H F d v b s r e
  unfold gIsi at e
  split at e
  · rename_i n hk
    exact ⟨_, tyx_ok s r hk, h1 n b e⟩
  · rename_i c hk
    obtain ⟨C, hC, hb⟩ := h2 c b e
    cases d <;> simp only [dKind, Option.some.injEq, Sum.inr.injEq, reduceCtorEq] at hk
    subst hk
    exact ⟨_, tyx_obj s r hC, hb⟩
  · cases e
def tInt : Kd → Option Bool
  | .bool => some true
  | .int => some true
  | _ => some false
def tOnly (k : Kd) : Kd → Option Bool := fun n => some (decide (n = k))
theorem tStr_ok : ∀ n b, tOnly .str n = some b → PySem.W.kitOne K (.type n.nm) (.type "str") = some b := by
  intro n b h
  cases n <;> cases h <;> exact kit_ty (by decide +kernel)
theorem tBytes_ok : ∀ n b, tOnly .bytes n = some b → PySem.W.kitOne K (.type n.nm) (.type "bytes") = some b := by
  intro n b h
  cases n <;> cases h <;> exact kit_ty (by decide +kernel)
end
end
end Sr
namespace Sr
variable [TabL]
open PySem hiding start
open PySem.Spec L2
open PyProof.Rows hiding St
def gLt (a b : D) : Option D := (gI0 (fun i j => .bl (decide (i < j))) a b).or (gLtT a b)
def gLe : D → D → Option D := gI0 fun i j => .bl (decide (i ≤ j))
def gGt : D → D → Option D := gI0 fun i j => .bl (decide (j < i))
def gGe : D → D → Option D := gI0 fun i j => .bl (decide (j ≤ i))
structure Pl (X : Cx) (k : Nat) : Prop where
  room : Room k X.A
  gu : X.A.guards = some []
section
variable {X : Cx} {k : Nat}
theorem Pl.u64 (h : Pl X k) : X.A.units + 64 < cLine := h.room.units
theorem Pl.u100 (h : Pl X k) : X.A.units + 100 < cLine := by have := h.room.un; omega
theorem Pl.u0 (h : Pl X k) : X.A.units < cLine := h.room.units0
theorem p_lt (h : Pl X k) : Op2 X (compareOp .Lt) gLt := o_lt.or (o_ltT h.u0)
theorem p_gt : Op2 X (compareOp .Gt) gGt := o_gt
end
section
variable {X : Cx} {T : Pn} {W : WX} {pos p : Pos} {a : Expr} {es : List Expr} {ma : M D} {ms : M (List D)} {f : Fnc} {k j n : Nat} {x c g : Str} {ps : List Str} {dvs : List V} {dds : List D} {C : Addr}
theorem jv_gI {i : Int} (hg : Gl X x) (h : ∃ t, X.mg x = some (.int i t)) (hx : (x == ("__debug__" : Str)) = false := by decide) : JV X T W (.Name x pos) (ret (.int i)) := by
  obtain ⟨t, h⟩ := h
  exact jv_glob (v := .int i) hg h ⟨t, rfl⟩ (fun F => by rw [rp_int]) hx
theorem jv_gS {z : Str} (hg : Gl X x) (h : ∃ t, X.mg x = some (.str z t)) (hx : (x == ("__debug__" : Str)) = false := by decide) : JV X T W (.Name x pos) (ret (.str z)) := by
  obtain ⟨t, h⟩ := h
  exact jv_glob (v := .str z) hg h ⟨t, rfl⟩ (fun F => by rw [rp_str]) hx
theorem runCalV {fv : Value} {g1 : D → Option D} {σ : St} {H : Hp} {Q : VK} (hc : Cal1 X fv g1) (h : TV X.K X.mg T W (m1 g1 ma) σ H Q) : TV X.K X.mg T W ma σ H fun v H1 => rAnyC X fv [v] H1 Q := by
  obtain ⟨e, F, er, h⟩ := h
  refine ⟨e, F, er, h.bind.mono fun d e1 H1 F1 er1 mv1 h1 v hv => ?_⟩
  obtain ⟨z, hz, fin⟩ := h1.fin er1
  obtain ⟨r, hr, q⟩ := hc H1 F1 v d z er1.sub (Rp.rq er1.sub hv) hz
  exact ⟨r, hr, q Q fun H' F' z al hz => fin H' F' al z hz⟩
theorem jv_callV1 {id : String} {g1 : D → Option D} (hc : Cal1 X (.builtin id) g1) (hg : Gl X x) (hm : X.mg x = none) (hv : bootBuiltins x = some (.builtin id)) (ha : JV X T W a ma) (hn : x ≠ "__name__" := by decide) (hdb : (x == ("__debug__" : Str)) = false := by decide)
    (he : starEach [a] X.env = (false, eval a X.env) :: starEach [] X.env := by rfl) : JV X T W (.Call (.Name x p) [a] [] pos) (m1 g1 ma) :=
  PEimp (pe_callB callAny hg hm hv (pa_cons ha pa_nil he) hn hdb he rfl) fun σ H Q h => runCalV hc h
theorem jv_c0 (G : Fn X k x (spF0 X.K X.mg false n f) ps dvs) (hp : Pl X j) (tk : L2N.Takes X W) (hdd : ∀ F, RpL X.K X.mg F dds dvs) (hg : Gl X x) (ha : JL X T W (a :: es) ms) (hk : k ≤ j := by decide) (hn : (a :: es).length + dds.length = n := by rfl)
    (hdb : (x == ("__debug__" : Str)) = false := by decide) (he : starEach (a :: es) X.env = (false, eval a X.env) :: starEach es X.env := by rfl) (hpl : (backTo pos (starEach es X.env)).any (·.1) = false := by rfl) :
    JV X T W (.Call (.Name x p) (a :: es) [] pos) (mC0 f dds ms) := jv_call0 G (hp.room.mono hk) hp.gu tk hdd hg ha hn hdb he hpl
theorem jo_c0 (G : Fn X k x (spF0 X.K X.mg true n f) ps dvs) (hp : Pl X j) (tk : L2N.Takes X W) (hdd : ∀ F, RpL X.K X.mg F dds dvs) (hg : Gl X x) (ha : JL X T W (a :: es) ms) (hk : k ≤ j := by decide) (hn : (a :: es).length + dds.length = n := by rfl)
    (hdb : (x == ("__debug__" : Str)) = false := by decide) (he : starEach (a :: es) X.env = (false, eval a X.env) :: starEach es X.env := by rfl) (hpl : (backTo pos (starEach es X.env)).any (·.1) = false := by rfl) :
    JO X T W (.Call (.Name x p) (a :: es) [] pos) (mC0 f dds ms) := jo_call0 G (hp.room.mono hk) hp.gu tk hdd hg ha hn hdb he hpl
theorem jv_c1 (i : Nat) {y : Str} {py : Pos} (G : Fn X k x (spF1 X.K X.mg false n f) ps dvs) (hp : Pl X j) (tk : L2N.Takes X W) (hdd : ∀ F, RpL X.K X.mg F dds dvs) (hg : Gl X x) (hN : X.N[i]? = some y) (hv : Vis X.env.scope y) (ha : JL X T W es ms) (hk : k ≤ j := by decide) (hn : es.length + dds.length + 1 = n := by rfl)
    (hdb : (x == ("__debug__" : Str)) = false := by decide) (he : starEach (.Name y py :: es) X.env = (false, eval (.Name y py) X.env) :: starEach es X.env := by rfl) (hpl : (backTo pos (starEach es X.env)).any (·.1) = false := by rfl)
    (hd2 : (y == ("__debug__" : Str)) = false := by decide) (hcd : (y == ("__classdict__" : Str)) = false := by decide) :
    JV X T W (.Call (.Name x p) (.Name y py :: es) [] pos) (mC1 f i dds ms) := jv_call1 G (hp.room.mono hk) hp.gu tk hdd hg hN hv ha hn hdb he hpl hd2 hcd
theorem nodd : ∀ F, RpL X.K X.mg F [] [] := fun F => by rw [rl_nil]
end
abbrev FnC (P : Program) (w : World) (K : PySem.W.Frag) (mg : Str → Option Value) (base : Heap) (k : Nat) (x : Str) (sp : Sp) (ps : List Str) (dvs : List V) : Prop :=
  ∃ f fd ds, FnG P w K mg base k f fd ps sp ∧ mg x = some (.ref f) ∧ PySem.W.keepIn K (.ref f) = true ∧ Binds K fd ps ds ∧ Vals dvs ds
end Sr
namespace Sr
open PySem hiding start
open PySem.Spec L2
open PyProof.Rows hiding St
theorem DefZ.funD {K : PySem.W.Frag} {d : DefZ} (e : fnZ K (d.ad K) = d.val) (c : d.ok K = true) : ∃ fd, FunD K d.name d.qual (defArgs d.st) (defBody d.st) (defScope d.st) [] d.kwd (d.ad K) fd := by
  obtain ⟨kp, c2⟩ := He.ba c
  unfold fnZ at e
  cases q : K.lookup (d.ad K) with
  | none => rw [q] at c2; cases c2
  | some o =>
    obtain ⟨oc, od, dt, osl⟩ := o
    rw [q] at c2 e
    cases dt with
    | func fd =>
      obtain ⟨n1, n2, n3, n4, n5, n6, n7, n8, n9, n10, n11, n12, n13, n14, n15⟩ := fd
      have e2 : (some (n1, n2, n3, n4, n5, n6, n7, n15) : He.FnW) = some (d.name, d.qual, defArgs d.st, .stmts (defBody d.st), defScope d.st, mainGlobals, [], builtinsNs) := e
      simp only [Option.some.injEq, Prod.mk.injEq] at e2
      obtain ⟨h1, h2, h3, h4, h5, h6, h7, h8⟩ := e2
      subst h1 h2 h3 h4 h5 h6 h7 h8
      have c3 : (PySem.W.codeIn K n13 d.qual && (He.dflB K n8 [] && He.kwdB K n9 d.kwd)) = true := c2
      obtain ⟨k1, k2⟩ := He.ba c3
      obtain ⟨k3, k4⟩ := He.ba k2
      exact ⟨_, ⟨oc, od, n8, n9, n10, n11, n12, n13, n14, osl, rfl, q, k1, He.dflB_ok k3, He.kwdB_ok k4⟩, kp⟩
    | _ => cases c2
section
variable {fa : List He.Fa} {fn : List DefZ} {ex : PySem.W.Frag → Bool} {K : PySem.W.Frag}
theorem SaysZ.fact (c : SaysZ fa fn ex K) (i : Nat) {f : He.Fa} (h : fa[i]? = some f := by rfl) : f.ok K = true := List.all_eq_true.mp c.all.1 f (List.mem_of_getElem? h)
theorem SaysZ.def_ (c : SaysZ fa fn ex K) (i : Nat) {d : DefZ} (h : fn[i]? = some d := by rfl) : ∃ fd, FunD K d.name d.qual (defArgs d.st) (defBody d.st) (defScope d.st) [] d.kwd (d.ad K) fd := by
  have e : fn.map (fun d => fnZ K (d.ad K)) = fn.map DefZ.val := congrArg (fun z : AlZ => z.2) c
  have e2 : (fn.map fun d => fnZ K (d.ad K))[i]? = (fn.map DefZ.val)[i]? := by rw [e]
  rw [List.getElem?_map, List.getElem?_map, h] at e2
  exact DefZ.funD (Option.some.inj e2) (List.all_eq_true.mp c.all.2.1 d (List.mem_of_getElem? h))
end
theorem ownB_ok {K : PySem.W.Frag} {mg : Str → Option Value} {u : Value} {l : List (Str × Bool)} (h : ownB K u l = true) (hC : ∀ q ∈ l, ClI K mg q.1 (He.ga K q.1)) : ∀ c b, l.lookup c = some b → ∃ C, ClI K mg c C ∧ PySem.W.kitOne K (.ref C) u = some b := by
  intro c b e
  have hm : (c, b) ∈ l := PySem.mem_of_lookup e
  exact ⟨_, hC (c, b) hm, of_decide_eq_true (List.all_eq_true.mp h (c, b) hm)⟩
def gMul : D → D → Option D := gMulI
theorem o_mul [TabL] {X : Cx} : Op2 X (binaryOp .Mult) gMul := o_mulI
end Sr
namespace Sr
variable [TabL]
open PySem hiding start
open PySem.Spec L2
open PyProof.Rows hiding St
theorem bt_len : bootBuiltins "len" = some (.builtin "len") := by decide +kernel
theorem bt_max : bootBuiltins "max" = some (.builtin "max") := by decide +kernel
theorem bt_min : bootBuiltins "min" = some (.builtin "min") := by decide +kernel
theorem bt_repr : bootBuiltins "repr" = some (.builtin "repr") := by decide +kernel
theorem bt_all : bootBuiltins "all" = some (.builtin "all") := by decide +kernel
theorem bt_int : bootBuiltins "int" = some (.type "int") := by decide +kernel
theorem bt_str : bootBuiltins "str" = some (.type "str") := by decide +kernel
theorem bt_bytes : bootBuiltins "bytes" = some (.type "bytes") := by decide +kernel
end Sr
namespace Sr
open PySem hiding start
open L2
section
variable {A B : Type}
theorem bnd_ok {m : M A} {f : A → M B} {e e' : En} {a : A} (h : m e = .ok a e') : bnd m f e = f a e' := by unfold bnd; rw [h]
theorem lp_nx {b k : M Fl} {e e' : En} (h : b e = .ok .nx e') : lp b k e = k e' := by unfold lp; rw [h]
end
def turn (w : D → M Unit) (b : M Fl) (d : D) : M Fl := bnd (w d) fun _ => b
theorem forL_cons_nx {w : D → M Unit} {b : M Fl} {d : D} {ds : List D} {e e' : En} (h : turn w b d e = .ok .nx e') : forL w b (d :: ds) e = forL w b ds e' := by
  unfold turn bnd at h
  show bnd (w d) (fun _ => lp b (forL w b ds)) e = _
  unfold bnd
  cases q : w d e with
  | ok u e1 => rw [q] at h; exact lp_nx h
  | exc x e1 => rw [q] at h; cases h
  | bad => rw [q] at h; cases h
theorem forL_inv {w : D → M Unit} {b : M Fl} (I : En → Prop) : ∀ {ds : List D} {e : En}, (∀ d ∈ ds, ∀ e, I e → ∃ e', turn w b d e = .ok .nx e' ∧ I e') → I e → ∃ e', forL w b ds e = .ok .nx e' ∧ I e'
  | [], e, _, h => ⟨e, rfl, h⟩
  | d :: ds, e, hs, h => by
    obtain ⟨e1, h1, h2⟩ := hs d (by simp) e h
    obtain ⟨e2, h3, h4⟩ := forL_inv I (ds := ds) (fun d hd => hs d (List.mem_cons_of_mem _ hd)) h2
    exact ⟨e2, by rw [forL_cons_nx h1]; exact h3, h4⟩
end Sr
namespace Sr
open PySem hiding start
open L2
def irng (lo hi : Int) : List Int := (List.range (hi - lo).toNat).map fun (i : Nat) => lo + i
theorem rngL_eq (lo hi : Int) : rngL lo hi = (irng lo hi).map D.int := by
  unfold rngL irng
  rw [List.map_map]; rfl
theorem irng_mem {lo hi i : Int} (h : i ∈ irng lo hi) : lo ≤ i ∧ i < hi := by
  unfold irng at h
  rw [List.mem_map] at h
  obtain ⟨n, h1, rfl⟩ := h
  rw [List.mem_range] at h1
  omega
theorem forL_map {A B : Type} {w : D → M Unit} {b : M Fl} (f : B → D) (R : A → En → Prop) (step : A → B → A) (a : A) (xs : List B) (e : En)
    (hs : ∀ pre x post, xs = pre ++ x :: post → ∀ e, R (pre.foldl step a) e → ∃ e', turn w b (f x) e = .ok .nx e' ∧ R (step (pre.foldl step a) x) e') (h0 : R a e) : ∃ e', forL w b (xs.map f) e = .ok .nx e' ∧ R (xs.foldl step a) e' := by
  suffices H : ∀ (pre post : List B) (e : En), xs = pre ++ post → R (pre.foldl step a) e → ∃ e', forL w b (post.map f) e = .ok .nx e' ∧ R (xs.foldl step a) e' from H [] xs e rfl h0
  intro pre post
  induction post generalizing pre with
  | nil => intro e h hR; rw [List.append_nil] at h; subst h; exact ⟨e, rfl, hR⟩
  | cons x post ih =>
    intro e h hR
    obtain ⟨e1, h1, h2⟩ := hs pre x post h e hR
    obtain ⟨e2, h3, h4⟩ := ih (pre ++ [x]) e1 (by rw [h]; simp) (by rw [List.foldl_append]; exact h2)
    exact ⟨e2, by rw [List.map_cons, forL_cons_nx h1]; exact h3, h4⟩
theorem cmul_l {i j : Int} (h1 : -18446744073709551616 < i) (h2 : i < 18446744073709551616) : cMul i j = true := by
  unfold cMul; simp; left; exact ⟨h1, h2⟩
def PenOk (o : D) : Prop := ∃ a b c : Int, o = .lst [.int a, .int b, .int c] ∧ 0 ≤ a ∧ 0 ≤ b ∧ b ≤ 2147483647
end Sr
namespace Sr
open PySem hiding start
open L2
structure Sh (d : D) (k n : Nat) (p : PyData) : Prop where
  eq : toP d = some p
  sh : p.showable = true
  nd : p.hasDict = false
  dp : p.depth ≤ k
  ln : p.shown.length ≤ n
structure ShL (ds : List D) (k n : Nat) (ps : List PyData) : Prop where
  eq : toPL ds = some ps
  sh : PyData.showableAll ps = true
  nd : PyData.hasDictAll ps = false
  dp : PyData.depthAll ps ≤ k
  ln : piled (PyData.shownAll ps) ≤ n
theorem tupleText_le (ts : List Str) : (tupleText ts).length ≤ piled ts + 3 := by
  unfold tupleText
  rw [strLen_append, strLen_append]
  have h1 : (("(" : Str)).length = 1 := by decide +kernel
  have h2 : (((if ts.length == 1 then ",)" else ")" : String) : Str)).length ≤ 2 := by split <;> decide +kernel
  cases ts with
  | nil =>
    have h3 : (Str.join ", " ([] : List Str)).length = 0 := by decide +kernel
    rw [h3]; omega
  | cons t r =>
    have h3 := join_length_add (t :: r) (by simp)
    omega
theorem shl_nil : ShL [] 0 0 [] := ⟨rfl, rfl, rfl, Nat.le_refl _, Nat.le_refl _⟩
theorem shl_cons {d : D} {ds : List D} {k k' n n' : Nat} {p : PyData} {ps : List PyData} (h : Sh d k n p) (hs : ShL ds k' n' ps) : ShL (d :: ds) (max k k') (n + 2 + n') (p :: ps) := by
  refine ⟨by simp only [toPL, h.eq, hs.eq, Option.bind_some, Option.map_some], by simp only [PyData.showableAll, h.sh, hs.sh, Bool.and_self], by simp only [PyData.hasDictAll, h.nd, hs.nd, Bool.or_self], ?_, ?_⟩
  · have := h.dp; have := hs.dp; simp only [PyData.depthAll]; omega
  · have := h.ln; have := hs.ln; simp only [PyData.shownAll, piled_cons]; omega
theorem sh_tup {ds : List D} {k n : Nat} {ps : List PyData} (h : ShL ds k n ps) : Sh (.tup ds) (k + 1) (n + 3) (.tuple ps) := by
  refine ⟨by simp only [toP, h.eq, Option.map_some], by simp only [PyData.showable]; exact h.sh, by simp only [PyData.hasDict]; exact h.nd, ?_, ?_⟩
  · have := h.dp; simp only [PyData.depth]; omega
  · have := tupleText_le (PyData.shownAll ps); have := h.ln; simp only [PyData.shown]; omega
theorem repr_tup {ds : List D} {k n : Nat} {p : PyData} (h : Sh (.tup ds) k n p) (hk : k ≤ 64) (hn : n ≤ 16777216) : gRepr (.tup ds) = some (.str p.shown) := by
  have h1 := h.dp; have h2 := h.ln
  have hs : sizeLine = 16777216 := by decide
  simp only [gRepr, h.eq, h.sh, h.nd, Bool.not_false, Bool.and_true, Bool.true_and, Bool.and_eq_true, decide_eq_true_eq]
  rw [if_pos ⟨by omega, by rw [hs]; omega⟩]
end Sr
namespace Sr
variable [TabL]
open PySem hiding start
open PySem.Spec L2
open PyProof.Rows hiding St
def W0 : WX := fun _ _ _ _ => False
theorem takes0 {X : Cx} : L2N.Takes X W0 := fun u s' ⟨a, B, sI, pins, σ, H, cls, d, e, I, nb, up, sky, na, os, ag, w⟩ => w.elim
def wipE : List Nat → En → En
  | [], e => e
  | v :: vs, e => (wipE vs e).set v .no
def rst : List Nat → En → En → En
  | [], _, e2 => e2
  | v :: vs, e1, e2 => (rst vs e1 e2).set v (match e1[v]? with
    | some (.val d) => .val d
    | _ => .no)
theorem wipE_len : ∀ (vs : List Nat) (e : En), (wipE vs e).length = e.length
  | [], _ => rfl
  | v :: vs, e => by unfold wipE; rw [List.length_set, wipE_len vs e]
theorem rst_len : ∀ (vs : List Nat) (e1 e : En), (rst vs e1 e).length = e.length
  | [], _, _ => rfl
  | v :: vs, e1, e => by unfold rst; rw [List.length_set, rst_len vs e1 e]
theorem wipE_get : ∀ {vs : List Nat} {e : En} {j : Nat} {x : Sl}, (wipE vs e)[j]? = some x → x ≠ .no → j ∉ vs ∧ e[j]? = some x
  | [], e, j, x, h, _ => ⟨by simp, h⟩
  | v :: vs, e, j, x, h, n => by
    unfold wipE at h
    by_cases hj : v = j
    · subst hj
      by_cases hl : v < (wipE vs e).length
      · rw [List.getElem?_set_self hl] at h; cases h; exact (n rfl).elim
      · rw [List.getElem?_eq_none (by rw [List.length_set]; omega)] at h; cases h
    · rw [List.getElem?_set_ne hj] at h
      obtain ⟨h1, h2⟩ := wipE_get h n
      exact ⟨by simp only [List.mem_cons, not_or]; exact ⟨fun q => hj q.symm, h1⟩, h2⟩
theorem rst_get : ∀ {vs : List Nat} {e1 e : En} {j : Nat} {x : Sl}, (rst vs e1 e)[j]? = some x → x ≠ .no → (j ∉ vs ∧ e[j]? = some x) ∨ ((∃ d, x = .val d) ∧ e1[j]? = some x)
  | [], e1, e, j, x, h, _ => .inl ⟨by simp, h⟩
  | v :: vs, e1, e, j, x, h, n => by
    unfold rst at h
    by_cases hj : v = j
    · subst hj
      by_cases hl : v < (rst vs e1 e).length
      · rw [List.getElem?_set_self hl] at h
        cases q : e1[v]? with
        | none => rw [q] at h; cases h; exact (n rfl).elim
        | some s =>
          rw [q] at h
          cases s with
          | no => cases h; exact (n rfl).elim
          | own d => cases h; exact (n rfl).elim
          | val d => cases h; exact .inr ⟨⟨d, rfl⟩, rfl⟩
      · rw [List.getElem?_eq_none (by rw [List.length_set]; omega)] at h; cases h
    · rw [List.getElem?_set_ne hj] at h
      rcases rst_get h n with ⟨h1, h2⟩ | h1
      · exact .inl ⟨by simp only [List.mem_cons, not_or]; exact ⟨fun q => hj q.symm, h1⟩, h2⟩
      · exact .inr h1
theorem wipe_get {σ : St} {j : Nat} : ∀ {vs : List Nat}, (wipe σ vs)[j]? = if j ∈ vs ∧ j < σ.length then some none else σ[j]?
  | [] => by simp [wipe]
  | v :: vs => by
    unfold wipe
    by_cases hj : v = j
    · subst hj
      by_cases hl : v < σ.length
      · rw [List.getElem?_set_self (by rw [wipe_length]; exact hl), if_pos ⟨by simp, hl⟩]
      · rw [List.getElem?_eq_none (by rw [List.length_set, wipe_length]; omega), if_neg (fun z => hl z.2), List.getElem?_eq_none (by omega)]
    · rw [List.getElem?_set_ne hj, wipe_get (vs := vs)]
      have : j ∈ v :: vs ↔ j ∈ vs := by simp only [List.mem_cons]; exact ⟨fun z => z.elim (fun q => (hj q.symm).elim) id, .inr⟩
      simp only [this]
theorem wipe_set {σ : St} {i : Nat} {x : Option V} {vs : List Nat} (h : i ∈ vs) : wipe (σ.set i x) vs = wipe σ vs := by
  refine List.ext_getElem? fun j => ?_
  rw [wipe_get, wipe_get, List.length_set]
  by_cases hj : j ∈ vs ∧ j < σ.length
  · rw [if_pos hj, if_pos hj]
  · rw [if_neg hj, if_neg hj]
    by_cases hij : i = j
    · subst hij
      have : ¬ i < σ.length := fun z => hj ⟨h, z⟩
      rw [List.getElem?_eq_none (by rw [List.length_set]; omega), List.getElem?_eq_none (by omega)]
    · rw [List.getElem?_set_ne hij]
section
variable {K : PySem.W.Frag} {mg : Str → Option Value} {T : Pn} {W : WX} {e e0 e1 e2 : En} {σ σ0 : St} {H F H0 F0 H1 F1 F2 : Hp} {p : Addr} {o : HO} {vs : List Nat}
theorem Mv.updNew (m : Mv e0 σ0 H0 F0 e σ H F) (n : H0 p = none) : Mv e0 σ0 H0 F0 e σ (upd H p o) F := by
  refine ⟨m.sub, fun a u h w => ?_, m.new, fun a h => ?_⟩
  · obtain ⟨h1, h2⟩ := m.keep a u h w
    exact ⟨fun zz => by rw [upd_ne (ne_of_none h n)]; exact h1 zz, h2⟩
  · by_cases ha : a = p
    · subst ha; exact n
    · rw [upd_ne ha] at h; exact m.there a h
theorem ER.updFree (er : ER K mg T e σ H F) (n : F p = none) (w : ¬ Ow e σ p) (hx : ∀ u, H p = some u → NTb u ∧ ∀ φ, u ≠ .ext φ := by first | exact uf_none (by assumption) | exact uf_some (by assumption) (by intro _ z; cases z) (by intro _ z; cases z) | exact uf_some upd_same (by intro _ z; cases z) (by intro _ z; cases z)) (no : NTb o := by first | assumption | (intro _ z; exact nomatch z) | (intro _ z; cases z)) : ER K mg T e σ (upd H p o) F := by
  refine ⟨fun b u q => ?_, er.val, fun i d h => ?_, er.inj, er.len, er.pin, er.tb.upW (fun ps z => (hx _ z).1 ps rfl) (fun q z => (hx _ z).2 _ rfl) no⟩
  · rw [upd_ne (ne_of_none q n)]; exact er.sub b u q
  · obtain ⟨q, h1, h2, h3⟩ := er.own i d h
    refine ⟨q, h1, h2, h3.keep (Same.refl _) fun u hu => ?_⟩
    rw [upd_ne]; exact hu
    rintro rfl
    exact w ⟨i, d, h, h1⟩
theorem ER.wip (er : ER K mg T e σ H F) (hT : ∀ v ∈ vs, NoP T v) : ER K mg T (wipE vs e) (wipe σ vs) H F ∧ Mv e σ H F (wipE vs e) (wipe σ vs) H F := by
  have ow : ∀ a, Ow (wipE vs e) (wipe σ vs) a → Ow e σ a := fun a ⟨j, d, h1, h2⟩ => by
    obtain ⟨h3, h4⟩ := wipE_get h1 (fun z => nomatch z)
    rw [wipe_out h3] at h2
    exact ⟨j, d, h4, h2⟩
  refine ⟨⟨er.sub, fun i d h => ?_, fun i d h => ?_, fun i j q d d' h1 h2 h3 h4 => ?_, by rw [wipE_len, wipe_length]; exact er.len, fun q hq => ?_, er.tb⟩, Same.refl _, fun a u h n => ⟨fun _ => h, fun z => n (ow a z)⟩, fun a u h => .inl h, fun a h => h⟩
  · obtain ⟨h1, h2⟩ := wipE_get h (fun z => nomatch z)
    obtain ⟨v, h3, h4⟩ := er.val i d h2
    exact ⟨v, by rw [wipe_out h1]; exact h3, h4⟩
  · obtain ⟨h1, h2⟩ := wipE_get h (fun z => nomatch z)
    obtain ⟨v, h3, h4⟩ := er.own i d h2
    exact ⟨v, by rw [wipe_out h1]; exact h3, h4⟩
  · obtain ⟨g1, g2⟩ := wipE_get h1 (fun z => nomatch z)
    obtain ⟨g3, g4⟩ := wipE_get h2 (fun z => nomatch z)
    rw [wipe_out g1] at h3; rw [wipe_out g3] at h4
    exact er.inj i j q d d' g2 g4 h3 h4
  · rw [wipe_out (fun z => hT _ z q hq rfl)]; exact er.pin q hq
theorem ER.rst (er : ER K mg T e2 (wipe σ vs) H F2) (er1 : ER K mg T e1 σ H1 F1) (mv : Mv e1 σ H1 F1 e2 (wipe σ vs) H F2) (hl : e2.length = e1.length) : ER K mg T (Sr.rst vs e1 e2) σ H F2 ∧ Mv e1 σ H1 F1 (Sr.rst vs e1 e2) σ H F2 := by
  have ow : ∀ j d, (Sr.rst vs e1 e2)[j]? = some (.own d) → j ∉ vs ∧ e2[j]? = some (.own d) := fun j d h => by
    rcases rst_get h (fun z => nomatch z) with h1 | ⟨⟨d', h1⟩, _⟩
    · exact h1
    · cases h1
  refine ⟨⟨er.sub, fun i d h => ?_, fun i d h => ?_, fun i j q d d' h1 h2 h3 h4 => ?_, by rw [rst_len, hl]; exact er1.len, er1.pin, er.tb⟩, mv.sub, fun a u h n => ?_, mv.new, mv.there⟩
  · rcases rst_get h (fun z => nomatch z) with ⟨h1, h2⟩ | ⟨_, h2⟩
    · obtain ⟨v, h3, h4⟩ := er.val i d h2
      exact ⟨v, by rw [wipe_out h1] at h3; exact h3, h4⟩
    · obtain ⟨v, h3, h4⟩ := er1.val i d h2
      exact ⟨v, h3, Rp.mono mv.sub _ _ h4⟩
  · obtain ⟨h1, h2⟩ := ow i d h
    obtain ⟨v, h3, h4⟩ := er.own i d h2
    exact ⟨v, by rw [wipe_out h1] at h3; exact h3, h4⟩
  · obtain ⟨g1, g2⟩ := ow i d h1
    obtain ⟨g3, g4⟩ := ow j d' h2
    exact er.inj i j q d d' g2 g4 (by rw [wipe_out g1]; exact h3) (by rw [wipe_out g3]; exact h4)
  · obtain ⟨h1, h2⟩ := mv.keep a u h n
    refine ⟨h1, fun ⟨j, d, q1, q2⟩ => h2 ?_⟩
    obtain ⟨g1, g2⟩ := ow j d q1
    exact ⟨j, d, g2, by rw [wipe_out g1]; exact q2⟩
end
def TH (K : PySem.W.Frag) (mg : Str → Option Value) (T : Pn) (vs : List Nat) (w : D → M Unit) : TG := fun v σ H Q => ∃ e F d, ER K mg T e σ H F ∧ Rp K mg F d v ∧
  match w d e with
  | .ok _ e' => ∀ σ' H' F', ER K mg T e' σ' H' F' → Mv e σ H F e' σ' H' F' → wipe σ' vs = wipe σ vs → Q σ' H'
  | _ => False
abbrev JH (X : Cx) (T : Pn) (vs : List Nat) (tg : Expr) (w : D → M Unit) : Prop := PG X tg (TH X.K X.mg T vs w)
def lcL (w : D → M Unit) (t : M Bool) (el : M D) (vs : List Nat) : List D → List D → M (List D)
  | [], acc => ret acc
  | d :: ds, acc => bnd (w d) fun _ => bnd t fun b => if b = true then bnd el fun y => (if acc.length < sizeLine then fun e => lcL w t el vs ds (acc ++ [y]) (wipE vs e) else fun _ => .bad) else fun e => lcL w t el vs ds acc (wipE vs e)
def mLc (vs : List Nat) (m : M (List D)) (w : D → M Unit) (t : M Bool) (el : M D) : M D := bnd m fun ds e1 => match lcL w t el vs ds [] (wipE vs e1) with
  | .ok acc e2 => .ok (.lst acc) (rst vs e1 e2)
  | _ => .bad
def mYes : M Bool := ret true
theorem bnd_inv {A B : Type} {m : M A} {f : A → M B} {e e2 : En} {b : B} (h : bnd m f e = .ok b e2) : ∃ a e1, m e = .ok a e1 ∧ f a e1 = .ok b e2 := by
  unfold bnd at h
  cases q : m e with
  | ok a e1 => rw [q] at h; exact ⟨a, e1, rfl, h⟩
  | exc x e1 => rw [q] at h; cases h
  | bad => rw [q] at h; cases h
section
variable {X : Cx} {T : Pn} {W : WX} {pos : Pos}
theorem jh_name {i : Nat} {x : Str} {vs : List Nat} (hT : NoP T i) (hN : X.N.Nodup) (hi : X.N[i]? = some x) (hx : Loc X.env.scope x) (hm : i ∈ vs) (hf : X.fn x = true ∨ X.env.scope.names.lookup x = some .local := by first | exact .inl rfl | exact .inr rfl | assumption) : JH X T vs (.Name x pos) (gN i) := by
  refine ⟨fun pins s σ H v u Q I r h => (pg_name hN hi hx hf).run pins s σ H v u Q I r ?_⟩
  obtain ⟨e, F, d, er, rd, h⟩ := h
  obtain ⟨er2, mv2⟩ := er.setV hT rd
  exact h _ H F er2 mv2 (wipe_set hm)
abbrev JTs (X : Cx) (T : Pn) (W : WX) (ifs : List Expr) (m : M Bool) : Prop := PTs X ifs (TT' X.K X.mg T W m)
theorem jts_nil : JTs X T W [] mYes := ⟨fun pins s σ H Q I ⟨e, F, er, h⟩ => pts_nil.run pins s σ H Q I (h H F er Mv.refl)⟩
theorem lc_imp {vs : List Nat} {m : M (List D)} {w : D → M Unit} {t : M Bool} {el : M D} {σ : St} {H : Hp} {Q : VK} (hT : ∀ v ∈ vs, NoP T v) (h : TO X.K X.mg T W (mLc vs m w t el) σ H Q) : tLc (TIt X.K X.mg T W m) (TH X.K X.mg T vs w) (TT' X.K X.mg T W0 t) (TV X.K X.mg T W0 el) vs σ H Q := by
  obtain ⟨e, F, er, h⟩ := h
  refine ⟨e, F, er, h.bind.mono fun ds e1 H1 F1 er1 mv1 h1 J wk D hD => ?_⟩
  obtain ⟨G, Y, wlk, hG, hY⟩ := wk
  unfold RunAt at h1
  cases q : lcL w t el vs ds [] (wipE vs e1) with
  | exc x e2 => simp only [q] at h1
  | bad => simp only [q] at h1
  | ok acc eF =>
    simp only [q] at h1
    obtain ⟨erw, mvw⟩ := er1.wip (vs := vs) hT
    have fD : F1 D = none := er1.sub.free hD
    have nD : ¬ Ow (wipE vs e1) (wipe σ vs) D := Ow.ne_of_free erw hD
    refine lc_it wlk (fun i H' => ∃ e2 F2 ac xs, ER X.K X.mg T e2 (wipe σ vs) H' F2 ∧ Mv e1 σ H1 F1 e2 (wipe σ vs) H' F2 ∧ F2 D = none ∧ ¬ Ow e2 (wipe σ vs) D ∧ H' D = some (.lst xs) ∧ RpL X.K X.mg F2 ac xs ∧ lcL w t el vs (ds.drop i) ac e2 = .ok acc eF)
      ⟨wipE vs e1, F1, [], [], erw.updFree fD nD, mvw.updNew hD, fD, nD, upd_same, by rw [rl_nil], q⟩ (fun i H' _ ⟨e2, F2, ac, xs, er2, mv2, _⟩ => hG H' (mv2.sub.trans er2.sub)) ?_ ?_
    · rintro i x H2 H3 hi ⟨e2, F2, ac, xs, er2, mv2, fD2, nD2, hD2, rl2, q2⟩ y
      obtain ⟨F3, d, al, hd, rd⟩ := hY i H2 F2 x H3 hi mv2.sub er2.sub y
      have er3 := er2.al al
      have mv3 := mv2.trans (Mv.al er2 al)
      have keepD : ∀ {e4 : En} {σ4 : St} {H4 F4 : Hp}, Mv e2 (wipe σ vs) H2 F2 e4 σ4 H4 F4 → H4 D = some (.lst xs) ∧ ¬ Ow e4 σ4 D ∧ F4 D = none := fun {e4 σ4 H4 F4} mv => by
        obtain ⟨k1, k2⟩ := mv.keep D _ hD2 nD2
        refine ⟨k1 (by first | assumption | (intro _ z; exact nomatch z) | (intro _ z; cases z)), k2, ?_⟩
        cases z : F4 D with
        | none => rfl
        | some u =>
          rcases mv.new D u z with z | z | z
          · rw [fD2] at z; cases z
          · rw [hD2] at z; cases z
          · exact (nD2 z).elim
      have hdr : ds.drop i = d :: ds.drop (i + 1) := by
        rw [List.drop_eq_getElem_cons hi]
        have : ds[i] = d := by rw [List.getElem?_eq_getElem hi] at hd; exact Option.some.inj hd
        rw [this]
      rw [hdr] at q2
      unfold lcL at q2
      obtain ⟨_, e4, w4, q2⟩ := bnd_inv q2
      obtain ⟨b, e5, t5, q2⟩ := bnd_inv q2
      refine ⟨e2, F3, d, er3, rd, ?_⟩
      rw [w4]
      intro σ4 H4 F4 er4 mv4 ws
      refine ⟨ws.trans (by refine List.ext_getElem? fun j => ?_; rw [wipe_get, wipe_get, wipe_length]; by_cases hj : j ∈ vs ∧ j < σ.length <;> simp only [hj, if_true, if_false, and_self]), e4, F4, er4, RunAt.of t5 fun H5 F5 er5 mv5 => ?_⟩
      cases b with
      | false =>
        rw [if_neg (by decide)] at q2 ⊢
        have mm := ((Mv.al er2 al).trans mv4).trans mv5
        obtain ⟨k1, k2, k3⟩ := keepD mm
        obtain ⟨er6, mv6⟩ := er5.wip (vs := vs) hT
        have wz : wipe σ4 vs = wipe σ vs := ws.trans (by refine List.ext_getElem? fun j => ?_; rw [wipe_get, wipe_get, wipe_length]; by_cases hj : j ∈ vs ∧ j < σ.length <;> simp only [hj, if_true, if_false, and_self])
        rw [wz] at er6 mv6
        have mm2 := mm.trans mv6
        obtain ⟨_, k2', _⟩ := keepD mm2
        exact ⟨_, F5, ac, xs, er6, mv2.trans mm2, k3, k2', k1, RpL.mono mm.sub _ _ rl2, q2⟩
      | true =>
        rw [if_pos rfl] at q2 ⊢
        obtain ⟨y', e6, el6, q2⟩ := bnd_inv q2
        refine ⟨e5, F5, er5, RunAt.of el6 fun H6 F6 er6 mv6 v hv => ?_⟩
        have mm := (((Mv.al er2 al).trans mv4).trans mv5).trans mv6
        obtain ⟨k1, k2, k3⟩ := keepD mm
        split at q2
        · rename_i hz
          obtain ⟨er7, mv7⟩ := er6.wip (vs := vs) hT
          have wz : wipe σ4 vs = wipe σ vs := ws.trans (by refine List.ext_getElem? fun j => ?_; rw [wipe_get, wipe_get, wipe_length]; by_cases hj : j ∈ vs ∧ j < σ.length <;> simp only [hj, if_true, if_false, and_self])
          rw [wz] at er7 mv7
          have mm2 := mm.trans mv7
          obtain ⟨_, k2', _⟩ := keepD mm2
          have rl6 := RpL.mono mm.sub _ _ rl2
          refine ⟨xs, k1, by rw [← rl2.len]; exact hz, _, F6, ac ++ [y'], xs ++ [v], er7.updFree k3 k2', (mv2.trans mm2).updNew hD, k3, k2', upd_same, rl6.append (by rw [rl_cons]; exact ⟨v, [], rfl, hv, by rw [rl_nil]⟩), q2⟩
        · cases q2
    · rintro H2 ⟨e2, F2, ac, xs, er2, mv2, fD2, nD2, hD2, rl2, q2⟩
      rw [List.drop_length] at q2
      have hl : e2.length = e1.length := by rw [er2.len, wipe_length, er1.len]
      cases q2
      obtain ⟨er3, mv3⟩ := er2.rst er1 mv2 hl
      refine h1 H2 F2 er3 mv3 D (mv1.there D hD) fD2 (fun z => nD2 (by
        obtain ⟨j, d, q1, q2⟩ := z
        rcases rst_get q1 (fun z => nomatch z) with ⟨g1, g2⟩ | ⟨⟨d', g1⟩, _⟩
        · exact ⟨j, d, g2, by rw [wipe_out g1]; exact q2⟩
        · cases g1)) ⟨xs, hD2, rl2⟩
theorem Pl.blk {k : Nat} {s : Shared} {H : Hp} {scope : Scope} {en : Env} {fp : List Addr} (h : Pl X k) : Pl (X.blk s H scope en fp) k := ⟨h.room, h.gu⟩
section
variable {elt tg iter : Expr} {ifs : List Expr} {scope : Scope} {m : M (List D)} {w : D → M Unit} {t : M Bool} {el : M D} {k : Nat}
theorem jo_lc (own : List (Str × Nat)) (hp : Pl X k) (hc : X.calm = true) (hN : X.N.Nodup) (hT : ∀ v ∈ own.map (·.2), NoP T v) (ok : BlkOk X.N X.env.scope scope own) (hi : JI X T W tg iter m)
    (hg : ∀ (s : Shared) (H : Hp) (C : Addr) (cl : List (Str × Addr)) (fp : List Addr), Pl (X.blk s H scope (compEnvC scope cl C X.env) fp) k → JH (X.blk s H scope (compEnvC scope cl C X.env) fp) T (own.map (·.2)) tg w)
    (ht : ∀ (s : Shared) (H : Hp) (C : Addr) (cl : List (Str × Addr)) (fp : List Addr), Pl (X.blk s H scope (compEnvC scope cl C X.env) fp) k → JTs (X.blk s H scope (compEnvC scope cl C X.env) fp) T W0 ifs t)
    (he : ∀ (s : Shared) (H : Hp) (C : Addr) (cl : List (Str × Addr)) (fp : List Addr), Pl (X.blk s H scope (compEnvC scope cl C X.env) fp) k → JV (X.blk s H scope (compEnvC scope cl C X.env) fp) T W0 elt el) (hs : ∀ x, foldedSetIterable iter X.env x = pure x := by intro _; rfl) :
    JO X T W (.ListComp elt [⟨tg, iter, ifs, 0⟩] scope pos) (mLc (own.map (·.2)) m w t el) :=
  PEimp (pe_lc (g := TH X.K X.mg T (List.map (fun q : Str × Nat => q.2) own) w) (tt := TT' X.K X.mg T W0 t) (te := TV X.K X.mg T W0 el) hc hN hi ok (fun s H C cl fp => hg s H C cl fp hp.blk) (fun s H C cl fp => ht s H C cl fp hp.blk) (fun s H C cl fp => he s H C cl fp hp.blk) hs) fun σ H Q h => lc_imp hT h
end
end
end Sr
namespace Sr
variable [TabL]
open PySem hiding start
open PySem.Spec L2
open PyProof.Rows hiding St
structure Rai (K : PySem.W.Frag) (mg : Str → Option Value) (x : Str) : Prop where
  g : mg x = some (.ref (He.ga K x))
  q : PySem.W.excIn K (He.ga K x) He.veBase "ValueError.__new__" = true
  k : PySem.W.keepIn K (.ref (He.ga K x)) = true
  s : PySem.W.subIn K (.ref (He.ga K x)) (.type "BaseException") = some true
  t : PySem.W.typeIn K (.ref (He.ga K x)) = some (.type "type")
theorem rai_of {K : PySem.W.Frag} {mg : Str → Option Value} {x : Str} (g : mg x = some (.ref (He.ga K x))) (c : (He.Fa.exc x).ok K = true) : Rai K mg x := by
  obtain ⟨h1, h2, h3, h4⟩ := He.exc_ok c
  exact ⟨g, h1, h2, h3, h4⟩
def sRaise (x : Str) : M Fl := fun e => .exc ⟨x, []⟩ e
section
variable {X : Cx} {T : Pn} {W : WX} {pos : Pos}
theorem js_raise {x m : Str} {j : Nat} {p p2 pos' : Pos} (hc : X.calm = true) (tk : L2N.Takes X W) (R : Rai X.K X.mg x) (hg : Gl X x) (hdb : (x == ("__debug__" : Str)) = false := by decide) :
    JS X T W (.Raise (some (.Call (.Name x p) [.Constant (.str m) j p2] [] pos')) none pos) (sRaise x) :=
  PSimp (L2N.ps_raise hc tk (L2N.pmk_own PySem.F.excBase_ValueError R.q R.g R.k (raises_own R.s R.t) hg hdb)) fun Dn σ H ⟨e, F, er, h⟩ => h σ H F _ none er Mv.refl ⟨R.g, .inl ⟨rfl, rfl⟩⟩
end
section
variable {X : Cx} {T : Pn} {W : WX} {pos : Pos} {k : Nat}
theorem Pl.tr {pn : List (Addr × Obj)} {xe : Value → Shared → Prop} (h : Pl X k) : Pl (X.tr pn xe) k := ⟨h.room, h.gu⟩
def Cat (K : PySem.W.Frag) (mg : Str → Option Value) (c : Value) (ct : Str → Option Bool) : Prop := ∀ y b, ct y = some b → ∀ cl, mg y = some cl → PySem.W.exmOne K cl c = some b
def IsE (K : PySem.W.Frag) (mg : Str → Option Value) (cv : Value) (tbl : List (Str × Bool)) : Prop := ∀ c b, tbl.lookup c = some b → ∃ C, mg c = some (.ref C) ∧ ExcC K C ∧ PySem.W.kitOne K (.ref C) cv = some b
def mIsE (tbl : List (Str × Bool)) (ex : Ex) : M D := opt (if ex.fs.isEmpty = true then (tbl.lookup ex.c).map .bl else none)
end
theorem excB_ok {K : PySem.W.Frag} {x : Str} (h : excB K x = true) : ExcC K (He.ga K x) := by
  unfold excB cliB at h
  simp only [Bool.and_eq_true, decide_eq_true_eq] at h
  exact ⟨h.1, h.2.1, h.2.2.1, h.2.2.2.1, h.2.2.2.2.1, h.2.2.2.2.2.1, h.2.2.2.2.2.2.1, h.2.2.2.2.2.2.2⟩
theorem cat_of {K : PySem.W.Frag} {mg : Str → Option Value} {u : Value} {l : List (Str × Bool)} (h : catB K u l = true) (hg : ∀ q ∈ l, mg q.1 = some (.ref (He.ga K q.1))) : Cat K mg u fun y => l.lookup y := by
  intro y b e cl hm
  have hq : (y, b) ∈ l := PySem.mem_of_lookup e
  rw [hg _ hq] at hm
  cases hm
  exact of_decide_eq_true (List.all_eq_true.mp h (y, b) hq)
theorem isE_of {K : PySem.W.Frag} {mg : Str → Option Value} {u : Value} {l : List (Str × Bool)} (h : exsB K u l = true) (hg : ∀ q ∈ l, mg q.1 = some (.ref (He.ga K q.1))) : IsE K mg u l := by
  intro c b e
  have hq : (c, b) ∈ l := PySem.mem_of_lookup e
  have z := List.all_eq_true.mp h (c, b) hq
  rw [Bool.and_eq_true] at z
  exact ⟨_, hg _ hq, excB_ok z.1, of_decide_eq_true z.2⟩
end Sr
namespace Sr
variable [TabL]
open PySem hiding start
open PySem.Spec L2
open PyProof.Rows hiding St
section
variable {K : PySem.W.Frag} {mg : Str → Option Value} {F : Hp}
def cutD (ds : List D) (lo hi : Option Int) : List D := (ds.drop (HT.sIx ds.length 0 lo)).take (HT.sIx ds.length ds.length hi - HT.sIx ds.length 0 lo)
theorem RpL.cut {ds : List D} {xs : List V} (h : RpL K mg F ds xs) (lo hi : Option Int) : RpL K mg F (cutD ds lo hi) (cutV xs lo hi) := by
  unfold cutD cutV
  rw [h.len]
  exact (h.drop _).take _
end
def gSl : D → Option Int → Option Int → Option D
  | .lst ds, lo, hi => some (.lst (cutD ds lo hi))
  | .tup ds, lo, hi => some (.tup (cutD ds lo hi))
  | .str z, lo, hi => if z.length ≤ sizeLine then some (.str (cutS z lo hi)) else none
  | _, _, _ => none
def mSl (m : M D) (ml mh : M (Option Int)) : M D := bnd m fun d => bnd ml fun l => bnd mh fun h => opt (gSl d l h)
def mNoP : M (Option Int) := ret none
def asI : D → Option (Option Int)
  | .int i => some (some i)
  | _ => none
def mPart (m : M D) : M (Option Int) := bnd m fun d => opt (asI d)
def TPt (K : PySem.W.Frag) (mg : Str → Option Value) (T : Pn) (W : WX) (m : M (Option Int)) : L2.TO := fun σ H Q => ∃ e F, ER K mg T e σ H F ∧ RunAt K mg T W e F m σ H fun o _ H' F' => Q o H'
abbrev JP (X : Cx) (T : Pn) (W : WX) (e : Option Expr) (m : M (Option Int)) : Prop := PO X e (TPt X.K X.mg T W m)
theorem POimp {X : Cx} {e : Option Expr} {t t' : L2.TO} (h : PO X e t) (k : ∀ σ H Q, t' σ H Q → t σ H Q) : PO X e t' := ⟨fun pins s σ H Q I q => h.run pins s σ H Q I (k σ H Q q)⟩
section
variable {X : Cx} {T : Pn} {W : WX} {pos p2 : Pos} {a : Expr} {ma : M D} {lo hi : Option Expr} {ml mh : M (Option Int)}
theorem jp_none : JP X T W none mNoP := POimp po_none fun σ H Q ⟨e, F, er, h⟩ => h.rfin er H F Al.refl
theorem jp_some (ha : JV X T W a ma) : JP X T W (some a) (mPart ma) := by
  refine POimp (po_some ha) fun σ H Q ⟨e, F, er, h⟩ => ⟨e, F, er, h.bind.mono fun d e1 H1 F1 er1 mv1 h1 v hv => ?_⟩
  obtain ⟨z, hz, fin⟩ := h1.fin er1
  unfold asI at hz
  split at hz
  · cases hz
    rw [rp_int] at hv
    exact ⟨_, hv, fin H1 F1 Al.refl⟩
  · cases hz
theorem jv_slice (ha : JV X T W a ma) (hl : JP X T W lo ml) (hh : JP X T W hi mh) : JV X T W (.Subscript a (.Slice lo hi none p2) pos) (mSl ma ml mh) := by
  refine PEimp (pe_slice (sl_list.or (sl_tupA.or sl_str)) ha hl hh) fun σ H Q ⟨e, F, er, h⟩ => ⟨e, F, er, h.bind.mono fun d e1 H1 F1 er1 mv1 h1 v hv => ⟨e1, F1, er1, h1.bind.mono fun l e2 H2 F2 er2 mv2 h2 => ⟨e2, F2, er2, h2.bind.mono fun u e3 H3 F3 er3 mv3 h3 => ?_⟩⟩⟩
  obtain ⟨z, hz, fin⟩ := h3.fin er3
  have hv := Rp.mono (mv2.sub.trans mv3.sub) _ _ hv
  cases d with
  | lst ds =>
    cases hz
    rw [rp_lst] at hv
    obtain ⟨b, xs, rfl, hb, lr⟩ := hv
    refine .inl ⟨b, xs, rfl, SqL.of (er3.sub _ _ hb), fun p hp => fin _ _ (Al.one hp) _ ?_⟩
    rw [rp_lst]
    exact ⟨p, _, rfl, upd_same, RpL.mono (same_upd (er3.sub.free hp)) _ _ (lr.cut _ _)⟩
  | tup ds =>
    cases hz
    rw [rp_tup] at hv
    obtain ⟨b, xs, rfl, hb, lr⟩ := hv
    refine .inr (.inl ⟨b, xs, rfl, seqT_mono er3.sub hb, fun hw => fin _ _ Al.refl _ ?_, fun hw p hp => fin _ _ (Al.one hp) _ ?_⟩)
    · rw [rp_tup]
      refine ⟨b, xs, rfl, hb, ?_⟩
      have e : cutD ds l u = ds := by
        unfold cutD
        rw [lr.len, hw.1, hw.2, List.drop_zero, Nat.sub_zero, ← lr.len, List.take_length]
      rw [e]; exact lr
    · rw [rp_tup]
      exact ⟨p, _, rfl, upd_same, RpL.mono (same_upd (er3.sub.free hp)) _ _ (lr.cut _ _)⟩
  | str z =>
    simp only [gSl] at hz
    split at hz
    · cases hz
      rename_i hzl
      rw [rp_str] at hv
      exact .inr (.inr ⟨z, hv, hzl, fin _ _ Al.refl _ (by rw [rp_str])⟩)
    · cases hz
  | _ => cases hz
end
end Sr
namespace Sr
variable [TabL]
open PySem hiding start
open PySem.Spec L2
open PyProof.Rows hiding St
section
variable {X : Cx} {T : Pn} {W : WX} {pos : Pos}
theorem jo_dnewK : JO X T W (.Dict [] [] pos) (ret (.dk [])) := by
  refine PEimp pe_dnewK fun σ H Q ⟨e, F, er, h⟩ => fun p hp => ?_
  have np : ¬ Ow e σ p := Ow.ne_of_free er hp
  have fp : F p = none := er.sub.free hp
  exact h (upd H p (.dK [])) F (er.updFree fp np) (Mv.refl.updNew hp) p hp fp np ⟨[], upd_same, by unfold RpK; rfl⟩
def mPs : List (M D × M D) → M (List (D × D))
  | [] => ret []
  | (a, b) :: r => bnd a fun x => bnd b fun y => bnd (mPs r) fun ps => ret ((x, y) :: ps)
def RpP (K : PySem.W.Frag) (mg : Str → Option Value) (F : Hp) : List (D × D) → List (V × V) → Prop
  | [], ps => ps = []
  | (x, y) :: ds, ps => ∃ v w r, ps = (v, w) :: r ∧ Rp K mg F x v ∧ Rp K mg F y w ∧ RpP K mg F ds r
theorem ps_imp {K : PySem.W.Frag} {mg : Str → Option Value} {σ : St} : ∀ (l : List (M D × M D)) (e : En) (H F : Hp) (P : List (D × D) → En → Hp → Hp → Prop) (R : List (V × V) → Hp → Prop), ER K mg T e σ H F → RunAt K mg T W e F (mPs l) σ H P →
    (∀ ds e' H' F', ER K mg T e' σ H' F' → Mv e σ H F e' σ H' F' → P ds e' H' F' → ∀ ps, RpP K mg F' ds ps → R ps H') → tPairs (l.map fun q => (TV K mg T W q.1, TV K mg T W q.2)) σ H R
  | [], e, H, F, P, R, er, h, k => k [] e H F er Mv.refl (h H F er Mv.refl) [] rfl
  | (a, b) :: l, e, H, F, P, R, er, h, k => by
    refine ⟨e, F, er, h.bind.mono fun x e1 H1 F1 er1 mv1 h1 v hv => ⟨e1, F1, er1, h1.bind.mono fun y e2 H2 F2 er2 mv2 h2 w hw => ?_⟩⟩
    refine ps_imp l e2 H2 F2 _ _ er2 h2.bind fun ds e3 H3 F3 er3 mv3 h3 ps hps => ?_
    refine k _ e3 H3 F3 er3 ((mv1.trans mv2).trans mv3) (h3 H3 F3 er3 Mv.refl) _ ⟨v, w, ps, rfl, Rp.mono (mv2.sub.trans mv3.sub) _ _ hv, Rp.mono mv3.sub _ _ hw, hps⟩
def dKey : D → Option Key
  | .int i => some (.inl i)
  | .str z => some (.inr z)
  | _ => none
def dKeys : List (D × D) → Option (List (Key × D))
  | [] => some []
  | (x, y) :: r => match dKey x, dKeys r with
    | some k, some ks => some ((k, y) :: ks)
    | _, _ => none
def putKD (kvs : List (Key × D)) (k : Key) (v : D) : List (Key × D) :=
  if (kvs.any fun kv => decide (kv.1 = k)) = true then kvs.map (fun kv => if kv.1 = k then (kv.1, v) else kv) else kvs ++ [(k, v)]
def mergeKD (kvs more : List (Key × D)) : List (Key × D) := more.foldl (fun acc kv => putKD acc kv.1 kv.2) kvs
theorem RpK.any {K : PySem.W.Frag} {mg : Str → Option Value} {F : Hp} {k : Key} : ∀ {ds : List (Key × D)} {vs : List (Key × V)}, RpK K mg F ds vs → (ds.any fun kv => decide (kv.1 = k)) = (vs.any fun kv => decide (kv.1 = k))
  | [], vs, h => by unfold RpK at h; subst h; rfl
  | (q, d) :: ds, vs, h => by
    unfold RpK at h
    obtain ⟨v, r, rfl, _, h⟩ := h
    rw [List.any_cons, List.any_cons, RpK.any h]
theorem RpK.snoc {K : PySem.W.Frag} {mg : Str → Option Value} {F : Hp} {k : Key} {d : D} {v : V} (hv : Rp K mg F d v) : ∀ {ds : List (Key × D)} {vs : List (Key × V)}, RpK K mg F ds vs → RpK K mg F (ds ++ [(k, d)]) (vs ++ [(k, v)])
  | [], vs, h => by unfold RpK at h; subst h; unfold RpK; exact ⟨v, [], rfl, hv, by unfold RpK; rfl⟩
  | (q, x) :: ds, vs, h => by
    unfold RpK at h
    obtain ⟨w, r, rfl, hw, h⟩ := h
    rw [List.cons_append, List.cons_append]
    unfold RpK
    exact ⟨w, _, rfl, hw, RpK.snoc hv h⟩
theorem RpK.put {K : PySem.W.Frag} {mg : Str → Option Value} {F : Hp} {k : Key} {d : D} {v : V} (hv : Rp K mg F d v) {ds : List (Key × D)} {vs : List (Key × V)} (h : RpK K mg F ds vs) : RpK K mg F (putKD ds k d) (putK vs k v) := by
  unfold putKD putK
  rw [RpK.any h]
  split
  · exact RpK.map hv h
  · exact RpK.snoc hv h
theorem keys_ok {K : PySem.W.Frag} {mg : Str → Option Value} {F : Hp} : ∀ {ds : List (D × D)} {ks : List (Key × D)} {ps : List (V × V)}, dKeys ds = some ks → RpP K mg F ds ps → ∃ kvs : List (Key × V), ps = kvs.map (fun kv => (kV kv.1, kv.2)) ∧ RpK K mg F ks kvs
  | [], ks, ps, h, r => by cases h; unfold RpP at r; subst r; exact ⟨[], rfl, by unfold RpK; rfl⟩
  | (x, y) :: ds, ks, ps, h, r => by
    unfold RpP at r
    obtain ⟨v, w, ps', rfl, hx, hy, r⟩ := r
    unfold dKeys at h
    cases q1 : dKey x with
    | none => simp only [q1] at h; cases h
    | some k =>
      cases q2 : dKeys ds with
      | none => simp only [q1, q2] at h; cases h
      | some ks' =>
        simp only [q1, q2] at h
        cases h
        obtain ⟨kvs, rfl, hk⟩ := keys_ok q2 r
        refine ⟨(k, w) :: kvs, ?_, by unfold RpK; exact ⟨w, _, rfl, hy, hk⟩⟩
        rw [List.map_cons]
        congr 2
        cases x with
        | int i => cases q1; rw [rp_int] at hx; exact hx
        | str z => cases q1; rw [rp_str] at hx; exact hx
        | _ => cases q1
theorem RpK.merge {K : PySem.W.Frag} {mg : Str → Option Value} {F : Hp} : ∀ {more : List (Key × D)} {mv : List (Key × V)} {ds : List (Key × D)} {vs : List (Key × V)}, RpK K mg F more mv → RpK K mg F ds vs → RpK K mg F (mergeKD ds more) (mergeK vs mv)
  | [], mv, ds, vs, h, r => by unfold RpK at h; subst h; exact r
  | (k, d) :: more, mv, ds, vs, h, r => by
    unfold RpK at h
    obtain ⟨w, ms, rfl, hw, h⟩ := h
    show RpK K mg F (mergeKD (putKD ds k d) more) (mergeK (putK vs k w) ms)
    exact RpK.merge h (r.put hw)
def gDisp (ds : List (D × D)) : Option D := match dKeys ds with
  | some ks => if ks.length ≤ 15 then some (.dk (mergeKD [] ks)) else none
  | none => none
def mDisp (l : List (M D × M D)) : M D := bnd (mPs l) fun ds => opt (gDisp ds)
def JPs (X : Cx) (T : Pn) (W : WX) (pos : Pos) (keys : List (Option Expr)) (values : List Expr) (l : List (M D × M D)) : Prop := PPs X pos keys values (l.map fun q => (TV X.K X.mg T W q.1, TV X.K X.mg T W q.2))
theorem jps_nil : JPs X T W pos [] [] [] := pps_nil
theorem jps_cons {k v : Expr} {ks : List (Option Expr)} {vs : List Expr} {mk mv : M D} {l : List (M D × M D)} (hk : JV X T W k mk) (hv : JV X T W v mv) (hr : JPs X T W pos ks vs l) : JPs X T W pos (some k :: ks) (v :: vs) ((mk, mv) :: l) := pps_cons hk hv hr
theorem jo_disp {keys : List (Option Expr)} {values : List Expr} {l : List (M D × M D)} (h : JPs X T W pos keys values l) (hall : keys.all (·.isSome) = true := by rfl) (hl : keys.length = values.length := by rfl) (h0 : keys ≠ [] := by intro z; cases z) (h15 : keys.length ≤ 15 := by decide) :
    JO X T W (.Dict keys values pos) (mDisp l) := by
  refine PEimp (pe_disp h hall hl h0 h15) fun σ H Q ⟨e, F, er, h⟩ => fun p hp => ?_
  have np : ¬ Ow e σ p := Ow.ne_of_free er hp
  have fp : F p = none := er.sub.free hp
  have er0 : ER X.K X.mg T e σ (upd H p (.dK [])) F := er.updFree fp np
  have hb : RunAt X.K X.mg T W e F (mPs l) σ (upd H p (.dK [])) fun ds e1 H1 F1 => Mv e σ (upd H p (.dK [])) F e1 σ H1 F1 ∧ ∃ d, gDisp ds = some d ∧ ∀ H' F', ER X.K X.mg T e1 σ H' F' → Mv e σ H F e1 σ H' F' → ∀ q, H q = none → F' q = none → ¬ Ow e1 σ q → OwnAt X.K X.mg H' F' q d → Q (.ref q) H' := by
    unfold RunAt mDisp bnd at h
    unfold RunAt
    cases q : mPs l e with
    | ok ds e1 =>
      rw [q] at h
      intro H1 F1 er1 mv1
      dsimp only at h
      unfold opt at h
      cases qd : gDisp ds with
      | none => simp only [qd] at h
      | some d =>
        simp only [qd] at h
        exact ⟨mv1, d, rfl, fun H' F' er' mv' => h H' F' er' mv'⟩
    | exc x e1 =>
      rw [q] at h
      intro H1 F1 cl dd er1 mv1 xr
      exact h H1 F1 cl dd er1 ((Mv.refl.updNew (o := .dK []) hp).trans mv1) xr
    | bad => rw [q] at h; exact h
  refine ps_imp l e _ F _ _ er0 hb fun ds e1 H1 F1 er1 mv1 ⟨_, d, hd, fin⟩ ps hps => ?_
  obtain ⟨k1, k2⟩ := mv1.keep p _ upd_same np
  have k1 := k1 (by first | assumption | (intro _ z; exact nomatch z) | (intro _ z; cases z))
  have f1 : F1 p = none := by
    cases z : F1 p with
    | none => rfl
    | some u =>
      rcases mv1.new p u z with z | z | z
      · rw [fp] at z; cases z
      · rw [upd_same] at z; cases z
      · exact (np z).elim
  unfold gDisp at hd
  split at hd
  · rename_i ks hk
    split at hd
    · rename_i hz
      cases hd
      obtain ⟨kvs, rfl, rk⟩ := keys_ok hk hps
      refine ⟨k1, kvs, rfl, by rw [← RpK.len rk]; exact hz, ?_⟩
      exact fin _ F1 (er1.updFree f1 k2) (((Mv.refl.updNew (o := .dK []) hp).trans mv1).updNew hp) p hp f1 k2 ⟨_, upd_same, RpK.merge rk (by unfold RpK; rfl)⟩
    · cases hd
  · cases hd
end
end Sr
namespace Sr
open PySem hiding start
open PySem.Spec L2
open PyProof.Rows hiding St
theorem bt_ValueError : bootBuiltins "ValueError" = some (.type "ValueError") := by decide +kernel
end Sr
namespace Sr
variable [TabL]
open PySem hiding start
open PySem.Spec L2
open PyProof.Rows hiding St
def flatD : D → Bool
  | .non => true
  | .bl _ => true
  | .int _ => true
  | .str _ => true
  | _ => false
def eqF : D → D → Bool
  | .non, .non => true
  | .bl a, .bl b => a == b
  | .bl a, .int b => (if a then 1 else 0) == b
  | .int a, .bl b => a == (if b then 1 else 0)
  | .int a, .int b => a == b
  | .str a, .str b => a == b
  | _, _ => false
section
variable {K : PySem.W.Frag} {mg : Str → Option Value} {F H : Hp}
theorem flat_ok {d : D} {v : V} (r : Rp K mg F d v) (h : flatD d = true) : flatV v = true := by
  cases d <;> simp only [flatD, Bool.false_eq_true] at h
  · rw [rp_non] at r; subst r; rfl
  · rw [rp_bl] at r; subst r; rfl
  · rw [rp_int] at r; subst r; rfl
  · rw [rp_str] at r; subst r; rfl
theorem eqF_ok {d d' : D} {v v' : V} (r : Rp K mg F d v) (r' : Rp K mg F d' v') (h : flatD d = true) (h' : flatD d' = true) : eqV v v' = eqF d d' := by
  cases d <;> simp only [flatD, Bool.false_eq_true] at h <;> cases d' <;> simp only [flatD, Bool.false_eq_true] at h' <;> simp only [rp_non, rp_bl, rp_int, rp_str] at r r' <;> subst r r' <;> rfl
theorem flats_ok : ∀ {ds : List D} {vs : List V}, RpL K mg F ds vs → ds.all flatD = true → vs.all flatV = true
  | [], vs, l, _ => by rw [rl_nil] at l; subst l; rfl
  | d :: ds, vs, l, h => by
    rw [rl_cons] at l
    obtain ⟨v, vs, rfl, r, l⟩ := l
    rw [List.all_cons, Bool.and_eq_true] at h
    rw [List.all_cons, flat_ok r h.1, flats_ok l h.2]; rfl
theorem inF_ok {d : D} {v : V} (r : Rp K mg F d v) (hf : flatD d = true) : ∀ {ds : List D} {vs : List V}, RpL K mg F ds vs → ds.all flatD = true → inV v vs = ds.any fun y => eqF y d
  | [], vs, l, _ => by rw [rl_nil] at l; subst l; rfl
  | y :: ds, vs, l, h => by
    rw [rl_cons] at l
    obtain ⟨w, vs, rfl, r', l⟩ := l
    rw [List.all_cons, Bool.and_eq_true] at h
    have ih := inF_ok r hf l h.2
    unfold inV at ih ⊢
    rw [List.any_cons, List.any_cons, eqF_ok r' r h.1 hf, ih]
theorem flat_rq {d : D} {v : V} (h : flatD d = true) (r : Rq K mg H F d v) : Rp K mg F d v := by
  cases d <;> first | exact r | (simp [flatD] at h)
end
def gInL (neg : Bool) (x : D) (ds : List D) : Option D := if (flatD x && ds.all flatD) = true then some (.bl (if neg then !(ds.any fun y => eqF y x) else ds.any fun y => eqF y x)) else none
def gInG (neg : Bool) : D → D → Option D
  | .str a, .str z => match a.cps.toList with
    | [c] => some (.bl (if neg then !decide (c ∈ z.cps.toList) else decide (c ∈ z.cps.toList)))
    | _ => none
  | x, .lst ds => gInL neg x ds
  | x, .tup ds => gInL neg x ds
  | x, .ct ds => gInL neg x ds
  | _, _ => none
def gIn : D → D → Option D := gInG false
section
variable {X : Cx}
theorem str_one {a : Str} {c : Nat} (h : a.cps.toList = [c]) : a = ⟨#[c]⟩ := by
  cases a with
  | mk cps =>
    cases cps with
    | mk l => simp at h; subst h; rfl
theorem inL_imp {neg : Bool} {H F : Hp} {x : D} {ds : List D} {d : D} {vx : V} {p : Addr} {xs : List V} (s : Same F H) (r1 : Rq X.K X.mg H F x vx) (hq : SqL X.K H p xs ∨ SqT X.K H p xs) (l : RpL X.K X.mg F ds xs) (e : gInL neg x ds = some d) {Q : VK} (q : ∀ H' F' z, Al H F H' F' → Rp X.K X.mg F' d z → Q z H') : rIn X.K neg vx (.ref p) H Q := by
  unfold gInL at e
  split at e
  · rename_i h
    rw [Bool.and_eq_true] at h
    cases e
    have r := flat_rq h.1 r1
    refine ⟨p, xs, rfl, hq, flat_ok r h.1, flats_ok l h.2, ?_⟩
    rw [inF_ok r h.1 l h.2]
    exact q H F _ Al.refl (by rw [rp_bl])
  · cases e
theorem o_inG (neg : Bool) (f : Value → Value → Sem Value) (h1 : OpR X f (rIn X.K neg)) (h2 : OpR X f (fun x y H Q => ∃ (c : Nat) (z : Str), x = .str ⟨#[c]⟩ ∧ y = .str z ∧ Q (.bl (if neg then !decide (c ∈ z.cps.toList) else decide (c ∈ z.cps.toList))) H)) : Op2 X f (gInG neg) := by
  intro H F x y d1 d2 d s r1 r2 e
  have seq : ∀ ds, (∃ p xs, y = .ref p ∧ (SqL X.K H p xs ∨ SqT X.K H p xs) ∧ RpL X.K X.mg F ds xs) → gInL neg d1 ds = some d → ∃ r : R2, OpR X f r ∧ ∀ Q : VK, (∀ H' F' z, Al H F H' F' → Rp X.K X.mg F' d z → Q z H') → r x y H Q := fun ds ⟨p, xs, ey, hq, l⟩ e => by
    subst ey
    exact ⟨_, h1, fun Q q => inL_imp s r1 hq l e q⟩
  cases d2 with
  | str z =>
    cases d1 <;> simp only [gInG, reduceCtorEq] at e
    split at e
    · rename_i c hc
      cases e
      rw [rq_str] at r1 r2
      subst r1 r2
      rw [str_one hc]
      exact ⟨_, h2, fun Q q => ⟨c, z, rfl, rfl, q H F _ Al.refl (by rw [rp_bl])⟩⟩
    · cases e
  | lst ds =>
    obtain ⟨a, xs, rfl, h, l⟩ := r2
    exact seq ds ⟨a, xs, rfl, .inl (SqL.of h), l⟩ (by cases d1 <;> exact e)
  | tup ds =>
    rw [rq_tup] at r2
    obtain ⟨a, xs, rfl, h, l⟩ := r2
    exact seq ds ⟨a, xs, rfl, .inr (seqT_mono s h), l⟩ (by cases d1 <;> exact e)
  | ct ds =>
    rw [rq_ct] at r2
    obtain ⟨a, xs, rfl, h, l⟩ := r2
    exact seq ds ⟨a, xs, rfl, .inr (seqC_mono s h), l⟩ (by cases d1 <;> exact e)
  | _ => cases d1 <;> cases e
theorem o_in {k : Nat} (hp : Pl X k) : Op2 X (compareOp .In) gIn := o_inG false _ op_in_seq (by simpa using op_in_sign (X := X))
end
def gMulS : D → D → Option D
  | .str x, .int n => if n ≤ 100000 ∧ -100000 ≤ n ∧ x.length ≤ 100 then some (.str (Txt.mul x n)) else none
  | _, _ => none
def gMulL : D → D → Option D
  | .lst ds, .int n => if n ≤ 100000 ∧ -100000 ≤ n ∧ ds.length ≤ 100 then some (.lst (List.replicate n.toNat ds).flatten) else none
  | _, _ => none
def gMulT : D → D → Option D
  | .tup ds, .int n => if 2 ≤ n ∧ n ≤ 1000 ∧ ds.length ≤ 1000 ∧ ds ≠ [] then some (.tup (List.replicate n.toNat ds).flatten) else none
  | _, _ => none
section
variable {X : Cx}
theorem op_mulS : OpR X (binaryOp .Mult) (fun x y H Q => ∃ a n, x = .str a ∧ y = .int n ∧ MulOk a n ∧ Q (.str (Txt.mul a n)) H) := by
  intro pins s σ H x y v u Q I rx ry h
  obtain ⟨a, n, rfl, rfl, ok, q⟩ := h
  obtain ⟨t, rfl⟩ := rx
  obtain ⟨t', rfl⟩ := ry
  refine SB.mul ok fun t k => ⟨.str _, H, I.tok _, ⟨_, rfl⟩, q⟩
theorem mulOk_of {a : Str} {n : Int} (h1 : n ≤ 100000) (h2 : -100000 ≤ n) (h3 : a.length ≤ 100) : MulOk a n := by
  refine ⟨?_, fun h _ => ?_, fun h _ => ?_⟩
  · simp; omega
  · have hn : 1 ≤ n := by omega
    have : (100 : Int) ≤ (2 ^ 63 - 1) / n := by
      rw [Int.le_ediv_iff_mul_le (by omega)]
      omega
    omega
  · unfold Builtin.Str.tooLong
    have : a.length * n.toNat ≤ 100 * 100000 := Nat.mul_le_mul h3 (by omega)
    simp
    have e : sizeLine = 16777216 := by decide
    omega
theorem o_mulS : Op2 X (binaryOp .Mult) gMulS := by
  intro H F x y d1 d2 d s r1 r2 e
  unfold gMulS at e
  split at e
  · split at e
    · rename_i h
      cases e
      rw [rq_str] at r1
      rw [rq_int] at r2
      exact ⟨_, op_mulS, fun Q q => ⟨_, _, r1, r2, mulOk_of h.1 h.2.1 h.2.2, q H F _ Al.refl (by rw [rp_str])⟩⟩
    · cases e
  · cases e
theorem o_mulL : Op2 X (binaryOp .Mult) gMulL := by
  intro H F x y d1 d2 d s r1 r2 e
  unfold gMulL at e
  split at e
  · rename_i ds n
    split at e
    · rename_i h
      cases e
      obtain ⟨a, xs, rfl, q1, l1⟩ := r1
      rw [rq_int] at r2
      refine ⟨_, op_rep, fun Q q => ⟨a, n, xs, rfl, r2, q1, by omega, by omega, ?_, fun p hp => q _ _ _ (Al.one hp) ?_⟩⟩
      · rw [← l1.len]
        have e : sizeLine = 16777216 := by decide
        have : ds.length * n.toNat ≤ 100 * 100000 := Nat.mul_le_mul h.2.2 (by omega)
        omega
      · rw [rp_lst]
        exact ⟨p, _, rfl, upd_same, RpL.mono (same_upd (s.free hp)) _ _ (l1.rep _)⟩
    · cases e
  · cases e
theorem o_mulT : Op2 X (binaryOp .Mult) gMulT := by
  intro H F x y d1 d2 d s r1 r2 e
  unfold gMulT at e
  split at e
  · rename_i ds n
    split at e
    · rename_i h
      cases e
      rw [rq_tup] at r1
      obtain ⟨a, xs, rfl, q1, l1⟩ := r1
      rw [rq_int] at r2
      refine ⟨_, op_repT, fun Q q => ⟨a, n, xs, rfl, r2, seqT_mono s q1, fun z => h.2.2.2 ?_, h.1, h.2.1, by rw [← l1.len]; exact h.2.2.1, fun p hp => q _ _ _ (Al.one hp) ?_⟩⟩
      · have := l1.len
        rw [z] at this
        exact List.eq_nil_of_length_eq_zero this
      · rw [rp_tup]
        exact ⟨p, _, rfl, upd_same, RpL.mono (same_upd (s.free hp)) _ _ (l1.rep _)⟩
    · cases e
  · cases e
def gMulA : D → D → Option D := fun a b => (gMulI a b).or ((gMulS a b).or ((gMulL a b).or (gMulT a b)))
theorem o_mulA : Op2 X (binaryOp .Mult) gMulA := o_mulI.or (o_mulS.or (o_mulL.or o_mulT))
end
section
variable {X : Cx}
def dBools : List D → Option (List Bool)
  | [] => some []
  | .bl b :: ds => (dBools ds).map (b :: ·)
  | _ :: _ => none
theorem dBools_vals {K : PySem.W.Frag} {mg : Str → Option Value} {F : Hp} : ∀ {ds : List D} {bs : List Bool} {xs : List V}, dBools ds = some bs → RpL K mg F ds xs → xs = bs.map V.bl
  | [], ys, xs, h, l => by cases h; rw [rl_nil] at l; exact l
  | d :: ds, ys, xs, h, l => by
    cases d with
    | bl z =>
      simp only [dBools, Option.map_eq_some_iff] at h
      obtain ⟨ys', h1, rfl⟩ := h
      rw [rl_cons] at l
      obtain ⟨v, vs, rfl, l1, l2⟩ := l
      rw [rp_bl] at l1
      rw [l1, dBools_vals h1 l2]; rfl
    | _ => cases h
def gAll : D → Option D
  | .lst ds => (dBools ds).map fun bs => .bl (bs.all id)
  | _ => none
theorem c_all (hc : X.calm = true) : Cal1 X (.builtin "all") gAll := by
  intro H F x d d' s r e
  cases d <;> simp only [gAll, reduceCtorEq] at e
  rw [Option.map_eq_some_iff] at e
  obtain ⟨bs, hb, rfl⟩ := e
  obtain ⟨a, xs, rfl, h, l⟩ := r
  rw [dBools_vals hb l] at h
  exact ⟨_, cr_all hc, fun Q q => ⟨a, bs, rfl, SqL.of h, q H F _ Al.refl (by rw [rp_bl])⟩⟩
end
end Sr
namespace Sr
variable [TabL]
open PySem hiding start
open PySem.Spec L2
open PyProof.Rows hiding St
section
variable {κ : Type} [DecidableEq κ]
def putG (kvs : List (κ × D)) (k : κ) (v : D) : List (κ × D) :=
  if (kvs.any fun kv => decide (kv.1 = k)) = true then kvs.map (fun kv => if kv.1 = k then (kv.1, v) else kv) else kvs ++ [(k, v)]
end
section
variable {K : PySem.W.Frag} {mg : Str → Option Value} {F H : Hp}
theorem RpT.any {k : List Key} : ∀ {ds : List (List Key × D)} {vs : List (List Key × V)}, RpT K mg F ds vs → (ds.any fun kv => decide (kv.1 = k)) = (vs.any fun kv => decide (kv.1 = k))
  | [], vs, h => by unfold RpT at h; subst h; rfl
  | (q, d) :: ds, vs, h => by
    unfold RpT at h
    obtain ⟨v, r, rfl, _, h⟩ := h
    rw [List.any_cons, List.any_cons, RpT.any h]
theorem RpT.snoc {k : List Key} {d : D} {v : V} (hv : Rp K mg F d v) : ∀ {ds : List (List Key × D)} {vs : List (List Key × V)}, RpT K mg F ds vs → RpT K mg F (ds ++ [(k, d)]) (vs ++ [(k, v)])
  | [], vs, h => by unfold RpT at h; subst h; unfold RpT; exact ⟨v, [], rfl, hv, by unfold RpT; rfl⟩
  | (q, x) :: ds, vs, h => by
    unfold RpT at h
    obtain ⟨w, r, rfl, hw, h⟩ := h
    rw [List.cons_append, List.cons_append]
    unfold RpT
    exact ⟨w, _, rfl, hw, RpT.snoc hv h⟩
theorem RpT.put {k : List Key} {d : D} {v : V} (hv : Rp K mg F d v) {ds : List (List Key × D)} {vs : List (List Key × V)} (h : RpT K mg F ds vs) : RpT K mg F (putG ds k d) (putK vs k v) := by
  unfold putG putK
  rw [RpT.any h]
  split
  · exact RpT.map hv h
  · exact RpT.snoc hv h
end
section
variable {X : Cx} {T : Pn} {W : WX} {pos : Pos} {a b : Expr} {ma mb : M D} {m1 : M Bv} {k : Nat}
theorem Cal1.or {f : Value} {g g' : D → Option D} (h : Cal1 X f g) (h' : Cal1 X f g') : Cal1 X f (fun a => (g a).or (g' a)) := by
  intro H F x d z s r e
  cases q : g d with
  | some w => simp only [q, Option.some_or] at e; cases e; exact h H F x d _ s r q
  | none => simp only [q, Option.none_or] at e; exact h' H F x d z s r e
end
end Sr
namespace Sr
variable [TabL]
open PySem hiding start
open PySem.Spec L2
open PyProof.Rows hiding St
section
variable {X : Cx}
def gReprP : D → Option D
  | .str z => if (reprText z).length ≤ sizeLine then some (.str (reprText z)) else none
  | .bl b => some (.str (if b then "True" else "False"))
  | .non => some (.str "None")
  | _ => none
theorem call_reprP : CallR X (.builtin "repr") (fun xs H Q => (∃ z, xs = [.str z] ∧ (reprText z).length ≤ sizeLine ∧ Q (.str (reprText z)) H) ∨ (∃ b, xs = [.bl b] ∧ Q (.str (if b then "True" else "False")) H) ∨ (xs = [.non] ∧ Q (.str "None") H)) := by
  intro pins s σ H xs us Q I r h
  rcases h with ⟨z, rfl, hz, q⟩ | ⟨b, rfl, q⟩ | ⟨rfl, q⟩
  · obtain ⟨u, rfl, rx⟩ := vals1 r
    obtain ⟨t, rfl⟩ := rx
    exact PySem.P.repr_of_str (hsz := hz) ⟨.str _, H, I.kept (t' := s.toks + 1) fun b o e => e, ⟨_, rfl⟩, q⟩
  · obtain ⟨u, rfl, rx⟩ := vals1 r
    cases rx
    exact PySem.P.repr_of_bool ⟨.str _, H, I.kept (t' := s.toks + 1) fun b o e => e, ⟨_, rfl⟩, q⟩
  · obtain ⟨u, rfl, rx⟩ := vals1 r
    cases rx
    exact PySem.P.repr_of_none ⟨.str _, H, I.kept (t' := s.toks + 1) fun b o e => e, ⟨_, rfl⟩, q⟩
theorem c_reprP : Cal1 X (.builtin "repr") gReprP := by
  intro H F x d d' s r e
  cases d <;> simp only [gReprP, reduceCtorEq] at e
  · cases e
    exact ⟨_, call_reprP, fun Q q => .inr (.inr ⟨by rw [show x = .non from r], q H F _ Al.refl (by rw [rp_str])⟩)⟩
  · cases e
    exact ⟨_, call_reprP, fun Q q => .inr (.inl ⟨_, by rw [show x = .bl _ from r], q H F _ Al.refl (by rw [rp_str])⟩)⟩
  · split at e
    · rename_i hz
      cases e
      rw [rq_str] at r
      subst r
      exact ⟨_, call_reprP, fun Q q => .inl ⟨_, rfl, hz, q H F _ Al.refl (by rw [rp_str])⟩⟩
    · cases e
def gReprA : D → Option D := fun d => (gRepr d).or (gReprP d)
theorem c_reprA (hgu : X.A.guards = some []) (hu : X.A.units + 100 < cLine) : Cal1 X (.builtin "repr") gReprA := (c_repr hgu hu).or c_reprP
end
end Sr
namespace Sr
variable [TabL]
open PySem hiding start
open PySem.Spec L2
open PyProof.Rows hiding St
section
variable {X : Cx} {T : Pn} {W : WX} {o e : Expr} {mo ma : M D} {apos cpos : Pos}
def isL : D → Option Unit
  | .lst _ => some ()
  | _ => none
end
end Sr
namespace Sr
variable [TabL]
open PySem hiding start
open PySem.Spec L2
open PyProof.Rows hiding St
def flD : D → Option V
  | .non => some .non
  | .bl b => some (.bl b)
  | .int i => some (.int i)
  | .str x => some (.str x)
  | _ => none
def flDs : List D → Option (List V)
  | [] => some []
  | d :: ds => (flD d).bind fun v => (flDs ds).map fun vs => v :: vs
section
variable {K : PySem.W.Frag} {mg : Str → Option Value} {F : Hp}
theorem flD_ok {d : D} {v w : V} (h : flD d = some v) (r : Rp K mg F d w) : w = v ∧ flatV v = true := by
  cases d <;> simp only [flD, reduceCtorEq, Option.some.injEq] at h
  · rw [rp_non] at r; subst h; exact ⟨r, rfl⟩
  · rw [rp_bl] at r; subst h; exact ⟨r, rfl⟩
  · rw [rp_int] at r; subst h; exact ⟨r, rfl⟩
  · rw [rp_str] at r; subst h; exact ⟨r, rfl⟩
theorem flDs_ok : ∀ {ds : List D} {vs xs : List V}, flDs ds = some vs → RpL K mg F ds xs → xs = vs ∧ vs.all flatV = true
  | [], vs, xs, h, l => by cases h; rw [rl_nil] at l; exact ⟨l, rfl⟩
  | d :: ds, vs, xs, h, l => by
    rw [rl_cons] at l
    obtain ⟨v, ws, rfl, r, l⟩ := l
    simp only [flDs, Option.bind_eq_some_iff, Option.map_eq_some_iff] at h
    obtain ⟨v', h1, vs', h2, rfl⟩ := h
    obtain ⟨rfl, f1⟩ := flD_ok h1 r
    obtain ⟨rfl, f2⟩ := flDs_ok h2 l
    exact ⟨rfl, by rw [List.all_cons, f1, f2]; rfl⟩
end
section
variable {X : Cx} {T : Pn} {W : WX} {o e : Expr} {mo : M Bv} {ma : M D} {apos cpos : Pos}
def rCnt (K : PySem.W.Frag) : V → List V → Hp → VK → Prop := fun x xs H Q => ∃ (a : Addr) (ys : List V) (y : V), x = .ref a ∧ xs = [y] ∧ SqL K H a ys ∧ flatV y = true ∧ ys.all flatV = true ∧ Q (.int ((ys.countP fun z => eqV z y : Nat) : Int)) H
theorem cntF {z : V} : ∀ {ys : List V} {us : List Value}, Vals ys us → ys.all flatV = true → us.countP (eqU z) = ys.countP fun y => eqV y z
  | [], us, r, _ => by cases r; rfl
  | y :: ys, us, r, f => by
    rw [List.all_cons, Bool.and_eq_true] at f
    cases r with
    | @cons a b as bs h t =>
      rw [List.countP_cons, List.countP_cons, cntF t f.2, eqU_of h f.1]
theorem mt_cnt : MtR X "list.count" (rCnt X.K) := by
  intro pins s σ H x xs v us Q I rx rxs h
  obtain ⟨p, ys, z, rfl, rfl, hs, fz, fy, q⟩ := h
  cases rx
  obtain ⟨u, rfl, ru⟩ := rxs.one
  obtain ⟨its, rv, ⟨⟨cls, dd, data, sl⟩, n, ho, hc, hdn, hd⟩, hlen⟩ := I.list hs
  simp only at hc hd
  subst hc hd
  refine call_meets PySem.F.slot_list_count ⟨_, ho, rfl⟩ PySem.F.entry_list_count (PySem.F.args_list_count_2 _ _)
    (SeqAt.list_countAt p its.toArray n dd sl u (eqU z)) ⟨ho, fun y hy => mem_eqAt ru fz rv fy y (by simpa using hy), ?_⟩
  have ec := cntF (z := z) rv fy
  refine ⟨.int ((ys.countP fun y => eqV y z : Nat) : Int), H, I.tok _, ⟨s.toks, ?_⟩, q⟩
  show Value.int ((its.toArray.toList.countP (eqU z) : Nat) : Int) s.toks = _
  rw [List.toList_toArray, ec]
def gCnt : D → D → Option D
  | .lst ds, y => match flDs ds, flD y with
    | some vs, some v => some (.int ((vs.countP fun z => eqV z v : Nat) : Int))
    | _, _ => none
  | _, _ => none
def gIdx : D → D → Option D
  | .lst ds, y => match flDs ds, flD y with
    | some vs, some v => (vs.findIdx? fun z => eqV z v).map fun j => .int ((j : Nat) : Int)
    | _, _ => none
  | _, _ => none
def MlD (X : Cx) (id : String) (g : D → D → Option D) : Prop :=
  ∀ (H F : Hp) (x y : V) (ds : List D) (d2 d : D), Same F H → Rq X.K X.mg H F (.lst ds) x → Rp X.K X.mg F d2 y → g (.lst ds) d2 = some d →
    ∃ r, MtR X id r ∧ ∀ Q : VK, (∀ H' F' z, Al H F H' F' → Rp X.K X.mg F' d z → Q z H') → r x [y] H Q
theorem m_cnt : MlD X "list.count" gCnt := by
  intro H F x y ds d2 d s r1 r2 h
  simp only [gCnt] at h
  cases e1 : flDs ds with
  | none => simp only [e1] at h; cases h
  | some vs =>
    cases e2 : flD d2 with
    | none => simp only [e1, e2] at h; cases h
    | some v =>
      simp only [e1, e2] at h
      cases h
      obtain ⟨a, xs, rfl, q, l⟩ := r1
      obtain ⟨rfl, f1⟩ := flDs_ok e1 l
      obtain ⟨rfl, f2⟩ := flD_ok e2 r2
      exact ⟨_, mt_cnt, fun Q k => ⟨a, _, _, rfl, rfl, SqL.of q, f2, f1, k H F _ Al.refl (by rw [rp_int])⟩⟩
theorem m_idx : MlD X "list.index" gIdx := by
  intro H F x y ds d2 d s r1 r2 h
  simp only [gIdx] at h
  cases e1 : flDs ds with
  | none => simp only [e1] at h; cases h
  | some vs =>
    cases e2 : flD d2 with
    | none => simp only [e1, e2] at h; cases h
    | some v =>
      simp only [e1, e2] at h
      rw [Option.map_eq_some_iff] at h
      obtain ⟨j, h, rfl⟩ := h
      rw [List.findIdx?_eq_some_iff_getElem] at h
      obtain ⟨hj, h1, h2⟩ := h
      obtain ⟨a, xs, rfl, q, l⟩ := r1
      obtain ⟨rfl, f1⟩ := flDs_ok e1 l
      obtain ⟨rfl, f2⟩ := flD_ok e2 r2
      refine ⟨_, mt_index, fun Q k => ⟨a, _, _, j, _, rfl, rfl, SqL.of q, f2, f1, List.getElem?_eq_getElem hj, h1, fun m z' hm hz => ?_, k H F _ Al.refl (by rw [rp_int])⟩⟩
      obtain ⟨hm2, rfl⟩ := List.getElem?_eq_some_iff.mp hz
      have := h2 m hm
      simpa using this
def mMl (g : D → D → Option D) (mo : M Bv) (ma : M D) : M D := bnd mo fun b => bnd (der b) fun d => bnd (opt (isL d)) fun _ => bnd ma fun z => bnd (der b) fun d' => bnd (opt (isL d')) fun _ => opt (g d' z)
theorem isL_of {d : D} {u : Unit} (h : isL d = some u) : ∃ ds, d = .lst ds := by
  cases d <;> first | exact ⟨_, rfl⟩ | cases h
theorem jv_ml {name : Str} {id : String} {g : D → D → Option D} (slot : Slot "list" name id) (hty : typeOf (.builtin id) = pure (.type "method_descriptor")) (hm : MlD X id g) (ho : JB X T W o mo) (ha : JV X T W e ma)
    (hbase : attributeBase o name X.env (eval o X.env) = eval o X.env := by rfl)
    (hfew : ((backTo cpos (starEach [e] X.env)).all (fun x => !x.1) && (backToKw cpos (keywordEach [] X.env)).all (fun x => x.1.isSome)
      && decide ([e].length + ([] : List Keyword).length + (if ([] : List Keyword).isEmpty then 0 else 1) < 30)) = true := by rfl)
    (hline : (apos.endLine == cpos.line) = true := by rfl) (hs : starEach [e] X.env = (false, eval e X.env) :: starEach [] X.env := by rfl) (hplain : (backTo cpos (starEach [] X.env)).any (·.1) = false := by rfl) :
    JV X T W (.Call (.Attribute o name apos) [e] [] cpos) (mMl g mo ma) := by
  have hany : MtR X id (fun x xs H Q => ∃ r, MtR X id r ∧ r x xs H Q) := fun pins s σ H x xs v us Q I rx rxs ⟨r, hr, q⟩ => hr pins s σ H x xs v us Q I rx rxs q
  refine PEimp (pe_bm PySem.F.plainAttrs_list slot hty hany ho (pa_cons ha pa_nil hs) hbase hfew hline hs hplain) fun σ H Q ⟨e, F, er, h⟩ => ⟨e, F, er, h.bind.mono fun b e1 H1 F1 er1 mv1 h1 v hv => ?_⟩
  obtain ⟨d, r1, h2⟩ := der_fin h1.bind er1 hv
  obtain ⟨u, hu, fin⟩ := h2.bind.fin er1
  have h3 := fin H1 F1 Al.refl
  obtain ⟨ds, rfl⟩ := isL_of hu
  obtain ⟨a, xs, rfl, ea, l⟩ := r1
  refine ⟨.inl ⟨rfl, xs, SqL.of ea⟩, e1, F1, er1, h3.bind.mono fun y e2 H2 F2 er2 mv2 h4 w hw => ?_⟩
  obtain ⟨d', r2, h5⟩ := der_fin h4.bind er2 (hv.mono mv2.sub)
  obtain ⟨u', hu', fin'⟩ := h5.bind.fin er2
  have h6 := fin' H2 F2 Al.refl
  obtain ⟨ds', rfl⟩ := isL_of hu'
  obtain ⟨z, hz, fin2⟩ := h6.fin er2
  obtain ⟨r, hr, q⟩ := hm H2 F2 _ w ds' y z er2.sub r2 hw hz
  exact ⟨r, hr, q Q fun H' F' z al hz => fin2 H' F' al z hz⟩
end
end Sr
namespace Sr
variable [TabL]
open PySem hiding start
open PySem.Spec L2
open PyProof.Rows hiding St
def BackR (X : Cx) (r : V → Hp → VK → Prop) : Prop :=
  ∀ (pins : List (Addr × Obj)) (s : Shared) (σ : St) (H : Hp) (x : V) (v : Value) (n : Tok) (sl : Addr) (Q : VK), Inv X pins σ H s → RelV x v → s.heap.get? sl = some { cls := .type "slice", data := .fields #[.none, .none, .int (-1) n] } → r x H Q →
    ∃ T id, typeLookup (.type T) "__getitem__" = pure (some (.builtin id)) ∧ s.TypeIs v T ∧ wpAny (model X.prog X.w) X.A (getItem v (.ref sl)) (EP X pins σ Q) X.xe s
theorem BackR.or {X : Cx} {r r' : V → Hp → VK → Prop} (h : BackR X r) (h' : BackR X r') : BackR X fun x H Q => r x H Q ∨ r' x H Q := by
  intro pins s σ H x v n sl Q I rx hs q
  rcases q with q | q
  · exact h pins s σ H x v n sl Q I rx hs q
  · exact h' pins s σ H x v n sl Q I rx hs q
theorem pe_back {X : Cx} {r : V → Hp → VK → Prop} {e : Expr} {te : TE} {k : Nat} {p1 p2 p3 pos : Pos} (hr : BackR X r) (he : PE X e te) : PE X (.Subscript e (.Slice none none (some (.UnaryOp .USub (.Constant (.int 1) k p1) p2)) p3) pos) (fun σ H Q => te σ H fun x H1 => r x H1 Q) := by
  refine ⟨fun pins s σ H Q I h => Subscript_ (thn (he.run pins s σ H _ I h) fun v s1 g => ?_)⟩
  obtain ⟨x, H1, I1, r1, q1⟩ := g
  have step : PO X (some (.UnaryOp .USub (.Constant (.int 1) k p1) p2)) (tPart (tUn (rU fun i => .int (-i)) (tC (.int 1)))) := po_some (pe_un un_neg pe_int)
  refine wpAny_Slice (thn (po_none.run pins s1 σ H1 (fun o G => o = none ∧ G = H1) I1 ⟨rfl, rfl⟩) fun a1 s2 g1 => ?_)
  obtain ⟨o1, G1, J1, y1, z1, z2⟩ := g1
  subst z1 z2
  refine thn (po_none.run pins s2 σ G1 (fun o G => o = none ∧ G = G1) J1 ⟨rfl, rfl⟩) fun a2 s3 g2 => ?_
  obtain ⟨o2, G2, J2, y2, z1, z2⟩ := g2
  subst z1 z2
  refine thn (step.run pins s3 σ G2 (fun o G => o = some (-1) ∧ G = G2) J2 ⟨1, rfl, -1, rfl, rfl, rfl⟩) fun a3 s4 g3 => ?_
  obtain ⟨o3, G3, J3, y3, z1, z2⟩ := g3
  subst z1 z2
  cases y1
  cases y2
  cases y3
  rename_i n
  have J4 : Inv X pins σ G3 { s4 with heap := s4.heap.push { cls := .type "slice", data := .fields #[.none, .none, .int (-1) n] } } := J3.kept (t' := s4.toks) fun b ob q => Heap.get?_push_of_some _ q
  obtain ⟨T, id, w1, w2, w3⟩ := hr pins _ σ G3 x v n s4.heap.objs.size Q J4 r1 (Heap.get?_push_size _ rfl) q1
  exact tail_any (ops := [v, .ref s4.heap.objs.size]) w2 w1 w3 (by with_unfolding_all rfl)
end Sr
namespace Sr
variable [TabL]
open PySem hiding start
open PySem.Spec L2
open PyProof.Rows hiding St
def vP : V → Option PyData
  | .non => some .none
  | .bl b => some (.bool b)
  | .int i => some (.int i)
  | .str x => some (.str x)
  | _ => none
def kP : Key → PyData
  | .inl i => .int i
  | .inr x => .str x
def vPs : List (Key × V) → Option (List (PyData × PyData))
  | [] => some []
  | (k, v) :: r => (vP v).bind fun p => (vPs r).map fun ps => (kP k, p) :: ps
def dP : D → Option PyData
  | .non => some .none
  | .bl b => some (.bool b)
  | .int i => some (.int i)
  | .str x => some (.str x)
  | _ => none
def dPs : List (Key × D) → Option (List (PyData × PyData))
  | [] => some []
  | (k, v) :: r => (dP v).bind fun p => (dPs r).map fun ps => (kP k, p) :: ps
theorem vP_reads {h : Heap} {v : V} {u : Value} {p : PyData} (e : vP v = some p) (r : RelV v u) : Reads h u p [] := by
  cases v <;> simp only [vP, Option.some.injEq, reduceCtorEq] at e <;> subst e
  · cases r; exact .none
  · cases r; exact .bool _
  · obtain ⟨t, rfl⟩ := r; exact .int _ t
  · obtain ⟨t, rfl⟩ := r; exact .str _ t
theorem kP_reads {h : Heap} {k : Key} {u : Value} (e : keyIs k u = true) : Reads h u (kP k) [] := by
  rcases keyIs_shape e with ⟨i, t, rfl, rfl⟩ | ⟨x, t, rfl, rfl⟩
  · exact .int _ t
  · exact .str _ t
theorem vPs_reads {P : Program} {w : World} {h : Heap} : ∀ {ys : List (Key × V)} {vs : List (Key × Value)} {es : List DictEntry} {ps : List (PyData × PyData)}, vPs ys = some ps → KV ys vs → Pairs (mixKind P w) es vs → ReadsAll h (es.map (·.key)) (ps.map (·.1)) [] ∧ ReadsAll h (es.map (·.val)) (ps.map (·.2)) []
  | [], vs, es, ps, e, r, q => by
    cases e
    cases r
    cases q
    exact ⟨.nil, .nil⟩
  | (k, v) :: ys, vs, es, ps, e, r, q => by
    simp only [vPs, Option.bind_eq_some_iff, Option.map_eq_some_iff] at e
    obtain ⟨p, e1, ps', e2, rfl⟩ := e
    cases r with
    | cons r1 r2 =>
      cases q with
      | cons q1 q2 q3 =>
        rename_i kv _ en _
        obtain ⟨h1, h2⟩ := vPs_reads (h := h) e2 r2 q3
        obtain ⟨a, b⟩ := r1
        have a : k = kv.1 := a
        have b : RelV v kv.2 := b
        have k1 : Reads h en.key (kP k) [] := kP_reads (by rw [a]; exact q1)
        have k2 : Reads h en.val p [] := vP_reads e1 (by rw [q2]; exact b)
        exact ⟨.cons (as := []) (bs := []) k1 h1, .cons (as := []) (bs := []) k2 h2⟩
section
variable {X : Cx}
theorem call_reprK (hgu : X.A.guards = some []) (hu : X.A.units + 100 < cLine) : CallR X (.builtin "repr") (fun xs H Q => ∃ (a : Addr) (ys : List (Key × V)) (ps : List (PyData × PyData)), xs = [.ref a] ∧ H a = some (.dK ys) ∧ vPs ys = some ps ∧ (PyData.dict ps).showable = true ∧ (PyData.dict ps).depth ≤ 64 ∧ (PyData.dict ps).shown.length ≤ sizeLine ∧ Q (.str (PyData.dict ps).shown) H) := by
  intro pins s σ H xs us Q I r h
  obtain ⟨a, ys, ps, rfl, hH, hp, h1, h2, h3, hq⟩ := h
  obtain ⟨u, rfl, ru⟩ := vals1 r
  obtain rfl : u = Value.ref a := ru
  obtain ⟨_, hs, vs, kv, o, es, ep, g1, g2, g3, _, g4, _⟩ := dk_of I.hok hH
  obtain ⟨r1, r2⟩ := vPs_reads (h := s.heap) hp kv g4
  have rd : Reads s.heap (.ref a) (.dict ps) (a :: [] ++ []) := .dict g1 g2.1 g3 r1 r2
  exact repr_of_reads' rd h1 (fun _ q => by
    have : sysModules = a := by simpa using q
    rw [this] at hs
    simp at hs) hgu (by omega) (fun _ _ e => e) (fun h' u tk hk => ⟨.str _, H, I.kept hk, ⟨_, rfl⟩, hq⟩) h3
theorem dPs_vPs {K : PySem.W.Frag} {mg : Str → Option Value} {F : Hp} : ∀ {kvs : List (Key × D)} {ys : List (Key × V)} {ps : List (PyData × PyData)}, dPs kvs = some ps → RpK K mg F kvs ys → vPs ys = some ps
  | [], ys, ps, e, r => by unfold RpK at r; subst r; exact e
  | (k, d) :: kvs, ys, ps, e, r => by
    unfold RpK at r
    obtain ⟨v, vs, rfl, r1, r2⟩ := r
    simp only [dPs, Option.bind_eq_some_iff, Option.map_eq_some_iff] at e
    obtain ⟨p, e1, ps', e2, rfl⟩ := e
    have := dPs_vPs e2 r2
    have hv : vP v = some p := by
      cases d <;> simp only [dP, Option.some.injEq, reduceCtorEq] at e1 <;> subst e1
      · rw [rp_non] at r1; subst r1; rfl
      · rw [rp_bl] at r1; subst r1; rfl
      · rw [rp_int] at r1; subst r1; rfl
      · rw [rp_str] at r1; subst r1; rfl
    simp only [vPs, hv, this, Option.bind_some, Option.map_some]
def gReprK : D → Option D
  | .dk kvs => match dPs kvs with
    | some ps => if ((PyData.dict ps).showable && decide ((PyData.dict ps).depth ≤ 64) && decide ((PyData.dict ps).shown.length ≤ sizeLine)) = true then some (.str (PyData.dict ps).shown) else none
    | none => none
  | _ => none
theorem c_reprK (hgu : X.A.guards = some []) (hu : X.A.units + 100 < cLine) : Cal1 X (.builtin "repr") gReprK := by
  intro H F x d d' s r e
  unfold gReprK at e
  split at e
  · split at e
    · rename_i ps hp
      split at e
      · rename_i hh
        cases e
        simp only [Bool.and_eq_true, decide_eq_true_eq] at hh
        obtain ⟨a, ys, rfl, hH, rk⟩ := r
        exact ⟨_, call_reprK hgu hu, fun Q q => ⟨a, ys, ps, rfl, hH, dPs_vPs hp rk, hh.1.1, hh.1.2, hh.2, q H F _ Al.refl (by rw [rp_str])⟩⟩
      · cases e
    · cases e
  · cases e
def gReprI : D → Option D
  | .int i => if i.natAbs.log2 < 1920 then some (.str (toString i)) else none
  | _ => none
theorem call_reprI : CallR X (.builtin "repr") (fun xs H Q => ∃ i : Int, xs = [.int i] ∧ i.natAbs.log2 < 1920 ∧ Q (.str (toString i)) H) := by
  intro pins s σ H xs us Q I r h
  obtain ⟨i, rfl, hz, q⟩ := h
  obtain ⟨u, rfl, rx⟩ := vals1 r
  obtain ⟨t, rfl⟩ := rx
  exact PySem.P.repr_of_int hz ⟨.str _, H, I.kept (t' := s.toks + 1) fun b o e => e, ⟨_, rfl⟩, q⟩
theorem c_reprI : Cal1 X (.builtin "repr") gReprI := by
  intro H F x d d' s r e
  unfold gReprI at e
  split at e
  · split at e
    · rename_i hz
      cases e
      exact ⟨_, call_reprI, fun Q q => ⟨_, by rw [show x = .int _ from r], hz, q H F _ Al.refl (by rw [rp_str])⟩⟩
    · cases e
  · cases e
def gReprB : D → Option D := fun d => (gReprA d).or ((gReprK d).or (gReprI d))
theorem c_reprB (hgu : X.A.guards = some []) (hu : X.A.units + 100 < cLine) : Cal1 X (.builtin "repr") gReprB := (c_reprA hgu hu).or ((c_reprK hgu hu).or c_reprI)
end
end Sr
namespace Sr
variable [TabL]
open PySem hiding start
open PySem.Spec L2
open PyProof.Rows hiding St
def gRev1 : D → Option (List D)
  | .int n => if okR n = true then some (rngL 0 n).reverse else none
  | _ => none
def mRevR (ma : M D) : M (List D) := bnd ma fun d => opt (gRev1 d)
theorem walks_rev {K : PySem.W.Frag} {mg : Str → Option Value} {F : Hp} {n : Int} : Walks K mg (Itc (0 + ((n.toNat : Nat) : Int) - 1) (-1) n.toNat) (rngL 0 n).reverse F := by
  have hl : (rngL 0 n).reverse.length = n.toNat := by
    unfold rngL
    rw [List.length_reverse, List.length_map, List.length_range, Int.sub_zero]
  refine ⟨_, _, by rw [hl]; exact walk_rangeC, fun H s => trivial, fun i H1 F1 x H2 hi s1 s2 y => ?_⟩
  obtain ⟨rfl, rfl⟩ := y
  rw [hl] at hi
  refine ⟨F1, .int (0 + ((n.toNat : Nat) : Int) - 1 + (i : Nat) * (-1)), Al.refl, ?_, by rw [rp_int]⟩
  unfold rngL
  rw [List.getElem?_reverse (by rw [List.length_map, List.length_range]; omega), List.length_map, List.length_range, List.getElem?_map, List.getElem?_range (by omega)]
  show some (D.int _) = some (D.int _)
  congr 2
  omega
theorem ji_revr {X : Cx} {T : Pn} {W : WX} {a tg : Expr} {ma : M D} {p p2 pos pos2 : Pos} (hg : Gl X "range") (hm : X.mg "range" = none) (hg' : Gl X "reversed") (hm' : X.mg "reversed" = none) (ha : JV X T W a ma) (na : starEach [a] X.env = (false, eval a X.env) :: starEach [] X.env := by rfl)
    (hs : starEach [Expr.Call (.Name "range" p2) [a] [] pos2] X.env = (false, eval (Expr.Call (.Name "range" p2) [a] [] pos2) X.env) :: starEach [] X.env := by rfl) : JI X T W tg (.Call (.Name "reversed" p) [.Call (.Name "range" p2) [a] [] pos2] [] pos) (mRevR ma) := by
  refine PIimp (pi_revR hg' hm' (prg_1 hg hm ha na) hs) fun σ H R ⟨e, F, er, h⟩ => ⟨e, F, er, h.bind.mono fun d e1 H1 F1 er1 mv1 h1 v hv => ?_⟩
  obtain ⟨z, hz, fin⟩ := h1.fin er1
  unfold gRev1 at hz
  split at hz
  · rename_i n
    split at hz
    · rename_i ho
      cases hz
      rw [rp_int] at hv
      subst hv
      unfold okR at ho
      rw [Bool.and_eq_true, decide_eq_true_eq, decide_eq_true_eq] at ho
      refine ⟨n, rfl, by decide, by decide, ho.1, ho.2, fin H1 F1 Al.refl _ ?_⟩
      have := walks_rev (K := X.K) (mg := X.mg) (F := F1) (n := n)
      rw [Int.sub_zero]
      exact this
    · cases hz
  · cases hz
end Sr
namespace Sr
variable [TabL]
open PySem hiding start
open PySem.Spec L2
open PyProof.Rows hiding St
open LamX (LamS lamEnv lamCx CodeO ExtN Tabs TabS TabB lam_make2 lam_start2)
def lamN (X : Cx) (A : Around) (outer : List Env) (s : Shared) (H : Hp) (E : XK) (scope : Scope) (f c' : Addr) : Cx :=
  { lamCx X A outer s H E scope f c' with
    xe := fun e s' => wpAny (model X.prog X.w) (A.deeper (lamEnv X scope s.heap.objs.size f c')) (leaving (lamEnv X scope s.heap.objs.size f c') e) (fun _ s'' => L2N.CX X.prog X.w outer H s E e s'') (fun e' s'' => L2N.CX X.prog X.w outer H s E e' s'') s' }
theorem inv_nxe {X : Cx} {pins : List (Addr × Obj)} {σ : St} {H : Hp} {s : Shared} (I : Inv X pins σ H s) (xe' : Value → Shared → Prop) : Inv { X with xe := xe' } pins σ H s :=
  ⟨⟨I.ok.mod, I.ok.kind, I.ok.glob, I.ok.blt, I.ok.above, I.ok.inj, I.ok.has, I.ok.cab, I.ok.hd, I.ok.frames, I.ok.stk, I.ok.exf, I.ok.bs, I.ok.bsz, I.ok.noex, I.ok.exfs, I.ok.funs, I.ok.frf⟩,
    I.os, I.bare, I.base, I.loc, I.cell, I.free, I.freeC, I.pin, I.hok, I.len⟩
section
variable {X : Cx} {A : Around} {outer : List Env} {s : Shared} {H : Hp} {E : XK} {scope : Scope} {f c' : Addr}
theorem takes_lam : L2N.Takes (lamN X A outer s H E scope f c') (WE0 E) := L2N.takes_of (X := lamN X A outer s H E scope f c') rfl rfl rfl rfl
end
section
variable {X : Cx} {pins : List (Addr × Obj)} {σ : L2.St} {H : Hp} {s : Shared}
theorem pe_actN {Eg : XK} {Ng : List Str} {qg : Str} {sg : Scope} {g f c' : Addr} {cdg pm ctv : Value} {params : Arguments} {body : Expr} {scope : Scope} {k i : Nat} {a : Str} {pn : List (Addr × Obj)} {xe : Value → Shared → Prop} {W : WX} {E : XK} {tb : TE} {p1 p2 : Pos}
    (I : Inv X pins σ H s) (L : LamS X.env.scope scope) (hf : s.heap.get? f = some (PySem.W.kla_obj "<lambda>" (X.env.qual ++ "<lambda>") params body scope (cloFrom X.env.cells scope.names []) pm c' ctv)) (hfn : H f = none) (hfr : f ∉ frs X.stack)
    (hbind : bindArgs (PySem.W.kla_fn "<lambda>" (X.env.qual ++ "<lambda>") params body scope (cloFrom X.env.cells scope.names []) pm (.ref c') ctv) ⟨[], []⟩ = pure [])
    (tk : L2N.Takes ((cxOf (L2N.CX X.prog X.w) X.prog X.w X.K X.mg X.base Ng qg sg g cdg X.A X.stack s H Eg).tr pn xe) W) (hW : ∀ cls d σ' H', σ'.length = Ng.length → E cls d H' → W cls d σ' H') (hr : Room (k + 1) (X.A.deeper (envOfC qg sg s.heap.objs.size g cdg)))
    (hbody : ∀ (A : Around) (outer : List Env) (s : Shared) (H : Hp), Room k (A.deeper (lamEnv X scope s.heap.objs.size f c')) → A.guards = X.A.guards → PE (lamN X A outer s H E scope f c') body tb)
    (hN : Ng[i]? = some a) (hv : Vis sg a) (hd : (a == ("__debug__" : Str)) = false := by decide) (hcd : (a == ("__classdict__" : Str)) = false := by decide) :
    PE ((cxOf (L2N.CX X.prog X.w) X.prog X.w X.K X.mg X.base Ng qg sg g cdg X.A X.stack s H Eg).tr pn xe) (.Call (.Name a p1) [] [] p2)
      (fun σZ HZ Q => σZ[i]? = some (some (.ref f)) ∧ HZ c' = some (CodeO c' (X.env.qual ++ "<lambda>")) ∧ tb σ HZ Q) := by
  refine ⟨fun pinsZ sZ σZ HZ Q IZ h => ?_⟩
  obtain ⟨hs, hc, ht⟩ := h
  refine wpAny_Call_Name_kw (thn ((pe_var (pos := p1) (i := i) hN hv hd hcd).run pinsZ sZ σZ HZ (fun v H1 => v = .ref f ∧ H1 = HZ) IZ ⟨.ref f, hs, rfl, rfl⟩) fun u s1 ⟨v, H1, I1, r1, q1⟩ => ?_)
  obtain ⟨ev, eH⟩ := q1
  subst ev
  rw [eH] at I1
  obtain rfl : u = Value.ref f := r1
  have of1 : s1.heap.get? f = some (PySem.W.kla_obj "<lambda>" (X.env.qual ++ "<lambda>") params body scope (cloFrom X.env.cells scope.names []) pm c' ctv) := I1.base.keep f _ hf hfn hfr (fun z => nomatch (show f ∈ ([] : List Addr) from z))
  refine PySem.W.callWith_F0 ⟨_, _, _, _, of1⟩ ?_
  have un : Un (frs X.stack) [] H HZ s.heap s1.heap := I1.base
  obtain ⟨⟨oc, vs, t, hoc, hdc, hvc⟩, _, _⟩ := I1.hok c' _ hc
  have rc : codeAny (model X.prog X.w) (X.A.deeper (envOfC qg sg s.heap.objs.size g cdg)) (.call (.ref f) ⟨[], []⟩) (CR (L2N.CX X.prog X.w) (envOfC qg sg s.heap.objs.size g cdg :: X.stack) X.prog X.w HZ s1 Q E) s1 := by
    refine PySem.W.kla_callFunE hr.depth of1 rfl L.co L.gen rfl ⟨c', oc, vs, t, rfl, hoc, hdc, hvc⟩ ?_
    rw [hbind]
    refine wpAny_pure (wpAny_newFunctionEnv (fun y hy => (L.own y hy).2) (fun y hy => absurd hy (by simp)) (fun h₁ hns hsb => ⟨I1.nolimit.fresh _ hsb, ?_⟩) L.kind)
    show codeAny _ _ (.expr body (lamEnv X scope s1.heap.objs.size f c')) _ _
    have kp : ∀ b o, s1.heap.get? b = some o → h₁.get? b = some o := fun b o e => hsb.extBut b o (Nat.ne_of_lt (Heap.lt_size e)) (Heap.get?_push_of_some _ e)
    have J := inv_nxe (lam_start2 (E := E) (scope := scope) (f := f) (c' := c') (h₁ := h₁) (tk := s1.toks + ([] : List (Str × Value)).length) I L I1.env0 hr.hd un hns kp)
      (fun e s' => wpAny (model X.prog X.w) ((X.A.deeper (envOfC qg sg s.heap.objs.size g cdg)).deeper (lamEnv X scope s1.heap.objs.size f c')) (leaving (lamEnv X scope s1.heap.objs.size f c') e)
        (fun _ s'' => L2N.CX X.prog X.w (envOfC qg sg s.heap.objs.size g cdg :: X.stack) HZ s1 E e s'') (fun e' s'' => L2N.CX X.prog X.w (envOfC qg sg s.heap.objs.size g cdg :: X.stack) HZ s1 E e' s'') s')
    refine PySem.W.kla_codeExpr (wpAny_mono ((hbody _ _ s1 HZ (hr.deeper _) rfl).run [] _ _ HZ Q J ht) (fun v s' hq => ?_) fun e s' hq => hq)
    obtain ⟨w', H', J', rv, q⟩ := hq
    exact ⟨w', H', J'.os, J'.bare, J'.base, J'.hok, rv, q⟩
  refine wpAny_call (codeAny_mono rc fun r s' hq => ?_)
  cases r with
  | error e => exact tk e s' (L2N.XE.of_call I1 (fun cls d H' h => hW cls d σZ H' I1.len h) hq)
  | ok fl =>
    cases fl with
    | ret u => exact I1.after hq
    | next => exact False.elim hq
    | brk => exact False.elim hq
    | cont => exact False.elim hq
end
open L2H (RoomH HotC Hot1 PinOk PIH cxH inv_startH)
structure FnE (P : Program) (w : World) (K : PySem.W.Frag) (mg : Str → Option Value) (base : Heap) (k : Nat) (f : Addr) (fd : FuncData) (ps : List Str) (g : Ex → Option D) : Prop where
  run : ∀ (A : Around) (outer : List Env) (s : Shared) (H F : Hp) (args : Args) (Q : VK) (E : XK) (p : Addr × Obj) (ex : Ex) (cls : Value) (d : Option Addr) (r : D), RoomH k A → Hot1 A p → PinOk outer H s p → Env0 P w K mg base A outer s H → BindsTo s fd args (ps.zip [.ref p.1]) →
    L2N.Zn cls d p.2 → mg ex.c = some cls → (ex.fs = [] → d = none) → Same F H → TbOk H F → g ex = some r → (∀ H' F', Fr none H F H' F' → ∀ v, Rp K mg F' r v → Q v H') →
    codeAny (model P w) A (.call (.ref f) args) (CR (L2N.CX P w) outer P w H s Q E) s
def stE (nl : Nat) : En := List.replicate nl Sl.no
def mkE (nl : Nat) (su : Ex → M Fl) (ex : Ex) : Option D := match fin0 false (su ex (stE nl)) with
  | .ok d _ => some d
  | _ => none
theorem stE_get {nl i : Nat} {sl : Sl} (h : (stE nl)[i]? = some sl) : sl = .no := by
  unfold stE at h
  rw [List.getElem?_replicate] at h
  split at h
  · cases h; rfl
  · cases h
theorem ER.startE {K : PySem.W.Frag} {mg : Str → Option Value} {N : List Str} {H F : Hp} {a : Addr} (s : Same F H) (tb : TbOk H F) (hN : 1 ≤ N.length) : ER K mg [(0, a)] (stE N.length) (start N [.ref a]) H F := by
  refine ⟨s, fun i d h => ?_, fun i d h => ?_, fun i j p d d' h => ?_, ?_, fun q h => ?_, tb⟩
  · cases stE_get h
  · cases stE_get h
  · cases stE_get h
  · unfold stE start
    simp only [List.length_append, List.length_map, List.length_replicate, List.length_cons, List.length_nil]
    omega
  · rw [List.mem_singleton] at h; subst h; rfl
theorem no_owE {nl : Nat} {σ : St} {a : Addr} : ¬ Ow (stE nl) σ a := by
  rintro ⟨i, d, h, _⟩
  cases stE_get h
theorem Mv.frE {K : PySem.W.Frag} {mg : Str → Option Value} {T : Pn} {nl : Nat} {e' : En} {σ σ' : St} {H F H' F' : Hp} (er : ER K mg T e' σ' H' F') (mv : Mv (stE nl) σ H F e' σ' H' F') : Fr none H F H' F' :=
  ⟨mv.sub, er.sub, fun a o h z _ => (mv.keep a o h no_owE).1 z, fun a o h => by
    rcases mv.new a o h with h | h | h
    · exact .inl h
    · exact .inr h
    · exact (no_owE h).elim, mv.there, er.tb⟩
section
variable {P : Program} {w : World} {K : PySem.W.Frag} {mg : Str → Option Value} {base : Heap} {x qual : Str} {params : Arguments} {body : List Stmt} {scope : Scope} {dvs : List V} {kws : List (Str × V)} {f : Addr} {fd : FuncData}
theorem fnE_of {N : List Str} {y : Str} {k nl : Nat} {su : Ex → M Fl} (hnl : N.length = nl) (hN : 1 ≤ N.length) (G : FunD K x qual params body scope dvs kws f fd) (S : FnScope N [y] scope)
    (hb : ∀ (cdv : Value) (A : Around) (outer : List Env) (s0 : Shared) (H : Hp) (E : XK) (p : Addr × Obj) (ex : Ex) (cls : Value) (d : Option Addr), Hot1 A p → RoomH k (A.deeper (envOfC qual scope s0.heap.objs.size f cdv)) → L2N.Zn cls d p.2 → (∃ vs, p.2.data = .fields vs) → mg ex.c = some cls → (ex.fs = [] → d = none) →
      JSs (cxH (L2N.CX P w) P w K mg base N qual scope f cdv A outer s0 H E p) [(0, p.1)] (WE0 E) body (su ex)) :
    FnE P w K mg base (k + 1) f fd [y] (mkE nl su) := by
  subst hnl
  obtain ⟨oc, od, dV, kV, doc, pm, an, cdv, ct, osl, rfl, lk, hcd, _, _⟩ := G.ex
  refine ⟨fun A outer s H F args Q E p ex cls d r hr hot hpin e0 hbd hz hm hd0 sub tb hg hq => ?_⟩
  have KX : K.In s.heap := e0.mod.kin.keeps fun b o e => (e0.bs b o e).1
  have lim : s.heap.NoLimit := e0.mod.nolimit.keeps fun b o e => (e0.bs b o e).1
  have hkind : ∀ z ∈ [y].zip [Value.ref p.1], scope.names.lookup z.1 = some .local ∨ (scope.names.lookup z.1 = some .cell ∧ ((cellsFrom (s.heap.objs.size + 1) scope.names []).lookup z.1).isSome = true) := fun ⟨n, v⟩ hy => by
    rcases S.par n (List.of_mem_zip hy).1 with q | q
    · exact .inl q
    · exact .inr ⟨q, PySem.W.cellsFrom_some _ _ _ (.inl q)⟩
  refine codeAny_call_function hr.depth (KX _ _ lk) rfl S.co S.gen rfl (PySem.W.codeRec_of KX hcd) (hbd _ _ _ _ ?_)
  refine wpAny_newFunctionEnv_cells S.kind hkind fun env he s1 x => ?_
  subst he
  refine ⟨lim.keeps x.toInCall.keep, codeAny_func ?_⟩
  have hfs : ∃ vs, p.2.data = .fields vs := by obtain ⟨_, vs, q, _⟩ := hot; exact ⟨vs, q⟩
  have ht := hb cdv A outer s H E p ex cls d hot (hr.deeper _) hz hfs hm hd0
  have I : Inv (cxH (L2N.CX P w) P w K mg base N qual scope f cdv A outer s H E p) [] (L2.start N [.ref p.1]) H s1 := inv_startH S hpin e0 rfl (.cons rfl .nil) x
  have hq0 : TSt K mg [(0, p.1)] (WE0 E) (su ex) { nx := fun _ H' => Q .non H', rt := Q } (L2.start N [.ref p.1]) H := by
    refine ⟨stE N.length, F, ER.startE sub tb hN, ?_⟩
    unfold mkE at hg
    unfold RunS
    cases q : su ex (stE N.length) with
    | ok fl e1 =>
      rw [q] at hg
      cases fl with
      | nx =>
        cases hg
        exact fun σ' H' F' er mv => hq H' F' (mv.frE er) _ (by rw [rp_non])
      | rt d => 
        cases hg
        exact fun σ' H' F' v er mv rv => hq H' F' (mv.frE er) v rv
      | ro d =>
        cases hg
        intro σ' H' F' p' er mv hp fp np ow
        obtain ⟨o, ho⟩ := ow.there
        have fr := mv.frE er
        have hp2 : H p' = none := hp.elim id fun z => (no_owE z).elim
        refine hq H' (upd F' p' o) ⟨fr.sub.trans (same_upd fp), fun b u e => ?_, fr.keep, fun b u e => ?_, fr.there, fr.tb.updF (ow.nt ho)⟩ _ (ow.rp fp ho)
        · by_cases hb : b = p'
          · subst hb; rw [upd_same] at e; cases e; exact ho
          · rw [upd_ne hb] at e; exact fr.fin b u e
        · by_cases hb : b = p'
          · subst hb; exact .inr hp2
          · rw [upd_ne hb] at e; exact fr.new b u e
      | bk => cases hg
      | ct => cases hg
    | exc x e1 => rw [q] at hg; cases hg
    | bad => rw [q] at hg; cases hg
  refine wpAny_mono (ht.run [] s1 (L2.start N [.ref p.1]) H _ I hq0) (fun fl s' hs => ?_) fun e s' hs => hs
  have fin : ∀ {σ' : L2.St} {H' : Hp} {v : V} {u : Value}, Inv (cxH (L2N.CX P w) P w K mg base N qual scope f cdv A outer s H E p) [] σ' H' s' → RelV v u → Q v H' → CE outer P w H s Q u s' :=
    fun {σ' H' v u} J rv q => ⟨v, H', J.os, J.bare, J.base, J.hok, rv, q⟩
  cases fl with
  | ret u =>
    obtain ⟨v, σ', H', J, rv, q⟩ := hs
    exact fin J rv q
  | next =>
    obtain ⟨σ', H', J, q⟩ := hs
    exact fin (v := V.non) (u := Value.none) J rfl q
  | brk =>
    obtain ⟨_, _, _, q⟩ := hs
    exact False.elim q
  | cont =>
    obtain ⟨_, _, _, q⟩ := hs
    exact False.elim q
end
abbrev FnEC (P : Program) (w : World) (K : PySem.W.Frag) (mg : Str → Option Value) (base : Heap) (k : Nat) (x : Str) (ps : List Str) (g : Ex → Option D) : Prop :=
  ∃ f fd, FnE P w K mg base k f fd ps g ∧ mg x = some (.ref f) ∧ PySem.W.keepIn K (.ref f) = true ∧ Binds K fd ps []
def tKind (K : PySem.W.Frag) (mg : Str → Option Value) (g : Ex → Option D) (a : Addr) (cls : Value) (d : Option Addr) : TE := fun σ H Q =>
  ∃ (ex : Ex) (F : Hp) (r : D), mg ex.c = some cls ∧ (ex.fs = [] → d = none) ∧ Same F H ∧ TbOk H F ∧ g ex = some r ∧ σ[1]? = some (some (.ref a)) ∧ ∀ H' F', Fr none H F H' F' → ∀ v, Rp K mg F' r v → Q v H'
section
variable {X : Cx} {a : Addr} {oe : Obj} {cls : Value} {d : Option Addr} {pn : List (Addr × Obj)} {g : Ex → Option D} {x y n : Str} {k j : Nat} {p p1 pos : Pos}
theorem pe_kind (G : FnEC X.prog X.w X.K X.mg X.base k x [y] g) (hr : RoomH j X.A) (hz : L2N.Zn cls d oe) (hfs : ∃ vs, oe.data = .fields vs) (hg : Gl X x) (hN : X.N[1]? = some n) (hv : Vis X.env.scope n) (hk : k ≤ j := by decide)
    (hdb : (x == ("__debug__" : Str)) = false := by decide) (hdn : (n == ("__debug__" : Str)) = false := by decide) (hcd : (n == ("__classdict__" : Str)) = false := by decide)
    (he : starEach [.Name n p1] X.env = (false, eval (.Name n p1) X.env) :: starEach [] X.env := by rfl) (hpl : (backTo pos (starEach [] X.env)).any (·.1) = false := by rfl) :
    PE (X.suite a ((a, oe) :: pn)) (.Call (.Name x p) [.Name n p1] [] pos) (tKind X.K X.mg g a cls d) := by
  obtain ⟨fa, fd, FO, hm, hkp, hb⟩ := G
  refine ⟨fun pins s σ H Q I ⟨ex, F, r, m1, m2, sub, tb, hgr, hs, hq⟩ => ?_⟩
  refine wpAny_Call_Name_kw (ld_glob I hg hm ?_ hdb)
  have hpa : PA (X.suite a ((a, oe) :: pn)) [.Name n p1] (tCons (tVar 1) tNil) := pa_cons (pe_var (X := X.suite a ((a, oe) :: pn)) hN hv hdn hcd) pa_nil he
  refine PySem.W.callWith_K (h₀ := X.base) I.ok.mod.kin hkp (thn (hpa.run pos pins s σ H (fun vs H1 => vs = [.ref a] ∧ H1 = H) I ⟨_, hs, rfl, rfl⟩) fun us s1 ⟨vs, H1, I1, r1, e1, e2⟩ => ⟨I1.kIn, ?_⟩) he hpl
  subst e1 e2
  obtain ⟨u, rfl, ru⟩ := r1.one
  obtain rfl : u = Value.ref a := ru
  obtain ⟨vs, hd⟩ := hfs
  have hot : Hot1 (X.suite a ((a, oe) :: pn)).A (a, oe) := ⟨rfl, vs, hd, hz.2.2 vs hd⟩
  have P1 := I1.pin (a, oe) (List.mem_append_left _ List.mem_cons_self)
  have hpin : PinOk (X.suite a ((a, oe) :: pn)).stack H1 s1 (a, oe) := ⟨P1.1, P1.2.1, fun hm => (List.mem_cons.mp (I1.stkSub a hm)).elim P1.2.2.1 P1.2.2.2.1, P1.2.2.2.2⟩
  have b := hb s1 [.ref a] I1.kIn rfl
  rw [List.append_nil] at b
  refine wpAny_call (codeAny_mono (FO.run (X.suite a ((a, oe) :: pn)).A _ s1 H1 F ⟨[.ref a], []⟩ Q (fun _ _ _ => False) (a, oe) ex cls d r ⟨(hr.mono hk).dp, (hr.mono hk).un⟩ hot hpin I1.env0 b hz m1 m2 sub tb hgr hq) fun rr s' h => ?_)
  cases rr with
  | error e => obtain ⟨_, _, _, _, _, _, _, _, _, _, _, _, z⟩ := h; exact z.elim
  | ok fl =>
    cases fl with
    | ret u => exact I1.after h
    | next => exact False.elim h
    | brk => exact False.elim h
    | cont => exact False.elim h
end
end Sr
namespace Sr
variable [TabL]
open PySem hiding start
open PySem.Spec L2
open PyProof.Rows hiding St
open LamX (LamS lamEnv lamCx CodeO ExtN Tabs TabS TabB lam_make2 lam_start2)
open L2H (RoomH HotC Hot1 PinOk cxH)
section
variable {X : Cx} {T : Pn} {W : WX} {pos : Pos}
theorem call_isEH {a D : Addr} {oe : Obj} (C : ExcC X.K D) (hz : Zc (.ref D) none oe) (hf : ∃ vs, oe.data = .fields vs) (hpn : (a, oe) ∈ X.pn) : CallR X (.builtin "isinstance") (rIsE X.K D a) := by
  intro pins s σ H xs us Q I r h
  obtain ⟨c, cv, b, rfl, hcv, e, q⟩ := h
  cases r with
  | cons rx rr =>
    cases rr with
    | cons rt rr =>
      cases rr
      cases rx
      have ec := hcv _ rt
      subst ec
      obtain ⟨hget, _⟩ := I.pin (a, oe) (List.mem_append.mpr (.inl hpn))
      obtain ⟨vs, hv⟩ := hf
      have J : PySem.W.InstAt s.heap a oe D none := by
        obtain ⟨oc, od, oda, osl⟩ := oe
        obtain ⟨h1, h2⟩ := hz
        dsimp only at h1 h2 hv
        subst h1 h2 hv
        exact ⟨hget, rfl, rfl, trivial⟩
      exact PySem.W.kia_one (PySem.W.handS_kitx_exc C.hg C.hk C.hs C.hd C.ha C.hn C.ht C.hm) I.kIn J e (fun z => nomatch z) fun tk => ⟨.bl b, H, I.kept (t' := tk) fun _ _ z => z, rfl, q⟩
theorem jv_isEH {oe : Addr × Obj} {cls : Value} {d : Option Addr} {ex : Ex} {i : Nat} {n y : Str} {p p1 p2 : Pos} {cv : Value} {c : V} {tbl : List (Str × Bool)} {ty : TE} (hi : IsE X.K X.mg cv tbl) (hz : L2N.Zn cls d oe.2) (hfs : ∃ vs, oe.2.data = .fields vs) (hpn : oe ∈ X.pn) (hm : X.mg ex.c = some cls) (hd0 : ex.fs = [] → d = none)
    (hcv : ∀ u, RelV c u → u = cv) (hy : PE X (.Name y p2) ty) (hty : ∀ σ H Q, Q c H → ty σ H Q)
    (hg : Gl X "isinstance") (hmi : X.mg "isinstance" = none) (hN : X.N[i]? = some n) (hv : Vis X.env.scope n) (hdn : (n == ("__debug__" : Str)) = false := by decide) (hcd : (n == ("__classdict__" : Str)) = false := by decide)
    (he : starEach [.Name n p1, .Name y p2] X.env = (false, eval (.Name n p1) X.env) :: starEach [.Name y p2] X.env := by rfl) (he2 : starEach [.Name y p2] X.env = (false, eval (.Name y p2) X.env) :: starEach [] X.env := by rfl) :
    JV X ((i, oe.1) :: T) W (.Call (.Name "isinstance" p) [.Name n p1, .Name y p2] [] pos) (mIsE tbl ex) := by
  by_cases hfe : ex.fs.isEmpty = true
  · cases q : tbl.lookup ex.c with
    | none => exact ⟨fun pins s σ H Q I ⟨e, F, er, h⟩ => by unfold RunAt mIsE opt at h; rw [if_pos hfe, q] at h; exact h.elim⟩
    | some b =>
      obtain ⟨C, h1, h2, h3⟩ := hi _ _ q
      rw [hm] at h1; cases h1
      obtain rfl := hd0 (List.isEmpty_iff.mp hfe)
      refine PEimp (pe_callB (call_isEH (X := X) h2 hz.zc hfs hpn) hg hmi (by decide +kernel) (pa_cons (pe_var hN hv hdn hcd) (pa_cons hy pa_nil he2) he) (by decide) (by decide) he (by rfl)) fun σ H Q ⟨e, F, er, h⟩ => ?_
      unfold mIsE at h
      rw [if_pos hfe, q] at h
      obtain ⟨z, hz', fin⟩ := h.fin er
      cases hz'
      refine ⟨_, er.pin (i, oe.1) List.mem_cons_self, hty σ H _ ⟨c, cv, b, rfl, hcv, h3, ?_⟩⟩
      exact fin H F Al.refl _ (by rw [rp_bl])
  · exact ⟨fun pins s σ H Q I ⟨e, F, er, h⟩ => by unfold RunAt mIsE opt at h; rw [if_neg hfe] at h; exact h.elim⟩
end
structure LamOk (K : PySem.W.Frag) (mg : Str → Option Value) (base : Heap) (f : Addr) (q : Str) : Prop where
  tb : TabB base mg (cTz K f).1 (cTz K f).2
  mem : ((cTz K f).2, q) ∈ TabL.l
  one : ∀ p ∈ TabL.l, p.1 = (cTz K f).2 → p.2 = q
theorem ER.lam {K : PySem.W.Frag} {mg : Str → Option Value} {T : Pn} {e : En} {σ : St} {H F H1 : Hp} (er : ER K mg T e σ H F) (eN : ExtN H H1) (t : Tabs TabL.l H1) (all : ∀ a ps, H1 a = some (.tbl ps) → ∃ q ∈ TabL.l, q.1 = a) : ER K mg T e σ H1 F ∧ Mv e σ H F e σ H1 F := by
  refine ⟨⟨fun b o h => eN b o (er.sub b o h) (er.tb.nt b o h), er.val, fun i d h => ?_, er.inj, er.len, er.pin, ⟨t, er.tb.nt, all⟩⟩, Same.refl _, fun a o h n => ⟨fun z => eN a o h z, n⟩, fun a o h => .inl h, fun a h => ?_⟩
  · obtain ⟨p, h1, h2, h3⟩ := er.own i d h
    exact ⟨p, h1, h2, h3.keep (Same.refl _) fun o ho => eN p o ho (h3.nt ho)⟩
  · cases q : H a with
    | none => rfl
    | some o =>
      by_cases z : NTb o
      · rw [eN a o q z] at h; cases h
      · have : ∃ ps, o = .tbl ps := by
          refine Classical.byContradiction fun hn => z fun ps e => hn ⟨ps, e⟩
        obtain ⟨ps, rfl⟩ := this
        obtain ⟨r, hr, rfl⟩ := er.tb.all a ps q
        obtain ⟨ps', h1, _⟩ := t r hr
        rw [h1] at h; cases h
section
variable {X : Cx} {pins : List (Addr × Obj)} {σ : L2.St} {H : Hp} {s : Shared}
theorem lam_makeN {TL : List (Addr × Str)} {c P : Addr} {params : Arguments} {body : Expr} {scope : Scope} {pos : Pos} {E : Value → Shared → Prop} {Q : Value → Shared → Prop} (I : Inv X pins σ H s) (TB : TabB X.base X.mg c P) (hcode : X.env.code = .ref c)
    (hm : (P, X.env.qual ++ "<lambda>") ∈ TL) (hu : ∀ p ∈ TL, p.1 = P → p.2 = X.env.qual ++ "<lambda>") (hT : Tabs TL H) (hdef : defaultsOf params X.env = ([], [])) (hfree : ∀ y ∈ scope.names, y.2 = .free → ∃ c, X.env.cells.lookup y.1 = some c)
    (h : ∀ (f c' : Addr) (pm ctv : Value) (H1 : Hp) (s' : Shared), Inv X pins σ H1 s' → ExtN H H1 → Tabs TL H1 → (∀ a ps, H1 a = some (.tbl ps) → ∃ ps', H a = some (.tbl ps')) →
      s'.heap.get? f = some (PySem.W.kla_obj "<lambda>" (X.env.qual ++ "<lambda>") params body scope (cloFrom X.env.cells scope.names []) pm c' ctv) → H1 f = none → f ∉ frs X.stack → H1 c' = some (CodeO c' (X.env.qual ++ "<lambda>")) → Q (.ref f) s') :
    wpAny (model X.prog X.w) X.A (eval (.Lambda params body scope pos) X.env) Q E s := by
  obtain ⟨ps, hP, ht, ha⟩ := hT _ hm
  refine PySem.W.kla_eval hdef ?_
  have bP : s.heap.BuiltinsAt X.mg P := TB.bm.keeps I.bk
  have hP' : s.heap.get? P = some { cls := .none, data := .fields ps } := I.hok P _ hP
  have nofr : ∀ f, s.heap.objs.size ≤ f → f ∉ frs X.stack := fun f hf z => by
    rcases List.mem_cons.mp (I.stkSub _ z) with e | e
    · have h1 := I.lt
      rw [← e] at h1
      exact Nat.lt_irrefl _ (Nat.lt_of_lt_of_le h1 hf)
    · exact I.nofs hf e
  cases hc : codeAmong pos ps.toList with
  | none =>
    refine PySem.W.kla_makeFunction (mg := X.mg) (c := c) (P := P) (ps := ps) (closure_ok hfree) I.ok.glob (I.mod.glob.keeps I.bk) hcode (TB.code.keeps I.bk) hP' ht hc TB.gP bP fun c' ctv h' tk hx hge hlt hrec htb => ?_
    obtain ⟨c2, oc, vs, t, e2, hoc, hd, hv⟩ := hrec
    cases e2
    have hsz : s.heap.objs.size ≤ h'.objs.size := Nat.le_trans hge (Nat.le_of_lt hlt)
    have nC : H c' = none := I.hok.fresh hge
    have I1 := LamX.inv_table (q := X.env.qual ++ "<lambda>") (t' := tk) (more := #[rawInt pos.line, rawInt pos.col, .ref c']) (h' := h'.push (PySem.W.kla_obj "<lambda>" (X.env.qual ++ "<lambda>") params body scope (cloFrom X.env.cells scope.names []) ((X.mg "__name__").getD .none) c' ctv)) I hP
      (fun b o hb e => Heap.get?_push_of_some _ (hx b o hb e)) (Heap.get?_push_of_some _ htb) hge ⟨oc, vs, t, Heap.get?_push_of_some _ hoc, hd, hv⟩
    have at_ : ∀ b, b ≠ P → b ≠ c' → upd (upd H P (.tbl (ps ++ #[rawInt pos.line, rawInt pos.col, .ref c']))) c' (CodeO c' (X.env.qual ++ "<lambda>")) b = H b := fun b h1 h2 => by rw [upd_ne h2, upd_ne h1]
    have nPc : P ≠ c' := ne_of_none hP nC
    have hE : ExtN H (upd (upd H P (.tbl (ps ++ #[rawInt pos.line, rawInt pos.col, .ref c']))) c' (CodeO c' (X.env.qual ++ "<lambda>"))) := fun b o e n => by
      rw [at_ b (fun z => n ps (Option.some.inj (e.symm.trans (by rw [z]; exact hP)))) (ne_of_none e nC)]
      exact e
    have eL : (ps ++ #[rawInt pos.line, rawInt pos.col, .ref c']).toList = ps.toList ++ [rawInt pos.line, rawInt pos.col, .ref c'] := by simp
    refine h h'.objs.size c' ((X.mg "__name__").getD .none) ctv _ _ I1 hE (fun p hp => ?_) (fun b qs e => ?_) (Heap.get?_push_size _ rfl) ?_ (nofr _ hsz) upd_same
    · by_cases hb : p.1 = P
      · rw [hu p hp hb, hb]
        refine ⟨_, by rw [upd_ne nPc, upd_same], by rw [eL]; exact PySem.TriplesOk_snoc _ _ _ _ ht, fun p' cv hcv => ?_⟩
        rw [eL] at hcv
        rcases LamX.among_app _ ht hcv with z | z
        · obtain ⟨c0, e1, e2⟩ := ha p' cv z
          exact ⟨c0, e1, hE _ _ e2 LamX.codeO_ne⟩
        · exact ⟨c', z, upd_same⟩
      · obtain ⟨ps', a1, a2, a3⟩ := hT p hp
        refine ⟨ps', by rw [at_ _ hb (ne_of_none a1 nC)]; exact a1, a2, fun p' cv hcv => ?_⟩
        obtain ⟨c0, e1, e2⟩ := a3 p' cv hcv
        exact ⟨c0, e1, hE _ _ e2 LamX.codeO_ne⟩
    · by_cases h1 : b = c'
      · subst h1; rw [upd_same] at e; exact (LamX.codeO_ne _ (Option.some.inj e)).elim
      · by_cases h2 : b = P
        · subst h2; exact ⟨_, hP⟩
        · rw [at_ b h2 h1] at e; exact ⟨_, e⟩
    · rw [at_ _ (Nat.ne_of_gt (Nat.lt_of_lt_of_le (Heap.lt_size hP') hsz)) (Nat.ne_of_gt hlt)]
      exact I.hok.fresh hsz
  | some cv =>
    obtain ⟨c', e, hco⟩ := ha pos cv hc
    subst e
    refine PySem.W.kla_makeFunctionHit (mg := X.mg) (c := c) (P := P) (ps := ps) (closure_ok hfree) I.ok.glob (I.mod.glob.keeps I.bk) hcode (TB.code.keeps I.bk) hP' ht hc bP fun ctv h' tk hx hsz => ?_
    have I1 : Inv X pins σ H { s with heap := h'.push (PySem.W.kla_obj "<lambda>" (X.env.qual ++ "<lambda>") params body scope (cloFrom X.env.cells scope.names []) ((X.mg "__name__").getD .none) c' ctv), toks := tk } := I.kept fun b o e => Heap.get?_push_of_some _ (hx b o e)
    exact h h'.objs.size c' ((X.mg "__name__").getD .none) ctv H _ I1 (ExtN.refl H) hT (fun a ps z => ⟨ps, z⟩) (Heap.get?_push_size _ rfl) (I.hok.fresh hsz) (nofr _ hsz) hco
end
abbrev TxtC (K : PySem.W.Frag) (mg : Str → Option Value) (x : Str) (ps : List Str) (params : Arguments) (body : List Stmt) (scope : Scope) : Prop :=
  ∃ f fd, FunD K x x params body scope [] [] f fd ∧ mg x = some (.ref f) ∧ PySem.W.keepIn K (.ref f) = true ∧ Binds K fd ps []
def mSaid (ct : Str → Option Bool) (g : Ex → Option D) (m : M D) : M D := fun e => match m e with
  | .ok d e1 => .ok (.tup [.str "told", d]) e1
  | .exc x e1 => (match ct x.c with
    | some true => (match g x with
      | some r => .ok (.tup [r]) e1
      | none => .bad)
    | _ => .bad)
  | .bad => .bad
section
variable {X : Cx} {T : Pn} {W : WX} {x a en kd ec y : Str} {pg : Arguments} {bg : List Stmt} {sg : Scope} {k kl kk : Nat} {CS fa : Addr} {ct : Str → Option Bool} {g : Ex → Option D} {mE : M D} {params : Arguments} {body : Expr} {scope : Scope} {j0 : Nat}
  {p pos lpos p1 p2 p4 p5 p6 p7 q0 q1 q2 q3 q4 q5 q6 : Pos} {x1 x2 : Nat}
theorem jv_said (hp : Pl X k) (hS : TxtC X.K X.mg x [a] pg bg sg) (Sg : FnScope [a, en] [a] sg)
    (hbg : bg = [.Try [.Return (some (.Tuple [.Constant (.str "told") j0 q0, .Call (.Name a p1) [] [] p2] x1 q1)) q2] [.ExceptHandler (some (.Name ec p4)) (some en) [.Return (some (.Tuple [.Call (.Name kd p5) [.Name en p6] [] p7] x2 q3)) q4] q5] [] [] q6])
    (hge : sg.names.lookup ec = some .globalImplicit) (hgk : sg.names.lookup kd = some .globalImplicit) (hla : sg.names.lookup a = some .local) (hln : sg.names.lookup en = some .local)
    (hme : X.mg ec = some (.ref CS)) (hct : Cat X.K X.mg (.ref CS) ct) (hK : FnEC X.prog X.w X.K X.mg X.base kk kd [y] g)
    (hL : LamOk X.K X.mg X.base fa (X.env.qual ++ "<lambda>")) (hcode : X.env.code = .ref (cTz X.K fa).1) (L : LamS X.env.scope scope) (hdef : defaultsOf params X.env = ([], []))
    (hbind : ∀ (q : Str) (cl : List (Str × Addr)) (pm cv ctv : Value), bindArgs (PySem.W.kla_fn "<lambda>" q params body scope cl pm cv ctv) ⟨[], []⟩ = pure [])
    (hbody : ∀ (A : Around) (outer : List Env) (s : Shared) (H : Hp) (E : XK) (f c' : Addr), Pl (lamN X A outer s H E scope f c') kl → JV (lamN X A outer s H E scope f c') T (WE0 E) body mE)
    (hg : Gl X x) (hk1 : kl + 2 ≤ k := by decide) (hk2 : kk + 1 ≤ k := by decide)
    (hdx : (x == ("__debug__" : Str)) = false := by decide) (hda : (a == ("__debug__" : Str)) = false := by decide) (hca : (a == ("__classdict__" : Str)) = false := by decide) (hde : (en == ("__debug__" : Str)) = false := by decide) (hce : (en == ("__classdict__" : Str)) = false := by decide)
    (hdk : (kd == ("__debug__" : Str)) = false := by decide) (hdc : (ec == ("__debug__" : Str)) = false := by decide) :
    JV X T W (.Call (.Name x p) [.Lambda params body scope lpos] [] pos) (mSaid ct g mE) := by
  obtain ⟨gA, fd, G, hm, hkp, hb⟩ := hS
  obtain ⟨oc, od, dV, kV, doc, pm, an, cdv, ctv, osl, rfl, lk, hcd, _, _⟩ := G.ex
  refine ⟨fun pins s σ H Q I ⟨e, F, er, h⟩ => ?_⟩
  refine wpAny_Call_Name_kw (ld_glob I hg hm ?_ hdx)
  refine PySem.W.callWith_K (h₀ := X.base) I.ok.mod.kin hkp ?_ (by rfl) (by rfl)
  show wpAny _ _ (spliced ((false, eval (.Lambda params body scope lpos) X.env) :: backTo pos (starEach [] X.env))) _ _ s
  refine Calls.spliced_cons (lam_makeN I hL.tb hcode hL.mem hL.one er.tb.tabs hdef (L.has I.ok) fun f c' pm' ctv' H1 s' I1 eN T1 only hf hfn hfr hco => ?_)
  refine Calls.spliced_nil ⟨I1.kIn, ?_⟩
  obtain ⟨er1, mv1⟩ := er.lam eN T1 fun b ps z => by
    obtain ⟨ps', z'⟩ := only b ps z
    exact er.tb.all b ps' z'
  have rc : codeAny (model X.prog X.w) X.A (.call (.ref gA) ⟨[.ref f], []⟩) (CR (L2N.CX X.prog X.w) X.stack X.prog X.w H1 s' Q (fun _ _ _ => False)) s' := by
    have hr1 : Room (k - 1 + 1) X.A := hp.room.mono (by omega)
    refine LamX.run_ofS (CX := L2N.CX X.prog X.w) (N := [a, en]) (ps := [a]) (us := [.ref f]) (vs := [.ref f]) lk hcd Sg hr1 I1.env0 (hb s' [.ref f] I1.kIn rfl) (.cons rfl .nil) rfl fun hr' => ?_
    rw [hbg]
    refine ⟨_, pss_one (L2N.ps_try_as (X := cxOf (L2N.CX X.prog X.w) X.prog X.w X.K X.mg X.base [a, en] x sg gA cdv X.A X.stack s' H1 (fun _ _ _ => False)) (i := 1) (n := en) (c := .ref CS) (Wout := W0)
      (tb := fun W' D σ' H' => ∃ Ech : XK, (∀ cls d σ'' H'', σ''.length = 2 → Ech cls d H'' → W' cls d σ'' H'') ∧ σ'[0]? = some (some (.ref f)) ∧ H' c' = some (CodeO c' (X.env.qual ++ "<lambda>")) ∧
        TV X.K X.mg T (WE0 Ech) mE σ H' fun v H2 => ∀ q, H2 q = none → D.rt (.ref q) (upd H2 q (.tup [.str "told", v])))
      (ts := fun ae cls d D σ' H' => tTup (tCons (tKind X.K X.mg g ae cls d) tNil) σ' H' D.rt)
      rfl rfl Sg.nd rfl hln ⟨hge, hdc, .inl hme⟩ takes0 (fun W' pn xe tk _ => ?_) (fun ae oe cls d pn hz hfs => ?_)), ?_⟩
    · refine ⟨fun pins' s2 σ' H' D I2 ⟨Ech, hW, h1, h2, h3⟩ => ?_⟩
      have hact := pe_actN (k := kl) (i := 0) (E := Ech) (tb := TV X.K X.mg T (WE0 Ech) mE) (p1 := p1) (p2 := p2) I1 L hf hfn hfr (hbind _ _ _ _ _) tk hW (hr'.mono (by omega))
        (fun A outer s H hr2 hgu => hbody A outer s H Ech f c' ⟨hr2, hgu.trans hp.gu⟩) rfl (.inl hla) hda hca
      have ht := pss_one (ps_ret (pos := q2) (pe_tup (x1 := x1) (pos := q1) (pa_cons (pe_str (x := "told") (j := j0) (pos := q0)) (pa_cons hact pa_nil))))
      refine ht.run pins' s2 σ' H' D I2 ?_
      refine ⟨h1, h2, ?_⟩
      obtain ⟨e3, F3, er3, h4⟩ := h3
      refine ⟨e3, F3, er3, h4.mono fun d e4 H4 F4 er4 mv4 h5 v hv => ⟨by show 2 ≤ sizeLine; rw [sizeLine_eq]; omega, h5 v hv⟩⟩
    · have hkn := pe_kind (X := cxOf (L2N.CX X.prog X.w) X.prog X.w X.K X.mg X.base [a, en] x sg gA cdv X.A X.stack s' H1 (fun _ _ _ => False)) (a := ae) (pn := pn) (k := kk) (j := k - 1) (p := p5) (p1 := p6) (pos := p7) (n := en) hK ⟨hr'.dp, hr'.un⟩ hz hfs hgk rfl (.inl hln) (by omega) hdk hde hce
      exact pss_one (ps_ret (pe_tup (pa_cons hkn pa_nil)))
    · unfold RunAt mSaid at h
      refine ⟨fun cls d H2 => ∃ (ex : Ex) (F2 : Hp) (r : D), X.mg ex.c = some cls ∧ (ex.fs = [] → d = none) ∧ Same F2 H2 ∧ TbOk H2 F2 ∧ ct ex.c = some true ∧ g ex = some r ∧ ∀ H3 F3, Fr none H2 F2 H3 F3 → ∀ v, Rp X.K X.mg F3 r v → ∀ q, H3 q = none → Q (.ref q) (upd H3 q (.tup [v])), ?_, rfl, hco, e, F, er1, ?_⟩
      · rintro cls d σ2 H2 hl ⟨ex, F2, r, m1, m2, sub, tb, hc, hgr, hq⟩
        refine ⟨true, hct _ _ hc _ m1, fun _ ae hae => ?_, fun z => nomatch z⟩
        refine ⟨ex, F2, r, m1, m2, sub, tb, hgr, List.getElem?_set_self (by omega), fun H3 F3 fr v hv => ?_⟩
        exact ⟨by show 1 ≤ sizeLine; rw [sizeLine_eq]; omega, hq H3 F3 fr v hv⟩
      · unfold RunAt
        cases q : mE e with
        | ok d e1 =>
          simp only [q] at h
          intro H2 F2 er2 mv2 v hv qa hqa
          have al : Al H2 F2 (upd H2 qa (.tup [.str "told", v])) (upd F2 qa (.tup [.str "told", v])) := Al.one hqa
          refine h _ _ (er2.al al) (mv1.trans (mv2.trans (Mv.al er2 al))) _ ?_
          rw [rp_tup]
          exact ⟨qa, _, rfl, upd_same, by rw [rl_cons]; exact ⟨_, _, rfl, by rw [rp_str], by rw [rl_cons]; exact ⟨_, _, rfl, Rp.mono (al.same er2.sub).1 _ _ hv, by rw [rl_nil]⟩⟩⟩
        | exc ex e1 =>
          simp only [q] at h
          intro H2 F2 cl dd er2 mv2 xr
          cases qc : ct ex.c with
          | none => simp only [qc] at h
          | some b =>
            cases b with
            | false => simp only [qc] at h
            | true =>
              cases qg : g ex with
              | none => simp only [qc, qg] at h
              | some r =>
                simp only [qc, qg] at h
                refine ⟨ex, F2, r, xr.1, fun z => ?_, er2.sub, er2.tb, qc, qg, fun H3 F3 fr v hv qa hqa => ?_⟩
                · rcases xr.2 with ⟨_, z2⟩ | ⟨z2, _⟩
                  · exact z2
                  · exact (z2 z).elim
                · obtain ⟨er3, mv3⟩ := er2.fr fr
                  have al : Al H3 F3 (upd H3 qa (.tup [v])) (upd F3 qa (.tup [v])) := Al.one hqa
                  refine h _ _ (er3.al al) (mv1.trans ((mv2.trans mv3).trans (Mv.al er3 al))) _ ?_
                  rw [rp_tup]
                  exact ⟨qa, _, rfl, upd_same, by rw [rl_cons]; exact ⟨_, _, rfl, Rp.mono (al.same er3.sub).1 _ _ hv, by rw [rl_nil]⟩⟩
        | bad => simp only [q] at h
  refine wpAny_call (codeAny_mono rc fun r s2 hq => ?_)
  cases r with
  | error e => obtain ⟨_, _, _, _, _, _, _, _, _, _, _, _, z⟩ := hq; exact z.elim
  | ok fl =>
    cases fl with
    | ret u => exact I1.after hq
    | next => exact False.elim hq
    | brk => exact False.elim hq
    | cont => exact False.elim hq
end
end Sr
namespace Sr
open PySem hiding start
open PySem.Spec L2
open PyProof.Rows hiding St
open LamX (LamS lamEnv lamCx CodeO ExtN Tabs TabS TabB)
theorem code_of {K : PySem.W.Frag} {x q : Str} {params : Arguments} {body : List Stmt} {scope : Scope} {kws : List (Str × V)} {f : Addr} {fd : FuncData} (G : FunD K x q params body scope [] kws f fd) (h : PySem.W.codeHdIn K (cTz K f).1 (cTz K f).2 = true) : fd.code = .ref (cTz K f).1 := by
  obtain ⟨oc, od, dV, kV, doc, pm, an, cdv, ct, osl, rfl, lk, hcd, _, _⟩ := G.ex
  have e : cTz K f = cOf K cdv := by
    unfold cTz
    rw [lk]
  show cdv = _
  cases cdv with
  | ref c => rw [e]; rfl
  | _ =>
    exfalso
    rw [e] at h
    have h' : PySem.W.codeHdIn K 0 0 = true := h
    unfold PySem.W.codeHdIn at h'
    split at h'
    · simp at h'
    · cases h'
def tabsZ (K : PySem.W.Frag) (tf : List DefZ) : List (Addr × Addr) := tf.map fun d => cTz K (d.ad K)
def tlZ (K : PySem.W.Frag) (tf : List DefZ) : List (Addr × Str) := tf.map fun d => ((cTz K (d.ad K)).2, lamQ d)
theorem obsM_eq {as : List Addr} {fa : List He.Fa} {fn : List DefZ} {ex : PySem.W.Frag → Bool} {tf : List DefZ} {g : Addr → Option Obj} {s : Shared} (h : ∀ a, g a = s.heap.get? a) : obsM as fa fn ex tf g = (hookM as fa fn ex tf).obs s := by
  have e : g = s.heap.get? := funext h
  rw [e] <;> rfl
theorem lamOk_of [TabL] {tf : List DefZ} {h : Heap} {K : PySem.W.Frag} {mg : Str → Option Value} {base : Heap} {d : DefZ} (t : TabsZ tf h K) (hl : TabL.l = tlZ K tf) (hT : ∀ p ∈ tabsZ K tf, TabB base mg p.1 p.2) (i : Nat) (hi : tf[i]? = some d := by rfl) : LamOk K mg base (d.ad K) (lamQ d) := by
  have hm : d ∈ tf := List.mem_of_getElem? hi
  refine ⟨hT _ (List.mem_map.mpr ⟨d, hm, rfl⟩), by rw [hl]; exact List.mem_map.mpr ⟨d, hm, rfl⟩, fun p hp e => ?_⟩
  rw [hl] at hp
  obtain ⟨d', hm', rfl⟩ := List.mem_map.mp hp
  exact t.one d' hm' d hm e
def OnlyT (cs : List (Addr × Addr)) (H : Hp) : Prop := (∀ p ∈ cs, H p.2 = some (.tbl #[])) ∧ ∀ b, H b = none ∨ (b ∈ cs.map (·.2) ∧ H b = some (.tbl #[])) ∨ ∃ o xs, H b = some (.frz o (.lst xs))
theorem law_gT {P : Program} {w : World} {K : PySem.W.Frag} {mg mb : Str → Option Value} {k : Nat} {fa a : Addr} {cs : List (Addr × Addr)} {fd : FuncData} {x : Str} {sp : Sp} {s₁ : Shared} {vs : List Value} {ns : List Int}
    (KX : K.In s₁.heap) (hns : s₁.heap.Ns mainGlobals mg) (hb : s₁.heap.Ns builtinsNs mb) (hbb : ∀ x : Str, x ≠ "__name__" → mb x = bootBuiltins x) (hlim : s₁.heap.NoLimit) (hg : s₁.gens = #[])
    (hT : ∀ p ∈ cs, s₁.heap.get? p.2 = some { cls := .none, data := .fields #[] }) (nT : ∀ p ∈ cs, K.lookup p.2 = none) (C : ∀ p ∈ cs, PySem.W.CodeHd s₁.heap p.1 p.2)
    (hbm : ∃ (bm : Addr) (ob : Obj), mg "__builtins__" = some (.ref bm) ∧ bm ≠ builtinsNs ∧ s₁.heap.get? bm = some ob ∧ ob.cls = .type "module" ∧ ob.dict = some builtinsNs ∧ ob.data = .plain)
    (ha : s₁.heap.get? a = some { cls := .type "list", data := .seq vs.toArray }) (hi : IntsAre vs ns) (hl : ns.length ≤ sizeLine) (hr : Room k callerA)
    (F : ∀ base : Heap, (∀ p ∈ cs, TabB base mg p.1 p.2) → FnG P w K mg base k fa fd [x] sp) (hbind : ∀ (s : Shared) (u : Value), BindsTo s fd ⟨[u], []⟩ [(x, u)])
    (hsp : ∀ H : Hp, OnlyT cs H → SqL K H a (ns.map V.int) → sp [.ref a] H (fun v _ => v = .bl true) fun _ _ _ => False) :
    codeAny (model P w) callerA (.call (.ref fa) ⟨[.ref a], []⟩) (fun r s' => r = .ok (.ret (.bool true)) ∧ OldK s₁.heap s'.heap ∧ s'.os = s₁.os ∧ AllBare s'.gens) s₁ := by
  have rv := vals_ints hi
  have lenV := hi.length
  have memT : ∀ p ∈ cs, p.2 ∈ cs.map (·.2) := fun p hp => List.mem_map.mpr ⟨p, hp, rfl⟩
  have isT : ∀ b : Addr, b ∈ cs.map (·.2) → s₁.heap.get? b = some { cls := .none, data := .fields #[] } := fun b hb => by
    obtain ⟨p, hp, rfl⟩ := List.mem_map.mp hb
    exact hT p hp
  have aT : a ∉ cs.map (·.2) := fun z => by
    have q := isT a z
    rw [ha] at q
    exact nomatch (congrArg Obj.data (Option.some.inj q) : Data.seq vs.toArray _ = Data.fields #[])
  have core : ∀ H : Hp, OnlyT cs H → SqL K H a (ns.map V.int) → HOk P w H s₁.heap → (∀ b, H b ≠ none → b = a ∨ b ∈ cs.map (·.2)) → (H a ≠ none → K.lookup a = none) →
      codeAny (model P w) callerA (.call (.ref fa) ⟨[.ref a], []⟩) (fun r s' => r = .ok (.ret (.bool true)) ∧ OldK s₁.heap s'.heap ∧ s'.os = s₁.os ∧ AllBare s'.gens) s₁ := by
    intro H hO hS hok hA hK
    have noD : ∀ {b : Addr} {o : Obj}, s₁.heap.get? b = some o → (∀ vs n, o.data ≠ .seq vs n) → o.data ≠ .fields #[] → H b = none := fun {b o} e h1 h2 => by
      cases q : H b with
      | none => rfl
      | some u =>
        rcases hA b (by rw [q]; simp) with e' | e'
        · rw [e', ha] at e; cases e
          exact (h1 _ _ rfl).elim
        · rw [isT b e'] at e; cases e
          exact (h2 rfl).elim
    have nsK : ∀ {b : Addr} {m : Str → Option Value}, s₁.heap.Ns b m → (hidT s₁.heap H).Ns b m := fun {b m} ⟨o, es, ep, e, d, r⟩ =>
      ⟨o, es, ep, hidT_get e (noD e (fun vs n z => by rw [d] at z; cases z) fun z => by rw [d] at z; cases z), d, r⟩
    have hKb : K.In (hidT s₁.heap H) := fun b o e => hidT_get (KX b o e) (by
      cases q : H b with
      | none => rfl
      | some u =>
        rcases hA b (by rw [q]; simp) with e' | e'
        · rw [e'] at e q
          rw [hK (by rw [q]; simp)] at e; cases e
        · obtain ⟨p, hp, ep⟩ := List.mem_map.mp e'
          rw [← ep, nT p hp] at e; cases e)
    have hM : L2.Mod K mg (hidT s₁.heap H) := ⟨hKb, nsK hns, ⟨mb, nsK hb, hbb⟩, let ⟨mc, h1, h2⟩ := hlim; ⟨mc, nsK h1, h2⟩⟩
    have TB : ∀ p ∈ cs, TabB (hidT s₁.heap H) mg p.1 p.2 := fun p hp => by
      have hTp := hT p hp
      refine ⟨?_, ?_, fun z => ?_⟩
      · obtain ⟨o, us, file, tf, flags, tg, inF, text, tt, e1, r1, r2, r3, r4, r5, r6, r7, r8, hne⟩ := C p hp
        refine ⟨o, us, file, tf, flags, tg, inF, text, tt, hidT_get e1 (noD e1 (fun vs n z => ?_) fun z => ?_), r1, r2, r3, r4, r5, r6, r7, r8, hne⟩
        · rw [r2] at z; cases z
        · rw [r2] at z; cases z
          simp at r3
      · obtain ⟨bm, ob, b1, b2, b3, b4, b5, b6⟩ := hbm
        have nG : bm ≠ mainGlobals := fun q => by
          obtain ⟨o, es, ep, e, hd, _⟩ := hns
          rw [q, e] at b3; cases b3
          rw [hd] at b6; cases b6
        have nP : bm ≠ p.2 := fun q => by
          rw [q, hTp] at b3; cases b3
          cases b6
        exact ⟨bm, ob, b1, b2, nG, nP, hidT_get b3 (noD b3 (fun vs n z => by rw [b6] at z; cases z) fun z => by rw [b6] at z; cases z), b4, b5, b6⟩
      · obtain ⟨o, es, ep, e, hd, _⟩ := hns
        rw [z, hTp] at e; cases e
        cases hd
    have e0 : Env0 P w K mg (hidT s₁.heap H) callerA [] s₁ H := ⟨rfl, hM, fun b o e => of_hidT e, Nat.le_of_eq (hidT_size _ _), trivial, fun b z => (by cases z), hok, .of_eq hg⟩
    refine codeAny_mono ((F _ TB).run callerA [] s₁ H ⟨[.ref a], []⟩ [.ref a] [.ref a] _ _ hr rfl e0 (hbind s₁ (.ref a)) (.cons rfl .nil) (hsp H hO hS)) ?_
    intro r s' h
    match r, h with
    | .error e, h => obtain ⟨_, _, _, _, _, _, _, _, _, _, _, _, z⟩ := h; exact z.elim
    | .ok .next, h => exact h.elim
    | .ok .brk, h => exact h.elim
    | .ok .cont, h => exact h.elim
    | .ok (.ret u), ⟨v, H', os, bare, un, hok', r', q⟩ =>
      have q' : v = .bl true := q
      subst q'
      obtain rfl : u = Value.bool true := r'
      have key : ∀ b o, b ∉ cs.map (·.2) → s₁.heap.get? b = some o → s'.heap.get? b = some o := fun b o nb e => by
        cases q : H b with
        | none => exact un.keep b o e q (fun z => by cases z) (by simp)
        | some u =>
          rcases hO.2 b with z | z | ⟨ob, xs, z⟩
          · rw [q] at z; cases z
          · exact absurd z.1 nb
          · obtain ⟨e1, _⟩ := hok b _ z
            obtain ⟨e2, _⟩ := hok' b _ (un.frzs b ob _ z)
            rw [e] at e1; cases e1
            exact e2
      have grown : ∀ p ∈ cs, ∃ more : Array Value, s'.heap.get? p.2 = some { cls := .none, data := .fields more } := fun p hp => by
        obtain ⟨more, z⟩ := un.tbls p.2 #[] (hO.1 p hp)
        exact ⟨_, hok' p.2 _ z⟩
      refine ⟨rfl, ⟨fun b o e => ?_, fun b o e => ?_⟩, os, bare⟩
      · by_cases hb : b ∈ cs.map (·.2)
        · obtain ⟨p, hp, ep⟩ := List.mem_map.mp hb
          obtain ⟨more, hm⟩ := grown p hp
          rw [← ep] at e ⊢
          rw [hT p hp] at e; cases e
          exact .inr (.inl ⟨((C p hp).tab (hT p hp)).isCodeTable, rfl, #[], more, rfl, by rw [Array.empty_append]; exact hm⟩)
        · exact .inl (key b o hb e)
      · by_cases hb : b ∈ cs.map (·.2)
        · obtain ⟨p, hp, ep⟩ := List.mem_map.mp hb
          obtain ⟨more, hm⟩ := grown p hp
          rw [← ep]
          exact ⟨_, hm⟩
        · exact ⟨o, key b o hb e⟩
  have onT : ∀ {H : Hp} {b : Addr} {p : Addr × Addr}, (∀ c, c ∈ cs.map (·.2) → H c = some (.tbl #[])) → p ∈ cs → H p.2 = some (.tbl #[]) := fun h hp => h _ (memT _ hp)
  cases hk : K.lookup a with
  | some o =>
    have e := KX a o hk
    rw [ha] at e
    cases e
    have hin : ∀ c, c ∈ cs.map (·.2) → (fun b => if b ∈ cs.map (·.2) then some (HO.tbl #[]) else none : Hp) c = some (.tbl #[]) := fun c hc => if_pos hc
    have hout : ∀ c, c ∉ cs.map (·.2) → (fun b => if b ∈ cs.map (·.2) then some (HO.tbl #[]) else none : Hp) c = none := fun c hc => if_neg hc
    refine core (fun b => if b ∈ cs.map (·.2) then some (.tbl #[]) else none) ⟨fun p hp => hin _ (memT p hp), fun b => ?_⟩ (.inr ⟨_, vs.toArray, _, hk, rfl, rfl, rfl, by rw [List.size_toArray, lenV]; exact hl, by simpa using rv⟩) (fun b u z => ?_) (fun b z => ?_) fun z => absurd (hout a aT) z
    · by_cases hb : b ∈ cs.map (·.2)
      · exact .inr (.inl ⟨hb, hin b hb⟩)
      · exact .inl (hout b hb)
    · by_cases hb : b ∈ cs.map (·.2)
      · have z' := (hin b hb).symm.trans z
        cases z'
        exact isT b hb
      · have z' := (hout b hb).symm.trans z
        cases z'
    · by_cases hb : b ∈ cs.map (·.2)
      · exact .inr hb
      · exact absurd (hout b hb) z
  | none =>
    have h1 : (fun b => if b = a then some (HO.frz { cls := .type "list", data := .seq vs.toArray } (.lst (ns.map V.int))) else if b ∈ cs.map (·.2) then some (HO.tbl #[]) else none : Hp) a = some (.frz { cls := .type "list", data := .seq vs.toArray } (.lst (ns.map V.int))) := if_pos rfl
    have h2 : ∀ c, c ∈ cs.map (·.2) → (fun b => if b = a then some (HO.frz { cls := .type "list", data := .seq vs.toArray } (.lst (ns.map V.int))) else if b ∈ cs.map (·.2) then some (HO.tbl #[]) else none : Hp) c = some (.tbl #[]) := fun c hc => (if_neg (fun z => aT (by rw [← z]; exact hc))).trans (if_pos hc)
    have h3 : ∀ c, c ≠ a → c ∉ cs.map (·.2) → (fun b => if b = a then some (HO.frz { cls := .type "list", data := .seq vs.toArray } (.lst (ns.map V.int))) else if b ∈ cs.map (·.2) then some (HO.tbl #[]) else none : Hp) c = none := fun c hc hc2 => (if_neg hc).trans (if_neg hc2)
    refine core (fun b => if b = a then some (.frz { cls := .type "list", data := .seq vs.toArray } (.lst (ns.map V.int))) else if b ∈ cs.map (·.2) then some (.tbl #[]) else none) ⟨fun p hp => h2 _ (memT p hp), fun b => ?_⟩ (.inl (.inr ⟨_, h1⟩)) (fun b u z => ?_) (fun b z => ?_) fun _ => hk
    · by_cases hb : b = a
      · subst hb; exact .inr (.inr ⟨_, _, h1⟩)
      · by_cases hb2 : b ∈ cs.map (·.2)
        · exact .inr (.inl ⟨hb2, h2 b hb2⟩)
        · exact .inl (h3 b hb hb2)
    · by_cases hb : b = a
      · subst hb
        have z' := h1.symm.trans z
        cases z'
        exact ⟨ha, by rw [List.length_map]; exact hl, vs, _, rv, ha⟩
      · by_cases hb2 : b ∈ cs.map (·.2)
        · have z' := (h2 b hb2).symm.trans z
          cases z'
          exact isT b hb2
        · have z' := (h3 b hb hb2).symm.trans z
          cases z'
    · by_cases hb : b = a
      · exact .inl hb
      · by_cases hb2 : b ∈ cs.map (·.2)
        · exact .inr hb2
        · exact absurd (h3 b hb hb2) z
theorem walk_gT {l : PySem.W.OpenLaw} {n k : Nat} {q : Program} {loose : List Str} {XP : (Str → Option Value) → Heap → Prop} {YP : World → Heap → Prop} {d : DefRec} {x : Str}
    (hn : l.most = some n) (hn2 : n ≤ sizeLine) (hdf : d.params.defaults = []) (hr : Room k callerA)
    (F : ∀ (w : World) (mg : Str → Option Value) (fa : Addr) (h : Heap), YP w h → h.Ns mainGlobals mg → mg d.name = some (.ref fa) →
      ∃ (K : PySem.W.Frag) (tf : List DefZ) (fd : FuncData) (sp : Sp), K.In h ∧ TabsZ tf h K ∧ (∀ (s : Shared) (u : Value), BindsTo s fd ⟨[u], []⟩ [(x, u)]) ∧
        (∀ (H : Hp) (a : Addr) (ns : List Int), ns.length ≤ n → OnlyT (tabsZ K tf) H → SqL K H a (ns.map V.int) → sp [.ref a] H (fun v _ => v = .bl true) fun _ _ _ => False) ∧
        ∀ base : Heap, (∀ p ∈ tabsZ K tf, TabB base mg p.1 p.2) → FnG l.prog w K mg base k fa fd [x] sp) :
    PySem.W.WalkO q loose XP YP l.row.toRowW d [] (fun f vs => PySem.call f vs) := by
  refine Att.attach_callB hn hdf fun w s₀ s₁ mg mb fa o pm cd doc a vs ns G Y ho hd hcd hmg hobj hints hlen hbits hg => ?_
  obtain ⟨K, tf, fd, sp, KX, t, hb, hsp, hF⟩ := F w mg fa _ Y G.T.g hmg
  have mem : ∀ {p : Addr × Addr}, p ∈ tabsZ K tf → ∃ d ∈ tf, cTz K (d.ad K) = p := fun hp => List.mem_map.mp hp
  refine law_gT KX G.T.g G.T.b G.T.builtins G.T.nolimit hg (fun p hp => ?_) (fun p hp => ?_) (fun p hp => ?_) G.T.bmain hobj hints (Nat.le_trans hlen hn2) hr hF hb (fun H hO hS => hsp H a ns hlen hO hS)
  · obtain ⟨d, hd, rfl⟩ := mem hp; exact t.empty d hd
  · obtain ⟨d, hd, rfl⟩ := mem hp; exact t.out d hd
  · obtain ⟨d, hd, rfl⟩ := mem hp; exact PySem.W.codeHd_of_K KX (t.hd d hd)
theorem law_trueT [TabL] {K : PySem.W.Frag} {mg : Str → Option Value} {f : Fnc} {ns : List Int} {H : Hp} {a : Addr} {tf : List DefZ} (h : f .non [.scr ns] = .ok (.bl true) .non) (hl : TabL.l = tlZ K tf) (hO : OnlyT (tabsZ K tf) H) (hS : SqL K H a (ns.map V.int)) : spF0 K mg false 1 f [.ref a] H (fun v _ => v = .bl true) fun _ _ _ => False := by
  let F : Hp := fun b => match H b with
    | some (.tbl _) => none
    | o => o
  have F_ : ∀ b o, F b = some o → H b = some o ∧ NTb o := fun b o e => by
    have e : (match H b with | some (.tbl _) => none | o => o) = some o := e
    split at e
    · cases e
    · rename_i hn
      exact ⟨e, fun ps z => by subst z; exact hn ps e⟩
  have F1 : ∀ b ob xs, H b = some (.frz ob xs) → F b = some (.frz ob xs) := fun b ob xs e => by
    show (match H b with | some (.tbl _) => none | o => o) = _
    rw [e]
  have tb : TbOk H F := by
    refine ⟨fun p hp => ?_, fun b o e => (F_ b o e).2, fun b ps e => ?_⟩
    · rw [hl] at hp
      obtain ⟨d, hd, rfl⟩ := List.mem_map.mp hp
      exact TabS.nil (hO.1 _ (List.mem_map.mpr ⟨d, hd, rfl⟩))
    · rcases hO.2 b with z | ⟨z, _⟩ | ⟨ob, xs, z⟩
      · rw [e] at z; cases z
      · obtain ⟨p, hp, rfl⟩ := List.mem_map.mp z
        obtain ⟨d, hd, rfl⟩ := List.mem_map.mp hp
        exact ⟨_, by rw [hl]; exact List.mem_map.mpr ⟨d, hd, rfl⟩, rfl⟩
      · rw [e] at z; cases z
  have hS' : SqL K F a (ns.map V.int) := by
    rcases hS with (z | ⟨o, z⟩) | z
    · rcases hO.2 a with y | ⟨_, y⟩ | ⟨ob, xs, y⟩ <;> rw [z] at y <;> cases y
    · exact .inl (.inr ⟨o, F1 _ _ _ z⟩)
    · exact .inr z
  refine ⟨[.scr ns], F, fun b o e => (F_ b o e).1, tb, ?_, rfl, ?_⟩
  · rw [rl_cons]
    exact ⟨_, [], rfl, by rw [rp_scr]; exact ⟨a, rfl, hS'⟩, by rw [rl_nil]⟩
  · rw [h]
    intro H' F' _ v hv
    rw [rp_bl] at hv
    exact hv
end Sr
namespace Sr
variable [TabL]
open PySem hiding start
open PySem.Spec L2
open PyProof.Rows hiding St
theorem RpK.get {K : PySem.W.Frag} {mg : Str → Option Value} {F : Hp} : ∀ {ds : List (Key × D)} {xs : List (Key × V)} {i : Nat} {k : Key} {v : V}, RpK K mg F ds xs → xs[i]? = some (k, v) → ∃ d, ds[i]? = some (k, d) ∧ Rp K mg F d v
  | [], xs, i, k, v, h, hx => by unfold RpK at h; subst h; simp at hx
  | (q, d) :: ds, xs, i, k, v, h, hx => by
    unfold RpK at h
    obtain ⟨v', r, rfl, hv, h⟩ := h
    cases i with
    | zero =>
      rw [List.getElem?_cons_zero] at hx
      cases hx
      exact ⟨d, rfl, hv⟩
    | succ i =>
      rw [List.getElem?_cons_succ] at hx
      exact RpK.get (ds := ds) (xs := r) (i := i) h hx
end Sr
namespace Sr
open PySem hiding start
open PySem.Spec L2
open PyProof.Rows hiding St
abbrev nB (b : Array UInt8) : List Int := PySem.W.KBw.bInts b
def bt (ns : List Int) : D := .byt (byteArr ns)
def b8 (n : Int) : Bool := decide (0 ≤ n) && decide (n < 256)
theorem b8_all {ns : List Int} (h : ns.all b8 = true) : B8 ns := fun n hn => by
  have := List.all_eq_true.mp h n hn
  unfold b8 at this
  rw [Bool.and_eq_true, decide_eq_true_eq, decide_eq_true_eq] at this
  exact this
theorem nB_bt {ns : List Int} (h : B8 ns) : nB (byteArr ns) = ns := bInts_of h
variable [TabL]
section
variable {X : Cx}
def gBytes : D → Option D
  | .lst ds => match dInts ds with
    | some ns => if ns.all b8 = true then some (bt ns) else none
    | none => none
  | _ => none
theorem c_bytes (hc : X.calm = true) : Cal1 X (.type "bytes") gBytes := by
  intro H F x d d' s r e
  cases d <;> simp only [gBytes, reduceCtorEq] at e
  split at e
  · rename_i ds ns hn
    split at e
    · rename_i hb
      cases e
      obtain ⟨a, xs, rfl, h, l⟩ := r
      rw [dInts_eq hn] at l
      have l := l.ints
      subst l
      exact ⟨_, call_bytes_list hc, fun Q q => ⟨a, ns, rfl, SqL.of h, b8_all hb, q H F _ Al.refl (by unfold bt; rw [rp_byt])⟩⟩
    · cases e
  · cases e
def gAddY : D → D → Option D
  | .byt a, .byt b => if a.size + b.size ≤ 16777216 then some (bt (nB a ++ nB b)) else none
  | _, _ => none
theorem bt_app {a b : Array UInt8} : a ++ b = byteArr (nB a ++ nB b) := by
  rw [← byteArr_app, ← byteArr_of (b := a) rfl, ← byteArr_of (b := b) rfl]
theorem o_addY : Op2 X (binaryOp .Add) gAddY := by
  intro H F x y d1 d2 d s r1 r2 e
  unfold gAddY at e
  split at e
  · split at e
    · rename_i hz
      cases e
      rw [rq_byt] at r1 r2
      exact ⟨_, op_add_byt, fun Q q => ⟨_, _, r1, r2, hz, q H F _ Al.refl (by unfold bt; rw [rp_byt, bt_app])⟩⟩
    · cases e
  · cases e
theorem op_mul_byt : OpR X (binaryOp .Mult) (fun x y H Q => ∃ (b : List UInt8) (n : Int), x = .byt b.toArray ∧ y = .int n ∧ b ≠ [] ∧ -1048576 ≤ n ∧ n ≤ 1048576 ∧ b.length ≤ 16 ∧ Q (.byt ((List.replicate n.toNat b).flatten).toArray) H) := by
  intro pins s σ H x y v u Q I rx ry h
  obtain ⟨b, n, rfl, rfl, h1, h2, h3, h4, q⟩ := h
  obtain ⟨t, rfl⟩ := rx
  obtain ⟨t', rfl⟩ := ry
  exact PySem.W.bytes_mul_any h1 h2 h3 h4 fun t2 k => ⟨.byt _, H, I.tok _, ⟨_, rfl⟩, q⟩
theorem rep_bt (b : List UInt8) : ∀ n : Nat, ((List.replicate n b).flatten).toArray = byteArr ((List.replicate n (nB b.toArray)).flatten)
  | 0 => rfl
  | n + 1 => by
    rw [List.replicate_succ, List.replicate_succ, List.flatten_cons, List.flatten_cons, ← byteArr_app, ← rep_bt b n, ← byteArr_of (b := b.toArray) rfl, List.append_toArray]
def gMulY : D → D → Option D
  | .byt a, .int n => if (decide (nB a ≠ []) && decide (-1048576 ≤ n) && decide (n ≤ 1048576) && decide (a.size ≤ 16)) = true then some (bt ((List.replicate n.toNat (nB a)).flatten)) else none
  | _, _ => none
theorem o_mulY : Op2 X (binaryOp .Mult) gMulY := by
  intro H F x y d1 d2 d s r1 r2 e
  unfold gMulY at e
  split at e
  · rename_i a n
    split at e
    · rename_i hz
      cases e
      simp only [Bool.and_eq_true, decide_eq_true_eq] at hz
      obtain ⟨⟨⟨h1, h2⟩, h3⟩, h4⟩ := hz
      rw [rq_byt] at r1
      rw [rq_int] at r2
      refine ⟨_, op_mul_byt, fun Q q => ⟨a.toList, n, by rw [Array.toArray_toList]; exact r1, r2, fun z => h1 ?_, h2, h3, by rw [Array.length_toList]; exact h4, ?_⟩⟩
      · unfold nB PySem.W.KBw.bInts; rw [z]; rfl
      · rw [rep_bt, Array.toArray_toList]
        exact q H F _ Al.refl (by unfold bt; rw [rp_byt])
    · cases e
  · cases e
end
section
variable {X : Cx} {T : Pn} {W : WX} {pos p2 : Pos} {a b : Expr} {ma mb : M D} {lo hi : Option Expr} {ml mh : M (Option Int)}
def gIxY : D → D → Option D
  | .byt b, .int i => if (decide (b.size ≤ sizeLine) && decide (0 ≤ i) && decide (i < b.size)) = true then some (.int ((nB b).getD i.toNat 0)) else none
  | _, _ => none
theorem jv_ixY (ha : JV X T W a ma) (hb : JV X T W b mb) (hs : PlainIxT b := by intro _ _; rfl) : JV X T W (.Subscript a b pos) (m2 gIxY ma mb) := by
  refine PEimp (pe_item_byt ha hb hs) fun σ H Q ⟨e, F, er, h⟩ => ⟨e, F, er, h.bind.mono fun d1 e1 H1 F1 er1 mv1 h1 v hv => ⟨e1, F1, er1, h1.bind.mono fun d2 e2 H2 F2 er2 mv2 h2 w hw => ?_⟩⟩
  obtain ⟨d, hd, fin⟩ := h2.fin er2
  unfold gIxY at hd
  split at hd
  · rename_i b i
    split at hd
    · rename_i hz
      cases hd
      simp only [Bool.and_eq_true, decide_eq_true_eq] at hz
      obtain ⟨⟨h1, h2⟩, h3⟩ := hz
      rw [rp_byt] at hv
      rw [rp_int] at hw
      refine ⟨b.toList, i, by rw [Array.toArray_toList]; exact hv, hw, by rw [Array.length_toList]; exact h1, h2, by rw [Array.length_toList]; exact h3, fin H2 F2 Al.refl _ ?_⟩
      rw [rp_int]
      unfold nB PySem.W.KBw.bInts
      rw [List.getD_eq_getElem?_getD, List.getD_eq_getElem?_getD, List.getElem?_map]
      have hlt : i.toNat < b.toList.length := by rw [Array.length_toList]; omega
      rw [List.getElem?_eq_getElem hlt]
      rfl
    · cases hd
  · cases hd
def cutI (ks : List Int) (lo hi : Option Int) : List Int := (ks.drop (lo.elim 0 (clipAt ks.length))).take (hi.elim ks.length (clipAt ks.length) - lo.elim 0 (clipAt ks.length))
def gSlY : D → Option Int → Option Int → Option D
  | .byt b, lo, hi => if b.size ≤ 16777216 then some (bt (cutI (nB b) lo hi)) else none
  | _, _, _ => none
def mSlY (m : M D) (ml mh : M (Option Int)) : M D := bnd m fun d => bnd ml fun l => bnd mh fun h => opt (gSlY d l h)
theorem jv_sliceY (ha : JV X T W a ma) (hl : JP X T W lo ml) (hh : JP X T W hi mh) : JV X T W (.Subscript a (.Slice lo hi none p2) pos) (mSlY ma ml mh) := by
  refine PEimp (pe_slice sl_byt ha hl hh) fun σ H Q ⟨e, F, er, h⟩ => ⟨e, F, er, h.bind.mono fun d e1 H1 F1 er1 mv1 h1 v hv => ⟨e1, F1, er1, h1.bind.mono fun l e2 H2 F2 er2 mv2 h2 => ⟨e2, F2, er2, h2.bind.mono fun u e3 H3 F3 er3 mv3 h3 => ?_⟩⟩⟩
  obtain ⟨z, hz, fin⟩ := h3.fin er3
  have hv := Rp.mono (mv2.sub.trans mv3.sub) _ _ hv
  cases d with
  | byt b =>
    simp only [gSlY] at hz
    split at hz
    · rename_i hb
      cases hz
      rw [rp_byt] at hv
      refine ⟨b, hv, hb, fin H3 F3 Al.refl _ ?_⟩
      unfold bt
      rw [rp_byt, byteArr_of (PySem.W.KBc.ints_picked (b := b) rfl l u)]
      rfl
    · cases hz
  | _ => cases hz
theorem back_byt {X : Cx} : BackR X fun x H Q => ∃ b, x = .byt b ∧ b.size ≤ 16777216 ∧ Q (.byt (byteArr (nB b).reverse)) H := by
  intro pins s σ H x v n sl Q I rx hs h
  obtain ⟨b, rfl, hz, q⟩ := h
  obtain ⟨t, rfl⟩ := rx
  refine ⟨"bytes", _, PySem.W.FB.slot_bytes_getitem.lookup, PySem.W.typeIs_bytes _ _ _, ?_⟩
  have hp : PySem.W.KBs.picked b none none (some (-1)) = byteArr (nB b).reverse := byteArr_of (by rw [PySem.W.KBs.ints_picked (b := b) rfl, PySem.W.KBs.cut_reverse])
  refine (getItem_meets (PySem.W.typeIs_bytes _ _ _) (by decide) PySem.W.FB.slot_bytes_getitem PySem.W.FB.entry_bytes_getitem (PySem.W.FB.args_bytes_getitem_2 _ _) (PySem.W.KBs.meets_step b t sl .none .none (k := -1) (uk := n) (by decide)) ?_)
  refine ⟨⟨_, hs, rfl, rfl⟩, ?_, fun t' k => ?_⟩
  · rw [hp, byteArr_size, List.length_reverse, PySem.W.KBw.ints_length, sizeLine_eq]; exact hz
  · rw [hp]; exact ⟨.byt _, H, I.tok _, ⟨_, rfl⟩, q⟩
def gBackY : D → Option D
  | .byt b => if b.size ≤ 16777216 then some (bt (nB b).reverse) else none
  | _ => none
theorem jv_backY {k : Nat} {p1 p2 p3 : Pos} (ha : JV X T W a ma) : JV X T W (.Subscript a (.Slice none none (some (.UnaryOp .USub (.Constant (.int 1) k p1) p2)) p3) pos) (m1 gBackY ma) := by
  refine PEimp (pe_back back_byt ha) fun σ H Q ⟨e, F, er, h⟩ => ⟨e, F, er, h.bind.mono fun d e1 H1 F1 er1 mv1 h1 v hv => ?_⟩
  obtain ⟨z, hz, fin⟩ := h1.fin er1
  cases d with
  | byt b =>
    simp only [gBackY] at hz
    split at hz
    · rename_i hb
      cases hz
      rw [rp_byt] at hv
      exact ⟨b, hv, hb, fin H1 F1 Al.refl _ (by unfold bt; rw [rp_byt])⟩
    · cases hz
  | _ => cases hz
def gItY : D → Option (List D)
  | .byt b => some ((nB b).map D.int)
  | _ => none
def mItY (m : M D) : M (List D) := bnd m fun d => opt (gItY d)
theorem walk_byt {b : Array UInt8} : Walk (Itb b) b.size (fun _ => True) (fun i H v H' => H' = H ∧ ∃ c, b[i]? = some c ∧ v = .int ((c.toNat : Nat) : Int)) :=
  ⟨fun _ _ hi _ => hi, fun _ _ => Nat.le_refl _, fun _ _ _ _ _ _ y => y⟩
theorem walks_byt {K : PySem.W.Frag} {mg : Str → Option Value} {F : Hp} {b : Array UInt8} : Walks K mg (Itb b) ((nB b).map D.int) F := by
  refine ⟨_, _, by rw [List.length_map, PySem.W.KBw.ints_length]; exact walk_byt, fun H s => trivial, fun i H1 F1 x H2 hi s1 s2 y => ?_⟩
  obtain ⟨rfl, c, hc, rfl⟩ := y
  refine ⟨F1, .int (c.toNat : Nat), Al.refl, ?_, by rw [rp_int]⟩
  unfold nB PySem.W.KBw.bInts
  rw [List.map_map, List.getElem?_map, Array.getElem?_toList, hc]; rfl
theorem ji_byt {tg : Expr} (ha : JV X T W a ma) : JI X T W tg a (mItY ma) := by
  refine PIimp (pi_byt ha) fun σ H R ⟨e, F, er, h⟩ => ⟨e, F, er, h.bind.mono fun d e1 H1 F1 er1 mv1 h1 v hv => ?_⟩
  obtain ⟨z, hz, fin⟩ := h1.fin er1
  cases d with
  | byt b =>
    cases hz
    rw [rp_byt] at hv
    exact ⟨b, hv, fin H1 F1 Al.refl _ walks_byt⟩
  | _ => cases hz
def gRng3 : List D → Option (List D)
  | [.int i, .int j, .int c] => if (decide (0 < c) && decide (c < 1000000) && Builtin.Range.small i j c) = true then some ((List.range (Builtin.Range.rangeSize i j c).toNat).map fun (k : Nat) => D.int (i + k * c)) else none
  | _ => none
def mRng3 (ms : M (List D)) : M (List D) := bnd ms fun ds => opt (gRng3 ds)
theorem walk_rngC {lo c : Int} {n : Nat} : Walk (Itc lo c n) n (fun _ => True) (fun i H x H' => H' = H ∧ x = .int (lo + (i : Nat) * c)) :=
  ⟨fun _ _ hi _ => hi, fun _ _ => Nat.le_refl _, fun _ _ _ _ _ _ y => y⟩
theorem walks_rngC {K : PySem.W.Frag} {mg : Str → Option Value} {F : Hp} {lo c : Int} {n : Nat} : Walks K mg (Itc lo c n) ((List.range n).map fun (k : Nat) => D.int (lo + k * c)) F := by
  refine ⟨_, _, by rw [List.length_map, List.length_range]; exact walk_rngC, fun H s => trivial, fun i H1 F1 x H2 hi s1 s2 y => ?_⟩
  obtain ⟨rfl, rfl⟩ := y
  refine ⟨F1, .int (lo + i * c), Al.refl, ?_, by rw [rp_int]⟩
  rw [List.length_map, List.length_range] at hi
  rw [List.getElem?_map, List.getElem?_range hi]; rfl
theorem rangeSize_pos {i j c : Int} (h : 0 < c) : 0 ≤ Builtin.Range.rangeSize i j c := by
  unfold Builtin.Range.rangeSize
  rw [if_pos h]
  split
  · have := Int.ediv_nonneg (a := j - i - 1) (b := c) (by omega) (by omega)
    omega
  · omega
theorem rl_three {K : PySem.W.Frag} {mg : Str → Option Value} {F : Hp} {d d' d2 : D} {xs : List V} (h : RpL K mg F [d, d', d2] xs) : ∃ v w z, xs = [v, w, z] ∧ Rp K mg F d v ∧ Rp K mg F d' w ∧ Rp K mg F d2 z := by
  rw [rl_cons] at h
  obtain ⟨v, vs, rfl, r, h⟩ := h
  obtain ⟨w, z, rfl, r', r2⟩ := rl_two h
  exact ⟨v, w, z, rfl, r, r', r2⟩
theorem ji_range3 {tg : Expr} {p : Pos} {c : Expr} {ms : M (List D)} (hg : Gl X "range") (hm : X.mg "range" = none) (ha : JA X T W [a, b, c] ms)
    (hs : starEach [a, b, c] X.env = (false, eval a X.env) :: starEach [b, c] X.env := by rfl) (hpl : (backTo pos (starEach [b, c] X.env)).any (·.1) = false := by rfl) : JI X T W tg (.Call (.Name "range" p) [a, b, c] [] pos) (mRng3 ms) := by
  refine PIimp (pi_range3 hg hm ha hs hpl) fun σ H R ⟨e, F, er, h⟩ => ⟨e, F, er, h.bind.mono fun ds e1 H1 F1 er1 mv1 h1 vs hvs => ?_⟩
  obtain ⟨z, hz, fin⟩ := h1.fin er1
  unfold gRng3 at hz
  split at hz
  · rename_i i j k
    split at hz
    · rename_i ho
      cases hz
      obtain ⟨v, w, u, rfl, r, r', r2⟩ := rl_three hvs
      rw [rp_int] at r r' r2; subst r r' r2
      simp only [Bool.and_eq_true, decide_eq_true_eq] at ho
      obtain ⟨⟨h1, h2⟩, h3⟩ := ho
      refine ⟨i, j, k, _, rfl, ⟨by omega, by omega, h3, ?_⟩, fin H1 F1 Al.refl _ walks_rngC⟩
      rw [Int.toNat_of_nonneg (rangeSize_pos h1)]
    · cases hz
  · cases hz
def sAugS (i : Nat) (m : M D) : M Fl := fun e => match e[i]? with
  | some (.val (.str x)) => bnd m (fun y => match y with
    | .str k => fun e1 => if x.length + k.length ≤ sizeLine then .ok .nx (e1.set i (.val (.str (x ++ k)))) else .bad
    | _ => fun _ => .bad) e
  | _ => .bad
theorem js_augS {i : Nat} {x : Str} {pos' : Pos} (hT : NoP T i) (hN : X.N.Nodup) (hi : X.N[i]? = some x) (hx : Loc X.env.scope x) (ha : JV X T W a ma) (hf : X.fn x = true ∨ X.env.scope.names.lookup x = some .local := by first | exact .inl rfl | exact .inr rfl | assumption) :
    JS X T W (.AugAssign (.Name x pos') .Add a pos) (sAugS i ma) := by
  refine PSimp (ps_aug hN hi hx ha (ti := fun x y H Q => ∃ i j, x = .str i ∧ y = .str j ∧ i.length + j.length ≤ sizeLine ∧ Q (.str (i ++ j)) H) iop_add_str hf) fun D σ H ⟨e, F, er, h⟩ => ?_
  have h0 := h
  unfold RunS sAugS at h0
  cases q : e[i]? with
  | none => simp only [q] at h0
  | some sl =>
    cases sl with
    | no => simp only [q] at h0
    | own d => simp only [q] at h0
    | val d =>
      cases d with
      | str k =>
        obtain ⟨v, h1, h2⟩ := er.val i _ q
        rw [rp_str] at h2
        subst h2
        refine ⟨_, h1, e, F, er, ?_⟩
        have hb : RunS X.K X.mg T W e F (bnd ma (fun y => match y with
          | .str k' => fun e1 => if k.length + k'.length ≤ sizeLine then .ok .nx (e1.set i (.val (.str (k ++ k')))) else .bad
          | _ => fun _ => .bad)) σ H D := by
          unfold RunS at h ⊢
          have e1 : sAugS i ma e = bnd ma (fun y => match y with
            | .str k' => fun e1 => if k.length + k'.length ≤ sizeLine then .ok .nx (e1.set i (.val (.str (k ++ k')))) else .bad
            | _ => fun _ => .bad) e := by unfold sAugS; simp only [q]
          rw [← e1]
          exact h
        refine hb.bind.mono fun d e1 H1 F1 er1 mv1 g1 w hw => ?_
        cases d with
        | str k' =>
          rw [rp_str] at hw
          subst hw
          by_cases hz : k.length + k'.length ≤ sizeLine
          · refine ⟨k, k', rfl, rfl, hz, ?_⟩
            unfold RunS at g1
            simp only [if_pos hz] at g1
            obtain ⟨er2, mv2⟩ := er1.setV hT (d := .str (k ++ k')) (v := .str (k ++ k')) (by rw [rp_str])
            exact g1 _ H1 F1 er2 mv2
          · unfold RunS at g1
            simp only [if_neg hz] at g1
        | _ => exact g1.elim
      | _ => simp only [q] at h0
end
end Sr
namespace Tb
abbrev RS := List Nat × Nat
def rStep (t : Tab) : RS → Option RS := fun q => if q.2 < q.1.length then some (addN (addN q.1 (row t (q.1.getD q.2 0)).2.1) (row t (q.1.getD q.2 0)).2.2, q.2 + 1) else none
def reach (t : Tab) (s : Nat) : List Nat := (iter (rStep t) t.length ([s], 0)).1
def pick (f : List Nat) : List Nat → List Nat × List Nat → List Nat × List Nat
  | [], q => q
  | x :: xs, q => pick f xs (if f.getD x 0 ∈ q.1 then q else (q.1 ++ [f.getD x 0], q.2 ++ [x]))
def ix (t : Tab) (s x : Nat) : Nat := (pick (cls t) (reach t s) ([], [])).1.idxOf ((cls t).getD x 0)
def small (t : Tab) (s : Nat) : Tab := (pick (cls t) (reach t s) ([], [])).2.map fun x => ((row t x).1, ix t s (row t x).2.1, ix t s (row t x).2.2)
structure PI (f : List Nat) (xs : List Nat) (q : List Nat × List Nat) : Prop where
  eq : q.1 = q.2.map fun x => f.getD x 0
  nd : q.1.Nodup
  all : ∀ x ∈ xs, f.getD x 0 ∈ q.1
  sub : ∀ x ∈ q.2, x ∈ xs
end Tb
namespace Tb
open Classical in
abbrev Lg := List Bool → Bool
def der (b : Bool) (l : Lg) : Lg := fun w => l (b :: w)
end Tb
namespace Tb
def stk (rise fall : Nat) : Tab := (List.range fall).map (fun i => (true, 0, i + 1)) ++ (List.range rise).map (fun j => (false, (if j + 1 < rise then fall + j + 1 else 0), fall))
section
variable {rise fall : Nat}
abbrev SS := Bool × Nat
def sStep (rise fall : Nat) (q : SS) (b : Bool) : SS :=
  let c := if b = !q.1 then q.2 + 1 else 0
  if c = (if q.1 then fall else rise) then (!q.1, 0) else (q.1, c)
end
end Tb
namespace Tb
abbrev PW := List Bool × Nat × Nat
abbrev KL := List (Nat × Nat) × List PW
end Tb
namespace Tb
def sl (r f : Nat) (u : Bool) (w : List Bool) : Bool := (w.foldl (sStep r f) (u, 0)).1
end Tb
namespace Tb
def q0 : KL := ([(0, 0)], [([], 0, 0)])
end Tb
namespace Tb
def hSt (m : Nat) (q : Bool × Nat) (v : Bool) : Bool × Nat := if 0 < q.2 then (q.1, q.2 - 1) else if v = q.1 then (q.1, 0) else (v, m)
section
variable {t : Tab} {m : Nat}
def hR (m : Nat) : Bool × Nat → Lg → List Bool → Bool × Nat
  | q, _, [] => q
  | q, f, b :: w => hR m (hSt m q (f [b])) (der b f) w
def hL (m : Nat) (f : Lg) : Lg := fun w => (hR m (f [], 0) f w).1
end
end Tb
namespace Hi
theorem zip_app (f : Bool → Bool → Bool) (s1 s2 c1 c2 : List Bool) (h : s1.length = c1.length) : List.zipWith f (s1 ++ s2) (c1 ++ c2) = List.zipWith f s1 c1 ++ List.zipWith f s2 c2 := List.zipWith_append h
end Hi
namespace Hi
theorem fp_app {s1 s2 c1 c2 : List Bool} (h : s1.length = c1.length) : fpL (s1 ++ s2) (c1 ++ c2) = fpL s1 c1 ++ fpL s2 c2 := zip_app _ _ _ _ _ h
theorem ff_app {s1 s2 c1 c2 : List Bool} (h : s1.length = c1.length) : ffL (s1 ++ s2) (c1 ++ c2) = ffL s1 c1 ++ ffL s2 c2 := zip_app _ _ _ _ _ h
end Hi
namespace Hi
theorem starts_snoc (s : List Bool) (x : Bool) : starts (s ++ [x]) = starts s ++ if s ≠ [] ∧ s.getLastD false ≠ x then [s.length] else [] := by
  unfold starts
  rw [List.length_append, List.length_singleton, Nat.add_sub_cancel]
  by_cases h0 : s = []
  · subst h0; rfl
  · have hpos : 0 < s.length := List.length_pos_iff.mpr h0
    have e1 : List.range' 1 s.length = List.range' 1 (s.length - 1) ++ [s.length] := by
      have : s.length = (s.length - 1) + 1 := by omega
      rw [this, List.range'_concat]
      simp
      omega
    rw [e1, List.filter_append]
    congr 1
    · refine List.filter_congr fun i hi => ?_
      rw [List.mem_range'_1] at hi
      simp only [List.getD_eq_getElem?_getD]
      rw [List.getElem?_append_left (by omega), List.getElem?_append_left (by omega)]
    · have e2 : (s ++ [x]).getD s.length false = x := by simp [List.getD_eq_getElem?_getD]
      have e3 : (s ++ [x]).getD (s.length - 1) false = s.getLastD false := by
        simp only [List.getD_eq_getElem?_getD]
        rw [List.getElem?_append_left (by omega)]
        rw [List.getLastD_eq_getLast?, List.getLast?_eq_getElem?]
      rw [List.filter_cons, e2, e3]
      generalize s.getLastD false = y
      by_cases h : y = x
      · rw [if_neg (by simp [h]), if_neg (by simp [h])]; rfl
      · have hb : (x != y) = true := by simp; exact fun e => h e.symm
        rw [if_pos hb, if_pos ⟨h0, h⟩]; rfl
theorem gaps_snoc {k : Nat} {l : List Nat} {m : Nat} (h : gaps k l = true) (hm : l = [] ∨ l.getLastD 0 + k ≤ m) : gaps k (l ++ [m]) = true := by
  unfold gaps at h ⊢
  rw [List.all_eq_true] at h ⊢
  intro j hj
  rw [List.length_append, List.length_singleton, List.mem_range'_1] at hj
  simp only [List.getD_eq_getElem?_getD]
  by_cases hl : j < l.length
  · have := h j (by rw [List.mem_range'_1]; omega)
    simp only [List.getD_eq_getElem?_getD] at this
    rw [List.getElem?_append_left (by omega), List.getElem?_append_left (by omega)]
    exact this
  · have e : j = l.length := by omega
    have hne : l ≠ [] := by intro z; rw [z] at hj; simp at hj; omega
    rcases hm with hm | hm
    · exact absurd hm hne
    · have e1 : (l ++ [m])[j]? = some m := by rw [e]; simp
      have e2 : (l ++ [m])[j - 1]? = l[l.length - 1]? := by rw [List.getElem?_append_left (by omega), e]
      have e3 : (l[l.length - 1]?).getD 0 = l.getLastD 0 := by rw [List.getLastD_eq_getLast?, List.getLast?_eq_getElem?]
      rw [e1, e2, e3]
      generalize l.getLastD 0 = y at hm
      simp
      omega
theorem cnt_drop {l : List Bool} {i j : Nat} (h : j ≤ i) : (l.drop i).countP id ≤ (l.drop j).countP id := by
  have : l.drop i = (l.drop j).drop (i - j) := by rw [List.drop_drop]; congr 1; omega
  rw [this]
  exact (List.drop_sublist _ _).countP_le
theorem wnd_snoc {l : List Bool} {p : Bool} {i n a : Nat} (hn : 1 ≤ n) (hi : i ≤ l.length) (h : ∀ i, i < l.length → (wnd l i n).countP id ≤ a) (hl : ((l ++ [p]).drop (l.length + 1 - n)).countP id ≤ a) : (wnd (l ++ [p]) i n).countP id ≤ a := by
  by_cases c : i + n ≤ l.length
  · have : wnd (l ++ [p]) i n = wnd l i n := by
      unfold wnd
      rw [List.drop_append_of_le_length (by omega), List.take_append_of_le_length (by rw [List.length_drop]; omega)]
    rw [this]
    exact h i (by omega)
  · have h1 : (wnd (l ++ [p]) i n).countP id ≤ ((l ++ [p]).drop i).countP id := (List.take_sublist _ _).countP_le
    exact Nat.le_trans h1 (Nat.le_trans (cnt_drop (by omega)) hl)
theorem last_quiet {l : List Bool} {n a : Nat} (hn : 1 ≤ n) (h : ∀ i, i < l.length → (wnd l i n).countP id ≤ a) : ((l ++ [false]).drop (l.length + 1 - n)).countP id ≤ a := by
  rw [List.drop_append_of_le_length (by omega), List.countP_append]
  have e0 : [false].countP id = 0 := rfl
  rw [e0, Nat.add_zero]
  by_cases c : l.length + 1 - n < l.length
  · have := h _ c
    unfold wnd at this
    rw [List.take_of_length_le (by rw [List.length_drop]; omega)] at this
    exact this
  · rw [List.drop_eq_nil_of_le (by omega)]
    exact Nat.zero_le _
theorem Gr.nil {a b n k age : Nat} {cur : Bool} : Gr a b n k [] [] age cur := ⟨rfl, rfl, rfl, fun h => absurd rfl h, .inl rfl⟩
theorem fp_snoc {s c : List Bool} (h : s.length = c.length) (x y : Bool) : fpL (s ++ [x]) (c ++ [y]) = fpL s c ++ [!x && y] := by rw [fp_app h]; rfl
theorem ff_snoc {s c : List Bool} (h : s.length = c.length) (x y : Bool) : ffL (s ++ [x]) (c ++ [y]) = ffL s c ++ [x && !y] := by rw [ff_app h]; rfl
theorem okW_each {a b n : Nat} {s c : List Bool} (h : okW a b n s c = true) : ∀ i, i < c.length → (wnd (fpL s c) i n).countP id ≤ a ∧ (wnd (ffL s c) i n).countP id ≤ b := by
  unfold okW letB at h
  rw [List.all_eq_true] at h
  intro i hi
  have := h i (List.mem_range.2 hi)
  rw [Bool.and_eq_true, decide_eq_true_eq, decide_eq_true_eq] at this
  exact this
theorem Gr.step {a b n k : Nat} {s c : List Bool} {age age' : Nat} {cur cur' e : Bool} (hn : 1 ≤ n) (h : Gr a b n k s c age cur) (hc : (cur' = cur ∧ age' = age) ∨ (s ≠ [] ∧ k ≤ age ∧ cur' = !cur ∧ age' = 0))
    (he : e = true → letB a b ((fpL s c ++ [!cur']).drop (s.length + 1 - n)) ((ffL s c ++ [cur']).drop (s.length + 1 - n)) = true) : Gr a b n k (s ++ [cur']) (c ++ [cur' == !e]) (age' + 1) cur' := by
  have hl := h.len
  have lp : (fpL s c).length = s.length := by unfold fpL; rw [List.length_zipWith]; omega
  have lf : (ffL s c).length = s.length := by unfold ffL; rw [List.length_zipWith]; omega
  have ev := okW_each h.w
  have ep : ∀ i, i < (fpL s c).length → (wnd (fpL s c) i n).countP id ≤ a := fun i hi => (ev i (by omega)).1
  have ef : ∀ i, i < (ffL s c).length → (wnd (ffL s c) i n).countP id ≤ b := fun i hi => (ev i (by omega)).2
  have key : ((fpL s c ++ [!cur' && (cur' == !e)]).drop ((fpL s c).length + 1 - n)).countP id ≤ a ∧ ((ffL s c ++ [cur' && !(cur' == !e)]).drop ((ffL s c).length + 1 - n)).countP id ≤ b := by
    rw [lp, lf]
    cases e with
    | false =>
      have e1 : (!cur' && (cur' == !false)) = false := by cases cur' <;> rfl
      have e2 : (cur' && !(cur' == !false)) = false := by cases cur' <;> rfl
      rw [e1, e2]
      have := last_quiet hn ep
      have := last_quiet hn ef
      rw [lp] at *
      rw [lf] at *
      exact ⟨by assumption, by assumption⟩
    | true =>
      have e1 : (!cur' && (cur' == !true)) = !cur' := by cases cur' <;> rfl
      have e2 : (cur' && !(cur' == !true)) = cur' := by cases cur' <;> rfl
      rw [e1, e2]
      have := he rfl
      unfold letB at this
      rw [Bool.and_eq_true, decide_eq_true_eq, decide_eq_true_eq] at this
      exact this
  refine ⟨by simp [hl], ?_, ?_, fun _ => by simp, ?_⟩
  · unfold okW letB
    rw [List.all_eq_true]
    intro i hi
    rw [List.mem_range, List.length_append, List.length_singleton] at hi
    rw [fp_snoc hl, ff_snoc hl, Bool.and_eq_true, decide_eq_true_eq, decide_eq_true_eq]
    exact ⟨wnd_snoc hn (by omega) ep key.1, wnd_snoc hn (by omega) ef key.2⟩
  · rw [starts_snoc]
    rcases hc with ⟨rfl, rfl⟩ | ⟨hs, hk, rfl, rfl⟩
    · rw [if_neg (fun q => q.2 (h.last q.1)), List.append_nil]
      exact h.st
    · rw [if_pos ⟨hs, by rw [h.last hs]; cases cur <;> simp⟩]
      refine gaps_snoc h.st ?_
      rcases h.age with q | q
      · exact .inl q
      · exact .inr (by omega)
  · rw [starts_snoc]
    rcases hc with ⟨rfl, rfl⟩ | ⟨hs, hk, rfl, rfl⟩
    · rw [if_neg (fun q => q.2 (h.last q.1)), List.append_nil]
      rcases h.age with q | q
      · exact .inl q
      · refine .inr ?_
        rw [List.length_append, List.length_singleton]
        omega
    · rw [if_pos ⟨hs, by rw [h.last hs]; cases cur <;> simp⟩]
      refine .inr ?_
      simp
end Hi
namespace Hi
def once (l : List Sit) : List Sit := l.foldl (fun acc y => if y ∈ acc then acc else acc ++ [y]) []
def nexts (a b k : Nat) (x : Sit) (c first : Bool) : List (Bool × Sit) := ((steps a b k x 0 0).filter fun q => q.2.1 == c && (q.1 == x.st || !first)).map fun q => (q.1, q.2.2)
def level (a b k : Nat) (l : List Sit) (c first : Bool) : List Sit := once (l.flatMap fun x => (nexts a b k x c first).map (·.2))
def levs (a b n k : Nat) : List Bool → List Sit
  | [] => [begS n k false, begS n k true]
  | c :: cs => level a b k (levs a b n k cs) c (cs.isEmpty)
end Hi
namespace Hi
def kept (a b n k : Nat) : List Bool → List Bool → List Sit
  | P, [] => levs a b n k P
  | P, c :: q => (levs a b n k P).filter fun x => (nexts a b k x c P.isEmpty).any fun y => decide (y.2 ∈ kept a b n k (c :: P) q)
end Hi
namespace Ly
open Hi Tb
open Classical in
def sz (o : Option Nat) : Nat := o.getD 1000000000
end Ly
namespace Sh
section
variable {A Q : Type} [DecidableEq A] (st : List A) (g : A → List (Q × A)) (good : A → Bool)
inductive Pth : List Q → A → Prop
  | nil {x : A} : x ∈ st → Pth [] x
  | snoc {w : List Q} {x : A} {q : Q} {y : A} : Pth w x → (q, y) ∈ g x → Pth (w ++ [q]) y
variable {st g good}
structure Inv (st : List A) (g : A → List (Q × A)) (good : A → Bool) (i : Nat) (ps : List (Pt A Q)) (kn : List A) : Prop where
  pth : ∀ p ∈ ps, p.1.length = i ∧ Pth st g p.1 p.2
  nd : kn.Nodup
  bad : ∀ x ∈ kn, good x = false
  cl : ∀ x ∈ kn, ∀ q ∈ g x, q.2 ∈ kn ∨ q.2 ∈ ps.map (·.2)
  d1 : ∀ w x, Pth st g w x → w.length < i → x ∈ kn
  d2 : ∀ w x, Pth st g w x → w.length = i → x ∈ kn ∨ x ∈ ps.map (·.2)
  rch : ∀ x ∈ kn, ∃ w, Pth st g w x
theorem inv_start : Inv st g good 0 (first Q st) [] where
  pth := fun p hp => by
    obtain ⟨x, hx, rfl⟩ := List.mem_map.1 hp
    exact ⟨rfl, .nil hx⟩
  nd := List.nodup_nil
  bad := fun x hx => nomatch hx
  cl := fun x hx => nomatch hx
  d1 := fun w x _ h => by omega
  d2 := fun w x h hl => by
    cases h with
    | nil hx => exact .inr (List.mem_map.2 ⟨([], x), List.mem_map.2 ⟨x, hx, rfl⟩, rfl⟩)
    | snoc h _ => simp at hl
  rch := fun x hx => nomatch hx
end
end Sh
namespace Ly
open Hi Tb
def mE (b n j : Nat) : Nat := min j (b * (j / n) + min b (j % n))
end Ly
namespace By
def bit (b : Bool) : Int := if b then 1 else 0
def v8 (l : List Bool) : Int := l.foldl (fun n b => n * 2 + bit b) 0
def at8 (w : List Bool) (k : Nat) : List Bool := (List.range 8).map fun i => w.getD (8 * k + i) false
def nb (w : List Bool) : Nat := (w.length + 7) / 8
def nums (w : List Bool) : List Int := (List.range (nb w)).map fun k => v8 (at8 w k)
def pkL (w : List Bool) : List Int := (w.length : Int) :: nums w
def b8s (n : Int) : List Bool := (List.range 8).map fun i => decide (n / 2 ^ (7 - i) % 2 = 1)
def bitsL (ns : List Int) : List Bool := (ns.map b8s).flatten
theorem b8s_len (n : Int) : (b8s n).length = 8 := by simp [b8s]
theorem at8_len (w : List Bool) (k : Nat) : (at8 w k).length = 8 := by simp [at8]
theorem eight {l : List Bool} (h : l.length = 8) : ∃ a b c d e f g i, l = [a, b, c, d, e, f, g, i] := by
  match l, h with
  | [a, b, c, d, e, f, g, i], _ => exact ⟨a, b, c, d, e, f, g, i, rfl⟩
theorem all8 {P : List Bool → Prop} (h : ∀ a b c d e f g i : Bool, P [a, b, c, d, e, f, g, i]) {l : List Bool} (hl : l.length = 8) : P l := by
  obtain ⟨a, b, c, d, e, f, g, i, rfl⟩ := eight hl
  exact h a b c d e f g i
theorem b8_v8 {l : List Bool} (h : l.length = 8) : b8s (v8 l) = l := by
  refine all8 (P := fun l => b8s (v8 l) = l) ?_ h
  decide +kernel
theorem v8_rng {l : List Bool} (h : l.length = 8) : 0 ≤ v8 l ∧ v8 l < 256 := by
  refine all8 (P := fun l => 0 ≤ v8 l ∧ v8 l < 256) ?_ h
  decide +kernel
theorem v8_b8 {n : Int} (h0 : 0 ≤ n) (h1 : n < 256) : v8 (b8s n) = n := by
  obtain ⟨m, rfl⟩ : ∃ m : Nat, n = (m : Nat) := ⟨n.toNat, by omega⟩
  have hm : m < 256 := by omega
  have : ∀ m : Fin 256, v8 (b8s ((m.val : Nat) : Int)) = ((m.val : Nat) : Int) := by decide +kernel
  exact this ⟨m, hm⟩
theorem flat_at8 (w : List Bool) : ∀ n : Nat, ((List.range n).map (at8 w)).flatten = (List.range (8 * n)).map fun i => w.getD i false
  | 0 => rfl
  | n + 1 => by
    rw [List.range_succ, List.map_append, List.flatten_append, flat_at8 w n, List.map_singleton, List.flatten_singleton, Nat.mul_add, Nat.mul_one, List.range_add, List.map_append]
    congr 1
theorem bits_nums (w : List Bool) : bitsL (nums w) = (List.range (8 * nb w)).map fun i => w.getD i false := by
  rw [← flat_at8]
  unfold bitsL nums
  rw [List.map_map]
  congr 1
  refine List.map_congr_left fun k _ => ?_
  exact b8_v8 (at8_len w k)
theorem bits_len (ns : List Int) : (bitsL ns).length = 8 * ns.length := by
  induction ns with
  | nil => rfl
  | cons n ns ih =>
    unfold bitsL at ih ⊢
    rw [List.map_cons, List.flatten_cons, List.length_append, ih, b8s_len, List.length_cons]
    omega
theorem nums_len (w : List Bool) : (nums w).length = nb w := by simp [nums]
theorem pk_len (w : List Bool) : (pkL w).length = nb w + 1 := by simp [pkL, nums_len]
theorem nums_rng (w : List Bool) : ∀ n ∈ nums w, 0 ≤ n ∧ n < 256 := by
  intro n hn
  unfold nums at hn
  rw [List.mem_map] at hn
  obtain ⟨k, _, rfl⟩ := hn
  exact v8_rng (at8_len w k)
theorem pk_rng (w : List Bool) (h : w.length < 256) : ∀ n ∈ pkL w, 0 ≤ n ∧ n < 256 := by
  intro n hn
  unfold pkL at hn
  rw [List.mem_cons] at hn
  rcases hn with rfl | hn
  · omega
  · exact nums_rng w n hn
theorem at8_bits : ∀ (r : List Int) (k : Nat), k < r.length → at8 (bitsL r) k = b8s (r.getD k 0)
  | [], k, h => by simp at h
  | n :: r, 0, _ => by
    unfold at8 bitsL
    rw [List.map_cons, List.flatten_cons]
    have hl := b8s_len n
    apply List.ext_getElem?
    intro i
    by_cases hi : i < 8
    · rw [List.getElem?_map, List.getElem?_range hi, Option.map_some, List.getD_eq_getElem?_getD, Nat.mul_zero, Nat.zero_add, List.getElem?_append_left (by omega)]
      show some ((b8s n)[i]?.getD false) = (b8s n)[i]?
      rw [List.getElem?_eq_getElem (by omega)]
      rfl
    · rw [List.getElem?_eq_none (by simp; omega), List.getElem?_eq_none (by simp [b8s_len]; omega)]
  | n :: r, k + 1, h => by
    have ih := at8_bits r k (by simpa using h)
    rw [List.getD_cons_succ, ← ih]
    unfold at8 bitsL
    rw [List.map_cons, List.flatten_cons]
    refine List.map_congr_left fun i _ => ?_
    rw [List.getD_eq_getElem?_getD, List.getD_eq_getElem?_getD, List.getElem?_append_right (by rw [b8s_len]; omega), b8s_len]
    congr 2
    omega
def unp : List Int → Option (List Bool)
  | [] => none
  | l :: r => if l > 60 then none else if pkL ((bitsL r).take l.toNat) = l :: r then some ((bitsL r).take l.toNat) else none
theorem unp_due (l : Int) (r : List Int) (h0 : 0 ≤ l) (hr : ∀ n ∈ r, 0 ≤ n ∧ n < 256) : unp (l :: r) =
    if l > 60 ∨ ((r.length : Nat) : Int) + 1 ≠ 1 + (l + 7) / 8 then none else if ((bitsL r).drop l.toNat).any id = true then none else some ((bitsL r).take l.toNat) := by
  obtain ⟨m, rfl⟩ : ∃ m : Nat, l = (m : Nat) := ⟨l.toNat, by omega⟩
  show (if (m : Int) > 60 then none else if pkL ((bitsL r).take (m : Int).toNat) = (m : Int) :: r then some ((bitsL r).take (m : Int).toNat) else none) = _
  by_cases h1 : (m : Int) > 60
  · rw [if_pos h1, if_pos (.inl h1)]
  · rw [if_neg h1, Int.toNat_natCast]
    by_cases h2 : ((r.length : Nat) : Int) + 1 ≠ 1 + ((m : Int) + 7) / 8
    · rw [if_pos (show ((m : Int) > 60 ∨ ((r.length : Nat) : Int) + 1 ≠ 1 + ((m : Int) + 7) / 8) from .inr h2), if_neg]
      intro z
      unfold pkL at z
      have z1 := (List.cons.inj z).1
      have z2 := congrArg List.length (List.cons.inj z).2
      rw [nums_len] at z2
      unfold nb at z2
      omega
    · rw [if_neg (show ¬ ((m : Int) > 60 ∨ ((r.length : Nat) : Int) + 1 ≠ 1 + ((m : Int) + 7) / 8) from by rintro (z | z); exact h1 z; exact h2 z)]
      have hb := bits_len r
      have hlen : ((bitsL r).take m).length = m := by rw [List.length_take, hb]; omega
      have hnb : nb ((bitsL r).take m) = r.length := by unfold nb; rw [hlen]; omega
      by_cases h3 : ((bitsL r).drop m).any id = true
      · rw [if_pos h3]
        refine if_neg fun z => ?_
        have z2 := (List.cons.inj z).2
        have z3 := congrArg bitsL z2
        rw [bits_nums, hnb] at z3
        rw [List.any_eq_true] at h3
        obtain ⟨b, hb1, hb2⟩ := h3
        have hb2 : b = true := hb2
        subst hb2
        obtain ⟨i, hi⟩ := List.mem_iff_getElem?.mp hb1
        rw [List.getElem?_drop, ← z3] at hi
        have hlt : m + i < 8 * r.length := by
          have := (List.getElem?_eq_some_iff.mp hi).1
          simpa using this
        rw [List.getElem?_map, List.getElem?_range hlt, Option.map_some, List.getD_eq_getElem?_getD, List.getElem?_eq_none (by omega)] at hi
        simp at hi
      · rw [if_neg h3]
        refine if_pos ?_
        unfold pkL
        rw [hlen]
        congr 1
        unfold nums
        rw [hnb]
        have hg : ∀ i, ((bitsL r).take m).getD i false = (bitsL r).getD i false := fun i => by
          rw [List.getD_eq_getElem?_getD, List.getD_eq_getElem?_getD]
          by_cases hi : i < m
          · rw [List.getElem?_take_of_lt hi]
          · rw [List.getElem?_eq_none (by omega)]
            cases q : (bitsL r)[i]? with
            | none => rfl
            | some b =>
              cases b with
              | false => rfl
              | true =>
                refine (h3 ?_).elim
                rw [List.any_eq_true]
                refine ⟨true, List.mem_iff_getElem?.mpr ⟨i - m, ?_⟩, rfl⟩
                rw [List.getElem?_drop, ← q]
                congr 1
                omega
        apply List.ext_getElem?
        intro k
        by_cases hk : k < r.length
        · rw [List.getElem?_map, List.getElem?_range hk, Option.map_some]
          have e1 : at8 ((bitsL r).take m) k = at8 (bitsL r) k := by
            unfold at8
            exact List.map_congr_left fun i _ => hg _
          rw [e1, at8_bits r k hk]
          have hm : r.getD k 0 ∈ r := by
            rw [List.getD_eq_getElem?_getD, List.getElem?_eq_getElem hk]
            exact List.getElem_mem hk
          rw [v8_b8 (hr _ hm).1 (hr _ hm).2, List.getD_eq_getElem?_getD, List.getElem?_eq_getElem hk]
          rfl
        · rw [List.getElem?_eq_none (by simp; omega), List.getElem?_eq_none (by omega)]
end By
namespace Sr
open PySem hiding start
open L2
theorem lcL_map {B : Type} {w : D → M Unit} {t : M Bool} {el : M D} {vs : List Nat} (g h : B → D) (E : En) : ∀ (xs : List B) (acc : List D), acc.length + xs.length ≤ 16777216 →
    (∀ x ∈ xs, ∃ e1 e2 e3, w (g x) E = .ok () e1 ∧ t e1 = .ok true e2 ∧ el e2 = .ok (h x) e3 ∧ wipE vs e3 = E) → lcL w t el vs (xs.map g) acc E = .ok (acc ++ xs.map h) E
  | [], acc, _, _ => by simp [lcL, Sr.ret]
  | x :: xs, acc, hl, hs => by
    obtain ⟨e1, e2, e3, h1, h2, h3, h4⟩ := hs x (by simp)
    rw [List.length_cons] at hl
    have ih := lcL_map g h E xs (acc ++ [h x]) (by simp; omega) fun y hy => hs y (by simp [hy])
    have hz : acc.length < sizeLine := by
      have e : sizeLine = 16777216 := by decide
      omega
    rw [List.map_cons, lcL, bnd_ok h1, bnd_ok h2, if_pos rfl, bnd_ok h3, if_pos hz]
    show lcL w t el vs (List.map g xs) (acc ++ [h x]) (wipE vs e3) = _
    rw [h4, ih]
    simp
theorem mLc_map {B : Type} {m : M (List D)} {w : D → M Unit} {t : M Bool} {el : M D} {vs : List Nat} {e e1 : En} {xs : List B} (g h : B → D) (hm : m e = .ok (xs.map g) e1) (hl : xs.length ≤ 16777216)
    (hs : ∀ x ∈ xs, ∃ a b c, w (g x) (wipE vs e1) = .ok () a ∧ t a = .ok true b ∧ el b = .ok (h x) c ∧ wipE vs c = wipE vs e1) : mLc vs m w t el e = .ok (.lst (xs.map h)) (rst vs e1 (wipE vs e1)) := by
  unfold mLc
  rw [bnd_ok hm]
  have := lcL_map g h (wipE vs e1) xs [] (by simpa using hl) hs
  simp only [this, List.nil_append]
section
variable {A κ : Type} [BEq A] [LawfulBEq A] [DecidableEq A] [DecidableEq κ]
def kn (enc : A → κ) (l : List A) : List (κ × D) := l.map fun x => (enc x, .bl true)
variable {enc : A → κ} (inj : ∀ x y, enc x = enc y → x = y)
include inj
end
theorem atI_nat {A : Type} {l : List A} {i : Nat} (h : i < l.length) : L2.atI l (i : Int) = some l[i] := by
  simp [L2.atI, L2.ixN, h]
def chk (w : List Bool) : Str := ⟨(w.map fun b => if b then 43 else 45).toArray⟩
theorem chk_len (w : List Bool) : (chk w).length = w.length := by unfold chk Str.length; simp
theorem chk_app (u w : List Bool) : chk u ++ chk w = chk (u ++ w) := by
  show Str.append _ _ = _
  unfold Str.append chk
  simp
theorem chk_one (b : Bool) : (if b then ("+" : Str) else ("-" : Str)) = chk [b] := by cases b <;> decide
theorem items_chk (w : List Bool) : ((chk w).cps.toList.map fun c => D.str ⟨#[c]⟩) = w.map fun b => D.str (chk [b]) := by
  unfold chk
  simp only [List.map_map]
  refine List.map_congr_left fun b _ => ?_
  cases b <;> rfl
def trace (t : Tb.Tab) (i : Nat) : List Bool → List Bool
  | [] => []
  | b :: w => (Tb.row t (Tb.nx t i b)).1 :: trace t (Tb.nx t i b) w
def told (t : Tb.Tab) (i : Nat) (w : List Bool) : List Bool := (Tb.row t i).1 :: trace t i w
end Sr
namespace Lw
open PySem hiding start
open PySem.Spec L2 Sr
open PyProof.Rows hiding St
def isB_str : D → Option Bool := gIsi (tOnly .str) fun c => isl_str.lookup c
def isB_bytes : D → Option Bool := gIsi (tOnly .bytes) fun c => isl_bytes.lookup c
def ct_StatusError : Str → Option Bool := fun y => ctl_StatusError.lookup y
def b__law_pen : M Fl :=
  (sRetO (mLst (mCons (mCal gMax2 (mCons (ret (.int 0)) (mCons (m2 gSub (mN 0) (m2 gPow (ret (.int 10)) (ret (.int 18)))) mNil))) (mCons (m2 gAdd (m2 gMod (mCal gInt1 (mCons (mN 0) mNil)) (ret (.int 2147483629))) (ret (.int 1))) (mCons (ret (.int 0)) mNil)))))
def f__law_pen : Fnc := mkF0 1 true b__law_pen
def b__law_cell_at : M Fl :=
  (sq (sIf (mT (m2 gLt (mN 1) (m1 gLen (mN 0)))) (sRet (m2 gIx (mN 0) (mN 1))) skp)
    (sRet (ret (.int 0))))
def f__law_cell_at : Fnc := mkF0 2 false b__law_cell_at
def t_is_made_of_1 : M Bool :=
  mYes
def e_is_made_of_1 : M D :=
  (m2 gIn (mN 2) (mN 1))
def b_is_made_of : M Fl :=
  (sRet (mAndV (mIsi isB_str (mN 0)) (m1 gAll (mLc [2] (mItems (mN 0)) (gN 2) t_is_made_of_1 e_is_made_of_1))))
def f_is_made_of : Fnc := mkF0 3 false b_is_made_of
def b_check_checks : M Fl :=
  (sIf (mOr (mNot (mT (mC0 f_is_made_of [] (mCons (mN 0) (mCons (m2 gAdd (ret (.str "+")) (ret (.str "-"))) mNil))))) (mT (m2 gGt (m1 gLen (mN 0)) (ret (.int 60))))) (sRaise "ChecksError") skp)
def f_check_checks : Fnc := mkF0 1 false b_check_checks
def l_packed_1 : M Fl :=
  (sSet 3 (m2 gAdd (m2 gMul (mN 3) (ret (.int 2))) (mCal gInt1 (mCons (m2 gEq (mN 4) (ret (.str "+"))) mNil))))
def l_packed_2 : M Fl :=
  (sq (sSet 3 (ret (.int 0)))
    (sq (sFor (mItems (mSl (m2 gAdd (mSl (mN 0) (mPart (mN 2)) (mPart (m2 gAdd (mN 2) (ret (.int 8))))) (m2 gMulA (ret (.str "-")) (ret (.int 8)))) mNoP (mPart (ret (.int 8))))) (gN 4) l_packed_1)
    (sApp 1 (mN 3))))
def b_packed : M Fl :=
  (sq (sSetO 1 (mLst (mCons (m1 gLen (mN 0)) mNil)))
    (sq (sFor (mRng3 (mCons (ret (.int 0)) (mCons (m1 gLen (mN 0)) (mCons (ret (.int 8)) mNil)))) (gN 2) l_packed_2)
    (sRet (mCal1 gBytes (mNB 1)))))
def f_packed : Fnc := mkF0 5 false b_packed
def b_pack : M Fl :=
  (sq (sDrop (mC0 f_check_checks [] (mCons (mN 0) mNil)))
    (sRet (mC0 f_packed [] (mCons (mN 0) mNil))))
def f_pack : Fnc := mkF0 1 false b_pack
def b__law_draw : M Fl :=
  (sq (sIf (mT (m2 gGt (m2b gIx (mNB 0) (ret (.int 0))) (ret (.int 0)))) (sq (sSet 2 (m2 gMod (mCal gInt1 (mCons (m2b gIx (mNB 0) (ret (.int 0))) mNil)) (mN 1)))
    (sq (sPutI 0 (ret (.int 0)) (m2 gDiv (m2b gIx (mNB 0) (ret (.int 0))) (mN 1)))
    (sRet (mN 2)))) skp)
    (sq (sPutI 0 (ret (.int 2)) (m2 gAdd (m2b gIx (mNB 0) (ret (.int 2))) (ret (.int 1))))
    (sq (sPutI 0 (ret (.int 1)) (m2 gMod (mCal gInt1 (mCons (m2 gAdd (m2 gAdd (m2 gMul (m2b gIx (mNB 0) (ret (.int 1))) (ret (.int 48271))) (m2 gMul (ret (.int 1009)) (m2b gIx (mNB 0) (ret (.int 2))))) (ret (.int 7))) mNil)) (ret (.int 2147483647))))
    (sq (sSet 3 (m2 gMod (mCal gInt1 (mCons (m2 gAdd (m2 gAdd (m2 gMul (m2b gIx (mNB 0) (ret (.int 1))) (m2b gIx (mNB 0) (ret (.int 1)))) (m2 gMul (ret (.int 69621)) (m2b gIx (mNB 0) (ret (.int 1))))) (ret (.int 11))) mNil)) (ret (.int 2147483629))))
    (sq (sSet 3 (m2 gMod (mCal gInt1 (mCons (m2 gAdd (m2 gMul (mN 3) (mN 3)) (m2 gMul (ret (.int 40014)) (mN 3))) mNil)) (ret (.int 2147483587))))
    (sRet (m2 gMod (mCal gInt1 (mCons (m2 gDiv (mN 3) (ret (.int 16))) mNil)) (mN 1))))))))
def f__law_draw : Fnc := mkF1 4 false b__law_draw
def l__law_checks_1 : M Fl :=
  (sIf (mAnd (mT (m2 gGt (mN 3) (ret (.int 0)))) (mAnd (mT (m2 gNe (mN 4) (ret (.str "")))) (mT (m2 gGt (mC1 f__law_draw 0 [] (mCons (m2 gAdd (ret (.int 2)) (mN 3)) mNil)) (ret (.int 0)))))) (sSet 4 (m2 gAdd (mN 4) (m2 gIx (mN 4) (m1 gNeg (ret (.int 1)))))) (sSet 4 (m2 gAdd (mN 4) (m2 gIx (ret (.str "+-")) (mC1 f__law_draw 0 [] (mCons (ret (.int 2)) mNil))))))
def b__law_checks : M Fl :=
  (sq (sPar (mCons (mC1 f__law_draw 0 [] (mCons (m2 gAdd (mN 1) (ret (.int 1))) mNil)) (mCons (mC1 f__law_draw 0 [] (mCons (ret (.int 3)) mNil)) (mCons (ret (.str "")) mNil))) (gsC (gN 2) (gsC (gN 3) (gsC (gN 4) gsN))))
    (sq (sFor (mRng (mCons (mN 2) mNil)) (gN 5) l__law_checks_1)
    (sRet (mN 4))))
def f__law_checks : Fnc := mkF1 6 false b__law_checks
def b__law_same : M Fl :=
  (sRet (m2 gEq (m1 gReprB (mN 0)) (m1 gReprB (mN 1))))
def f__law_same : Fnc := mkF0 2 false b__law_same
def b__law_kindE (ex : Ex) : M Fl :=
  (sq (sSet 1 (mLst (mCons (mIsE isE_TableError ex) (mCons (mIsE isE_ChecksError ex) (mCons (mIsE isE_RuleError ex) mNil)))))
    (sq (sSet 1 (m2 gAdd (mN 1) (mLst (mCons (mIsE isE_NumberError ex) mNil))))
    (sq (sSet 1 (m2 gAdd (mN 1) (mLst (mCons (mIsE isE_LimitsError ex) (mCons (mIsE isE_StateError ex) (mCons (mIsE isE_SituationError ex) mNil))))))
    (sq (sSet 1 (m2 gAdd (mN 1) (mLst (mCons (mIsE isE_FractionError ex) (mCons (mIsE isE_RulesError ex) (mCons (mIsE isE_StatusesError ex) mNil))))))
    (sq (sSet 1 (m2 gAdd (mN 1) (mLst (mCons (mIsE isE_NamesError ex) (mCons (mIsE isE_SignsError ex) (mCons (mIsE isE_UnknownName ex) mNil))))))
    (sq (sSet 1 (m2 gAdd (mN 1) (mLst (mCons (mIsE isE_MonitorError ex) (mCons (mIsE isE_NothingToUndo ex) (mCons (mIsE isE_DataError ex) mNil))))))
    (sq (sSet 1 (m2 gAdd (mN 1) (mLst (mCons (mIsE isE_TooLarge ex) (mCons (mIsE isE_TextError ex) mNil)))))
    (sq (sSet 2 (mLst (mCons (ret (.str "table")) (mCons (ret (.str "checks")) (mCons (ret (.str "rule")) (mCons (ret (.str "number")) (mCons (ret (.str "limits")) (mCons (ret (.str "state")) (mCons (ret (.str "situation")) (mCons (ret (.str "fraction")) (mCons (ret (.str "rules")) (mCons (ret (.str "statuses")) mNil))))))))))))
    (sq (sSet 2 (m2 gAdd (mN 2) (mLst (mCons (ret (.str "names")) (mCons (ret (.str "signs")) (mCons (ret (.str "unknown")) (mCons (ret (.str "monitor")) (mCons (ret (.str "undo")) (mCons (ret (.str "data")) (mCons (ret (.str "large")) (mCons (ret (.str "text")) mNil)))))))))))
    (sq (sIf (mOr (mT (m2 gNe (mMl gCnt (mB (mN 1)) (ret (.bl true))) (ret (.int 1)))) (mNot (mT (mIsE isE_ValueError ex)))) (sRet (ret (.str "other"))) skp)
    (sRet (m2 gIx (mN 2) (mMl gIdx (mB (mN 1)) (ret (.bl true)))))))))))))))
def g__law_kindE : Ex → Option D := mkE 3 b__law_kindE
def l_unpack_1 : M Fl :=
  (sAugS 1 (mIf (mT (m2 gEq (m2 gAndI (m2 gShr (mN 2) (mN 3)) (ret (.int 1))) (ret (.int 1)))) (ret (.str "+")) (ret (.str "-"))))
def l_unpack_2 : M Fl :=
  (sFor (mRevR (ret (.int 8))) (gN 3) l_unpack_1)
def b_unpack : M Fl :=
  (sq (sIf (mOr (mNot (mT (mIsi isB_bytes (mN 0)))) (mOr (mT (m2 gEq (m1 gLen (mN 0)) (ret (.int 0)))) (mT (m2 gGt (m2 gIxY (mN 0) (ret (.int 0))) (ret (.int 60)))))) (sRaise "DataError") skp)
    (sq (sSet 1 (ret (.str "")))
    (sq (sFor (mItY (mSlY (mN 0) (mPart (ret (.int 1))) mNoP)) (gN 2) l_unpack_2)
    (sq (sSet 4 (mSl (mN 1) mNoP (mPart (m2 gIxY (mN 0) (ret (.int 0))))))
    (sq (sIf (mT (m2 gNe (mC0 f_packed [] (mCons (mN 4) mNil)) (mN 0))) (sRaise "DataError") skp)
    (sRet (mN 4)))))))
def f_unpack : Fnc := mkF0 5 false b_unpack
def l__law_due_1 : M Fl :=
  (sq (sSet 3 (m2 gAdd (m2 gIx (ret (.str "-+")) (m2 gMod (mCal gInt1 (mCons (mN 4) mNil)) (ret (.int 2)))) (mN 3)))
    (sSet 4 (m2 gDiv (mN 4) (ret (.int 2)))))
def l__law_due_2 : M Fl :=
  (sq (sPar (mCons (ret (.str "")) (mCons (mN 2) mNil)) (gsC (gN 3) (gsC (gN 4) gsN)))
    (sq (sFor (mRng (mCons (ret (.int 8)) mNil)) (gN 5) l__law_due_1)
    (sSet 1 (m2 gAdd (mN 1) (mN 3)))))
def b__law_due : M Fl :=
  (sq (sIf (mOr (mT (m2 gEq (mN 0) (mLst mNil))) (mOr (mT (m2 gGt (m2 gIx (mN 0) (ret (.int 0))) (ret (.int 60)))) (mT (m2 gNe (m1 gLen (mN 0)) (m2 gAdd (ret (.int 1)) (m2 gDiv (m2 gAdd (m2 gIx (mN 0) (ret (.int 0))) (ret (.int 7))) (ret (.int 8)))))))) (sRet (mTup (mCons (ret (.str "data")) mNil))) skp)
    (sq (sSet 1 (ret (.str "")))
    (sq (sFor (mItems (mSl (mN 0) (mPart (ret (.int 1))) mNoP)) (gN 2) l__law_due_2)
    (sq (sIf (mT (m2 gIn (ret (.str "+")) (mSl (mN 1) (mPart (m2 gIx (mN 0) (ret (.int 0)))) mNoP))) (sRet (mTup (mCons (ret (.str "data")) mNil))) skp)
    (sRet (mTup (mCons (ret (.str "told")) (mCons (mSl (mN 1) mNoP (mPart (m2 gIx (mN 0) (ret (.int 0))))) mNil))))))))
def f__law_due : Fnc := mkF0 6 false b__law_due
def b__law_pick : M Fl :=
  (sRet (m2 gIx (mN 1) (mC1 f__law_draw 0 [] (mCons (m1 gLen (mN 1)) mNil))))
def f__law_pick : Fnc := mkF1 2 false b__law_pick
def b__law_odd : M Fl :=
  (sq (sSet 1 (mLst (mCons (ret .non) (mCons (ret (.bl true)) (mCons (ret (.bl false)) (mCons (m1 gNeg (ret (.int 1))) (mCons (ret (.int 0)) (mCons (ret (.int 1)) (mCons (ret (.int 2)) (mCons (ret (.int 7)) (mCons (m2 gPow (ret (.int 10)) (ret (.int 11))) (mCons (ret (.str "")) (mCons (ret (.str "U")) (mCons (ret (.str "D")) (mCons (ret (.str "+")) (mCons (ret (.str "-")) (mCons (ret (.str "UD")) (mCons (ret (.str "+-")) (mCons (mTup mNil) (mCons (mLst mNil) (mCons (ret (.dk [])) (mCons (mTup (mCons (ret (.int 0)) mNil)) (mCons (mLst (mCons (ret (.int 0)) mNil)) mNil)))))))))))))))))))))))
    (sq (sSet 1 (m2 gAdd (mN 1) (mLst (mCons (mDisp [((ret (.int 0)), (ret (.int 1)))]) (mCons (mTup (mCons (ret (.str "U")) (mCons (ret (.int 0)) (mCons (ret (.int 0)) mNil)))) (mCons (mTup (mCons (mTup (mCons (ret (.str "U")) (mCons (ret (.int 0)) (mCons (ret (.int 0)) mNil)))) mNil)) (mCons (mLst (mCons (mTup (mCons (ret (.str "U")) (mCons (ret (.int 0)) (mCons (ret (.int 0)) mNil)))) mNil)) (mCons (mTup (mCons (ret (.str "U")) (mCons (ret (.str "+")) mNil))) (mCons (mTup (mCons (ret (.str "")) (mCons (ret (.str "")) mNil))) (mCons (ret (.str "00U1")) (mCons (mTup (mCons (ret .non) mNil)) (mCons (ret (.str "?")) mNil))))))))))))
    (sRet (mC1 f__law_pick 0 [] (mCons (mN 1) mNil)))))
def f__law_odd : Fnc := mkF1 2 false b__law_odd
def t_law_1 : M Bool :=
  mYes
def e_law_1 : M D :=
  (mN 10)
def l_law_1 : M Fl :=
  (sIf (mNot (mT (mC0 f__law_same [] (mCons (mSaid ct_StatusError g__law_kindE (mC0 f_unpack [] (mCons (mN 8) mNil))) (mCons (mC0 f__law_due [] (mCons (mLc [10] (mItY (mN 8)) (gN 10) t_law_1 e_law_1) mNil)) mNil))))) (sRet (ret (.bl false))) skp)
def l_law_2 : M Fl :=
  (sq (sPar (mCons (mC0 f_pack [] (mCons (mC1 f__law_checks 2 [] (mCons (ret (.int 60)) mNil)) mNil)) (mCons (mC0 f_pack [] (mCons (mC1 f__law_checks 2 [] (mCons (ret (.int 20)) mNil)) mNil)) mNil)) (gsC (gN 4) (gsC (gN 5) gsN)))
    (sq (sSet 6 (mC1 f__law_draw 2 [] (mCons (m2 gAdd (m1 gLen (mN 4)) (ret (.int 1))) mNil)))
    (sq (sSet 7 (mLst (mCons (mN 4) (mCons (mN 5) (mCons (mSlY (mN 4) mNoP (mPart (mN 6))) (mCons (mSlY (mN 4) (mPart (mN 6)) mNoP) (mCons (m2 gAddY (mN 4) (mN 5)) (mCons (m2 gAddY (mN 5) (mN 4)) (mCons (m2 gAddY (mSlY (mN 4) mNoP (mPart (ret (.int 1)))) (mSlY (mN 5) (mPart (ret (.int 1))) mNoP)) (mCons (m2 gAddY (mSlY (mN 5) mNoP (mPart (ret (.int 1)))) (mSlY (mN 4) (mPart (ret (.int 1))) mNoP)) mNil))))))))))
    (sq (sSet 7 (m2 gAdd (mN 7) (mLst (mCons (m1 gBackY (mN 4)) (mCons (m2 gMulY (mSlY (mN 4) mNoP (mPart (ret (.int 1)))) (ret (.int 2))) (mCons (mSlY (mN 4) mNoP (mPart (ret (.int 0)))) (mCons (m2 gAddY (mN 4) (mSlY (mN 4) mNoP (mPart (ret (.int 1))))) (mCons (m2 gAddY (mSlY (mN 4) mNoP (mPart (m1 gNeg (ret (.int 1))))) (mSlY (mN 5) mNoP (mPart (ret (.int 1))))) (mCons (mSlY (mC0 f_pack [] (mCons (m2 gMulA (ret (.str "+")) (ret (.int 9))) mNil)) (mPart (ret (.int 1))) mNoP) mNil)))))))))
    (sq (sSet 7 (m2 gAdd (mN 7) (mLst (mCons (m2 gAddY (mSlY (mC0 f_pack [] (mCons (ret (.str "-")) mNil)) mNoP (mPart (ret (.int 1)))) (mSlY (mC0 f_pack [] (mCons (m2 gMulA (ret (.str "+")) (ret (.int 8))) mNil)) (mPart (ret (.int 1))) mNoP)) (mCons (m2 gAddY (mSlY (mC0 f_pack [] (mCons (ret (.str "-")) mNil)) mNoP (mPart (ret (.int 1)))) (mSlY (mC0 f_pack [] (mCons (m2 gMulA (ret (.str "-")) (ret (.int 8))) mNil)) (mPart (ret (.int 1))) mNoP)) (mCons (mSlY (mC0 f_pack [] (mCons (m2 gMulA (ret (.str "+")) (ret (.int 60))) mNil)) (mPart (ret (.int 1))) mNoP) mNil))))))
    (sq (sSet 7 (m2 gAdd (mN 7) (mLst (mCons (m2 gAddY (mSlY (mC0 f_pack [] (mCons (ret (.str "--++++-+")) mNil)) (mPart (ret (.int 1))) mNoP) (mSlY (mC0 f_pack [] (mCons (m2 gMulA (ret (.str "-")) (ret (.int 60))) mNil)) (mPart (ret (.int 1))) mNoP)) (mCons (m2 gAddY (mSlY (mC0 f_pack [] (mCons (m2 gMulA (ret (.str "-")) (ret (.int 8))) mNil)) mNoP (mPart (ret (.int 1)))) (mSlY (mC0 f_pack [] (mCons (ret (.str "+-+-+-++")) mNil)) (mPart (ret (.int 1))) mNoP)) mNil)))))
    (sFor (mItems (mN 7)) (gN 8) l_law_1)))))))
def l_law_3 : M Fl :=
  (sIf (mT (m2 gNe (mSaid ct_StatusError g__law_kindE (mC0 f_unpack [] (mCons (mN 9) mNil))) (mTup (mCons (ret (.str "data")) mNil)))) (sRet (ret (.bl false))) skp)
def l_law_4 : M Fl :=
  (sq (sSetO 2 (mC0 f__law_pen [] (mCons (mC0 f__law_cell_at [] (mCons (mN 0) (mCons (mN 1) mNil))) mNil)))
    (sq (sFor (mRng (mCons (ret (.int 3)) mNil)) (gN 3) l_law_2)
    (sFor (mItems (mLst (mCons (mC1 f__law_odd 2 [] mNil) (mCons (ret .non) (mCons (ret (.str "")) (mCons (ret (.str "+")) (mCons (ret (.int 0)) (mCons (ret (.bl true)) (mCons (mLst (mCons (ret (.int 0)) mNil)) (mCons (mTup (mCons (ret (.int 0)) mNil)) (mCons (ret (.dk [])) (mCons (mLst (mCons (ret (.int 1)) (mCons (ret (.int 128)) mNil))) (mCons (ret (.str "\n")) mNil))))))))))))) (gN 9) l_law_3)))
def b_law : M Fl :=
  (sq (sFor (mRng (mCons (mCal gMax2 (mCons (ret (.int 1)) (mCons (mCal gMin2 (mCons (m1 gLen (mN 0)) (mCons (ret (.int 3)) mNil))) mNil))) mNil)) (gN 1) l_law_4)
    (sRet (ret (.bl true))))
def f_law : Fnc := mkF0 11 false b_law
end Lw
namespace Lw
open PySem hiding start
open PySem.Spec L2 Sr
open PyProof.Rows hiding St
structure Tx (K : PySem.W.Frag) (mg : Str → Option Value) : Prop where
  f_max : mg "max" = none
  f_int : mg "int" = none
  f_len : mg "len" = none
  f_isinstance : mg "isinstance" = none
  f_str : mg "str" = none
  f_all : mg "all" = none
  c_PASS : ∃ t, mg "PASS" = some (.str "+" t)
  c_FAIL : ∃ t, mg "FAIL" = some (.str "-" t)
  c_MOST_CHECKS : ∃ t, mg "MOST_CHECKS" = some (.int 60 t)
  f_range : mg "range" = none
  c_BYTE : ∃ t, mg "BYTE" = some (.int 8 t)
  f_bytes : mg "bytes" = none
  f_repr : mg "repr" = none
  f_ValueError : mg "ValueError" = none
  f_reversed : mg "reversed" = none
  f_min : mg "min" = none
  k_ChecksError : mg "ChecksError" = some (.ref (He.ga K "ChecksError"))
  k_TableError : mg "TableError" = some (.ref (He.ga K "TableError"))
  k_RuleError : mg "RuleError" = some (.ref (He.ga K "RuleError"))
  k_NumberError : mg "NumberError" = some (.ref (He.ga K "NumberError"))
  k_LimitsError : mg "LimitsError" = some (.ref (He.ga K "LimitsError"))
  k_StateError : mg "StateError" = some (.ref (He.ga K "StateError"))
  k_SituationError : mg "SituationError" = some (.ref (He.ga K "SituationError"))
  k_FractionError : mg "FractionError" = some (.ref (He.ga K "FractionError"))
  k_RulesError : mg "RulesError" = some (.ref (He.ga K "RulesError"))
  k_StatusesError : mg "StatusesError" = some (.ref (He.ga K "StatusesError"))
  k_NamesError : mg "NamesError" = some (.ref (He.ga K "NamesError"))
  k_SignsError : mg "SignsError" = some (.ref (He.ga K "SignsError"))
  k_UnknownName : mg "UnknownName" = some (.ref (He.ga K "UnknownName"))
  k_MonitorError : mg "MonitorError" = some (.ref (He.ga K "MonitorError"))
  k_NothingToUndo : mg "NothingToUndo" = some (.ref (He.ga K "NothingToUndo"))
  k_DataError : mg "DataError" = some (.ref (He.ga K "DataError"))
  k_TooLarge : mg "TooLarge" = some (.ref (He.ga K "TooLarge"))
  k_TextError : mg "TextError" = some (.ref (He.ga K "TextError"))
  k_StatusError : mg "StatusError" = some (.ref (He.ga K "StatusError"))
  i_str : IsiK K mg (.type "str") isB_str
  i_bytes : IsiK K mg (.type "bytes") isB_bytes
  x_ChecksError : Rai K mg "ChecksError"
  x_DataError : Rai K mg "DataError"
  ct_StatusError : Cat K mg (.ref (He.ga K "StatusError")) Lw.ct_StatusError
  e_TableError : IsE K mg (.ref (He.ga K "TableError")) isE_TableError
  e_ChecksError : IsE K mg (.ref (He.ga K "ChecksError")) isE_ChecksError
  e_RuleError : IsE K mg (.ref (He.ga K "RuleError")) isE_RuleError
  e_NumberError : IsE K mg (.ref (He.ga K "NumberError")) isE_NumberError
  e_LimitsError : IsE K mg (.ref (He.ga K "LimitsError")) isE_LimitsError
  e_StateError : IsE K mg (.ref (He.ga K "StateError")) isE_StateError
  e_SituationError : IsE K mg (.ref (He.ga K "SituationError")) isE_SituationError
  e_FractionError : IsE K mg (.ref (He.ga K "FractionError")) isE_FractionError
  e_RulesError : IsE K mg (.ref (He.ga K "RulesError")) isE_RulesError
  e_StatusesError : IsE K mg (.ref (He.ga K "StatusesError")) isE_StatusesError
  e_NamesError : IsE K mg (.ref (He.ga K "NamesError")) isE_NamesError
  e_SignsError : IsE K mg (.ref (He.ga K "SignsError")) isE_SignsError
  e_UnknownName : IsE K mg (.ref (He.ga K "UnknownName")) isE_UnknownName
  e_MonitorError : IsE K mg (.ref (He.ga K "MonitorError")) isE_MonitorError
  e_NothingToUndo : IsE K mg (.ref (He.ga K "NothingToUndo")) isE_NothingToUndo
  e_DataError : IsE K mg (.ref (He.ga K "DataError")) isE_DataError
  e_TooLarge : IsE K mg (.ref (He.ga K "TooLarge")) isE_TooLarge
  e_TextError : IsE K mg (.ref (He.ga K "TextError")) isE_TextError
  e_ValueError : IsE K mg (.type "ValueError") isE_ValueError
section
variable [TabL] {P : Program} {w : World} {K : PySem.W.Frag} {mg : Str → Option Value} {base : Heap}
theorem sc__law_said : FnScope ["_law_call", "_law_e"] ["_law_call"] (defScope st__law_said) := ⟨rfl, rfl, rfl, by decide +kernel, rfl, by decide +kernel, by decide +kernel⟩
abbrev N__law_pen : List Str := ["_law_cell"]
theorem sc__law_pen : FnScope N__law_pen ["_law_cell"] (defScope st__law_pen) := ⟨rfl, rfl, rfl, by decide +kernel, rfl, by decide +kernel, by decide +kernel⟩
theorem d__law_pen (Z : Tx K mg)  {f : Addr} {cdv : Value} {A : Around} {outer : List Env} {s0 : Shared} {H : Hp} {E : XK} (hr : Room 0 (A.deeper (envOfC "_law_pen" (defScope st__law_pen) s0.heap.objs.size f cdv))) (hgu : A.guards = some []) : JSs (cxOf (L2N.CX P w) P w K mg base N__law_pen "_law_pen" (defScope st__law_pen) f cdv A outer s0 H E) [] (WE0 E) (defBody st__law_pen) b__law_pen := by
  have hp : Pl (cxOf (L2N.CX P w) P w K mg base N__law_pen "_law_pen" (defScope st__law_pen) f cdv A outer s0 H E) 0 := ⟨hr, hgu⟩
  exact (js_one (js_retO (jo_lst (jl_cons (jv_callB (c_max (by rfl)) (by rfl) Z.f_max bt_max (jl_cons jv_int (jl_cons (jv_bin o_sub (jv_name 0 rfl (Or.inl rfl)) (jv_bin o_pow jv_int jv_int)) jl_nil)).ja) (jl_cons (jv_bin o_add (jv_bin o_mod (jv_callTy c_int (by rfl) Z.f_int bt_int (jl_cons (jv_name 0 rfl (Or.inl rfl)) jl_nil).ja) jv_int) jv_int) (jl_cons jv_int jl_nil))).ja)))
theorem ok__law_pen (Z : Tx K mg)  {f : Addr} {fd : FuncData} {kws : List (Str × V)} (G : FunD K "_law_pen" "_law_pen" (defArgs st__law_pen) (defBody st__law_pen) (defScope st__law_pen) [] kws f fd) : FnG P w K mg base 1 f fd ["_law_cell"] (spF0 K mg true 1 f__law_pen) :=
  fn0 (P := P) (w := w) (mg := mg) (base := base) (ro := true) (s := b__law_pen) (N := N__law_pen) (ps := ["_law_cell"]) rfl rfl G sc__law_pen fun cdv A outer s0 H E hr hgu => d__law_pen Z  hr hgu
abbrev N__law_cell_at : List Str := ["_law_script", "_law_k"]
theorem sc__law_cell_at : FnScope N__law_cell_at ["_law_script", "_law_k"] (defScope st__law_cell_at) := ⟨rfl, rfl, rfl, by decide +kernel, rfl, by decide +kernel, by decide +kernel⟩
theorem d__law_cell_at (Z : Tx K mg)  {f : Addr} {cdv : Value} {A : Around} {outer : List Env} {s0 : Shared} {H : Hp} {E : XK} (hr : Room 0 (A.deeper (envOfC "_law_cell_at" (defScope st__law_cell_at) s0.heap.objs.size f cdv))) (hgu : A.guards = some []) : JSs (cxOf (L2N.CX P w) P w K mg base N__law_cell_at "_law_cell_at" (defScope st__law_cell_at) f cdv A outer s0 H E) [] (WE0 E) (defBody st__law_cell_at) b__law_cell_at := by
  have hp : Pl (cxOf (L2N.CX P w) P w K mg base N__law_cell_at "_law_cell_at" (defScope st__law_cell_at) f cdv A outer s0 H E) 0 := ⟨hr, hgu⟩
  exact (js_cons (js_if (jt_cmp (p_lt hp) (jv_name 1 rfl (Or.inl rfl)) (jv_callV1 c_len (by rfl) Z.f_len bt_len (jv_name 0 rfl (Or.inl rfl)))) (js_one (js_ret (jv_ix (jv_name 0 rfl (Or.inl rfl)) (jv_name 1 rfl (Or.inl rfl))))) js_nil)
    (js_one (js_ret jv_int)))
theorem ok__law_cell_at (Z : Tx K mg)  {f : Addr} {fd : FuncData} {kws : List (Str × V)} (G : FunD K "_law_cell_at" "_law_cell_at" (defArgs st__law_cell_at) (defBody st__law_cell_at) (defScope st__law_cell_at) [] kws f fd) : FnG P w K mg base 1 f fd ["_law_script", "_law_k"] (spF0 K mg false 2 f__law_cell_at) :=
  fn0 (P := P) (w := w) (mg := mg) (base := base) (ro := false) (s := b__law_cell_at) (N := N__law_cell_at) (ps := ["_law_script", "_law_k"]) rfl rfl G sc__law_cell_at fun cdv A outer s0 H E hr hgu => d__law_cell_at Z  hr hgu
abbrev N_is_made_of : List Str := ["value", "signs", "sign"]
theorem sc_is_made_of : FnScope N_is_made_of ["value", "signs"] (defScope st_is_made_of) := ⟨rfl, rfl, rfl, by decide +kernel, rfl, by decide +kernel, by decide +kernel⟩
theorem d_is_made_of (Z : Tx K mg)  {f : Addr} {cdv : Value} {A : Around} {outer : List Env} {s0 : Shared} {H : Hp} {E : XK} (hr : Room 0 (A.deeper (envOfC "is_made_of" (defScope st_is_made_of) s0.heap.objs.size f cdv))) (hgu : A.guards = some []) : JSs (cxOf (L2N.CX P w) P w K mg base N_is_made_of "is_made_of" (defScope st_is_made_of) f cdv A outer s0 H E) [] (WE0 E) (defBody st_is_made_of) b_is_made_of := by
  have hp : Pl (cxOf (L2N.CX P w) P w K mg base N_is_made_of "is_made_of" (defScope st_is_made_of) f cdv A outer s0 H E) 0 := ⟨hr, hgu⟩
  exact (js_one (js_ret (jv_and (jv_isiB Z.i_str (by rfl) Z.f_isinstance (by rfl) Z.f_str bt_str (jv_name 0 rfl (Or.inl rfl))) (jv_one (jv_callV1 (c_all (by rfl)) (by rfl) Z.f_all bt_all (ofO (jo_lc [("sign", 2)] hp rfl sc_is_made_of.nd noPs_nil (blkOk_by (by rfl)) (ji_v (jv_name 0 rfl (Or.inl rfl))) (fun s1 H1 C1 cl1 fp1 hp => (jh_name noP_nil sc_is_made_of.nd rfl (Or.inl rfl) (by decide))) (fun s1 H1 C1 cl1 fp1 hp => jts_nil) (fun s1 H1 C1 cl1 fp1 hp => (jv_cmp (o_in hp) (jv_name 2 rfl (Or.inl rfl)) (jv_name 1 rfl (Or.inr (Or.inl rfl))))))))))))
theorem ok_is_made_of (Z : Tx K mg)  {f : Addr} {fd : FuncData} {kws : List (Str × V)} (G : FunD K "is_made_of" "is_made_of" (defArgs st_is_made_of) (defBody st_is_made_of) (defScope st_is_made_of) [] kws f fd) : FnG P w K mg base 1 f fd ["value", "signs"] (spF0 K mg false 2 f_is_made_of) :=
  fn0 (P := P) (w := w) (mg := mg) (base := base) (ro := false) (s := b_is_made_of) (N := N_is_made_of) (ps := ["value", "signs"]) rfl rfl G sc_is_made_of fun cdv A outer s0 H E hr hgu => d_is_made_of Z  hr hgu
abbrev N_check_checks : List Str := ["checks"]
theorem sc_check_checks : FnScope N_check_checks ["checks"] (defScope st_check_checks) := ⟨rfl, rfl, rfl, by decide +kernel, rfl, by decide +kernel, by decide +kernel⟩
theorem d_check_checks (Z : Tx K mg) (hF_is_made_of : FnC P w K mg base 1 "is_made_of" (spF0 K mg false 2 f_is_made_of) ["value", "signs"] []) {f : Addr} {cdv : Value} {A : Around} {outer : List Env} {s0 : Shared} {H : Hp} {E : XK} (hr : Room 1 (A.deeper (envOfC "check_checks" (defScope st_check_checks) s0.heap.objs.size f cdv))) (hgu : A.guards = some []) : JSs (cxOf (L2N.CX P w) P w K mg base N_check_checks "check_checks" (defScope st_check_checks) f cdv A outer s0 H E) [] (WE0 E) (defBody st_check_checks) b_check_checks := by
  have hp : Pl (cxOf (L2N.CX P w) P w K mg base N_check_checks "check_checks" (defScope st_check_checks) f cdv A outer s0 H E) 1 := ⟨hr, hgu⟩
  exact (js_one (js_if (ofW (jw_or (jt_not (jt_val (jv_c0 ⟨hF_is_made_of⟩ hp (L2N.takes_of rfl rfl rfl rfl) nodd (by rfl) (jl_cons (jv_name 0 rfl (Or.inl rfl)) (jl_cons (jv_bin o_add (jv_gS (by rfl) Z.c_PASS) (jv_gS (by rfl) Z.c_FAIL)) jl_nil))))) (jw_or1 (jt_cmp p_gt (jv_callV1 c_len (by rfl) Z.f_len bt_len (jv_name 0 rfl (Or.inl rfl))) (jv_gI (by rfl) Z.c_MOST_CHECKS))))) (js_one (js_raise rfl (L2N.takes_of rfl rfl rfl rfl) Z.x_ChecksError (by rfl))) js_nil))
theorem ok_check_checks (Z : Tx K mg) (hF_is_made_of : FnC P w K mg base 1 "is_made_of" (spF0 K mg false 2 f_is_made_of) ["value", "signs"] []) {f : Addr} {fd : FuncData} {kws : List (Str × V)} (G : FunD K "check_checks" "check_checks" (defArgs st_check_checks) (defBody st_check_checks) (defScope st_check_checks) [] kws f fd) : FnG P w K mg base 2 f fd ["checks"] (spF0 K mg false 1 f_check_checks) :=
  fn0 (P := P) (w := w) (mg := mg) (base := base) (ro := false) (s := b_check_checks) (N := N_check_checks) (ps := ["checks"]) rfl rfl G sc_check_checks fun cdv A outer s0 H E hr hgu => d_check_checks Z hF_is_made_of hr hgu
abbrev N_packed : List Str := ["checks", "numbers", "at", "bits", "check"]
theorem sc_packed : FnScope N_packed ["checks"] (defScope st_packed) := ⟨rfl, rfl, rfl, by decide +kernel, rfl, by decide +kernel, by decide +kernel⟩
theorem d_packed (Z : Tx K mg)  {f : Addr} {cdv : Value} {A : Around} {outer : List Env} {s0 : Shared} {H : Hp} {E : XK} (hr : Room 0 (A.deeper (envOfC "packed" (defScope st_packed) s0.heap.objs.size f cdv))) (hgu : A.guards = some []) : JSs (cxOf (L2N.CX P w) P w K mg base N_packed "packed" (defScope st_packed) f cdv A outer s0 H E) [] (WE0 E) (defBody st_packed) b_packed := by
  have hp : Pl (cxOf (L2N.CX P w) P w K mg base N_packed "packed" (defScope st_packed) f cdv A outer s0 H E) 0 := ⟨hr, hgu⟩
  exact (js_cons (js_setO noP_nil sc_packed.nd rfl (Or.inl rfl) (jo_lst (jl_cons (jv_callV1 c_len (by rfl) Z.f_len bt_len (jv_name 0 rfl (Or.inl rfl))) jl_nil).ja))
    (js_cons (js_for (passes_of rfl) rfl (ji_range3 (by rfl) Z.f_range (jl_cons jv_int (jl_cons (jv_callV1 c_len (by rfl) Z.f_len bt_len (jv_name 0 rfl (Or.inl rfl))) (jl_cons (jv_gI (by rfl) Z.c_BYTE) jl_nil))).ja) (jg_name noP_nil sc_packed.nd rfl (Or.inl rfl)) ne_name
    (js_cons (js_set noP_nil sc_packed.nd rfl (Or.inl rfl) jv_int)
    (js_cons (js_for (passes_of rfl) rfl (ji_v (jv_slice (jv_bin o_add (jv_slice (jv_name 0 rfl (Or.inl rfl)) (jp_some (jv_name 2 rfl (Or.inl rfl))) (jp_some (jv_bin o_add (jv_name 2 rfl (Or.inl rfl)) (jv_gI (by rfl) Z.c_BYTE)))) (jv_bin o_mulA (jv_gS (by rfl) Z.c_FAIL) (jv_gI (by rfl) Z.c_BYTE))) jp_none (jp_some (jv_gI (by rfl) Z.c_BYTE)))) (jg_name noP_nil sc_packed.nd rfl (Or.inl rfl)) ne_name
    (js_one (js_set noP_nil sc_packed.nd rfl (Or.inl rfl) (jv_bin o_add (jv_bin o_mul (jv_name 3 rfl (Or.inl rfl)) jv_int) (jv_callTy c_int (by rfl) Z.f_int bt_int (jl_cons (jv_cmp (o_eq hp.u64) (jv_name 4 rfl (Or.inl rfl)) (jv_gS (by rfl) Z.c_PASS)) jl_nil).ja)))))
    (js_one (js_append (i := 1) rfl (Or.inl rfl) (jv_name 3 rfl (Or.inl rfl)))))))
    (js_one (js_ret (jv_callTy1 (c_bytes (by rfl)) (by rfl) Z.f_bytes bt_bytes (jb_name 1 rfl (Or.inl rfl)))))))
theorem ok_packed (Z : Tx K mg)  {f : Addr} {fd : FuncData} {kws : List (Str × V)} (G : FunD K "packed" "packed" (defArgs st_packed) (defBody st_packed) (defScope st_packed) [] kws f fd) : FnG P w K mg base 1 f fd ["checks"] (spF0 K mg false 1 f_packed) :=
  fn0 (P := P) (w := w) (mg := mg) (base := base) (ro := false) (s := b_packed) (N := N_packed) (ps := ["checks"]) rfl rfl G sc_packed fun cdv A outer s0 H E hr hgu => d_packed Z  hr hgu
abbrev N_pack : List Str := ["checks"]
theorem sc_pack : FnScope N_pack ["checks"] (defScope st_pack) := ⟨rfl, rfl, rfl, by decide +kernel, rfl, by decide +kernel, by decide +kernel⟩
theorem d_pack (Z : Tx K mg) (hF_check_checks : FnC P w K mg base 2 "check_checks" (spF0 K mg false 1 f_check_checks) ["checks"] []) (hF_packed : FnC P w K mg base 1 "packed" (spF0 K mg false 1 f_packed) ["checks"] []) {f : Addr} {cdv : Value} {A : Around} {outer : List Env} {s0 : Shared} {H : Hp} {E : XK} (hr : Room 2 (A.deeper (envOfC "pack" (defScope st_pack) s0.heap.objs.size f cdv))) (hgu : A.guards = some []) : JSs (cxOf (L2N.CX P w) P w K mg base N_pack "pack" (defScope st_pack) f cdv A outer s0 H E) [] (WE0 E) (defBody st_pack) b_pack := by
  have hp : Pl (cxOf (L2N.CX P w) P w K mg base N_pack "pack" (defScope st_pack) f cdv A outer s0 H E) 2 := ⟨hr, hgu⟩
  exact (js_cons (js_expr (jv_c0 ⟨hF_check_checks⟩ hp (L2N.takes_of rfl rfl rfl rfl) nodd (by rfl) (jl_cons (jv_name 0 rfl (Or.inl rfl)) jl_nil)))
    (js_one (js_ret (jv_c0 ⟨hF_packed⟩ hp (L2N.takes_of rfl rfl rfl rfl) nodd (by rfl) (jl_cons (jv_name 0 rfl (Or.inl rfl)) jl_nil)))))
theorem ok_pack (Z : Tx K mg) (hF_check_checks : FnC P w K mg base 2 "check_checks" (spF0 K mg false 1 f_check_checks) ["checks"] []) (hF_packed : FnC P w K mg base 1 "packed" (spF0 K mg false 1 f_packed) ["checks"] []) {f : Addr} {fd : FuncData} {kws : List (Str × V)} (G : FunD K "pack" "pack" (defArgs st_pack) (defBody st_pack) (defScope st_pack) [] kws f fd) : FnG P w K mg base 3 f fd ["checks"] (spF0 K mg false 1 f_pack) :=
  fn0 (P := P) (w := w) (mg := mg) (base := base) (ro := false) (s := b_pack) (N := N_pack) (ps := ["checks"]) rfl rfl G sc_pack fun cdv A outer s0 H E hr hgu => d_pack Z hF_check_checks hF_packed hr hgu
abbrev N__law_draw : List Str := ["_law_pen_here", "_law_many", "_law_found", "_law_mixed"]
theorem sc__law_draw : FnScope N__law_draw ["_law_pen_here", "_law_many"] (defScope st__law_draw) := ⟨rfl, rfl, rfl, by decide +kernel, rfl, by decide +kernel, by decide +kernel⟩
theorem d__law_draw (Z : Tx K mg)  {f : Addr} {cdv : Value} {A : Around} {outer : List Env} {s0 : Shared} {H : Hp} {E : XK} {p : Addr} (hr : Room 0 (A.deeper (envOfC "_law_draw" (defScope st__law_draw) s0.heap.objs.size f cdv))) (hgu : A.guards = some []) : JSs (cxOf (L2N.CX P w) P w K mg base N__law_draw "_law_draw" (defScope st__law_draw) f cdv A outer s0 H E) [(0, p)] (WE0 E) (defBody st__law_draw) b__law_draw := by
  have hp : Pl (cxOf (L2N.CX P w) P w K mg base N__law_draw "_law_draw" (defScope st__law_draw) f cdv A outer s0 H E) 0 := ⟨hr, hgu⟩
  exact (js_cons (js_if (jt_cmp p_gt (jv_ixB (jb_name 0 rfl (Or.inl rfl)) jv_int) jv_int) (js_cons (js_set (noP_cons (by decide) noP_nil) sc__law_draw.nd rfl (Or.inl rfl) (jv_bin o_mod (jv_callTy c_int (by rfl) Z.f_int bt_int (jl_cons (jv_ixB (jb_name 0 rfl (Or.inl rfl)) jv_int) jl_nil).ja) (jv_name 1 rfl (Or.inl rfl))))
    (js_cons (js_putI rfl (Or.inl rfl) (jv_bin o_div (jv_ixB (jb_name 0 rfl (Or.inl rfl)) jv_int) (jv_name 1 rfl (Or.inl rfl))) jv_int)
    (js_one (js_ret (jv_name 2 rfl (Or.inl rfl)))))) js_nil)
    (js_cons (js_putI rfl (Or.inl rfl) (jv_bin o_add (jv_ixB (jb_name 0 rfl (Or.inl rfl)) jv_int) jv_int) jv_int)
    (js_cons (js_putI rfl (Or.inl rfl) (jv_bin o_mod (jv_callTy c_int (by rfl) Z.f_int bt_int (jl_cons (jv_bin o_add (jv_bin o_add (jv_bin o_mul (jv_ixB (jb_name 0 rfl (Or.inl rfl)) jv_int) jv_int) (jv_bin o_mul jv_int (jv_ixB (jb_name 0 rfl (Or.inl rfl)) jv_int))) jv_int) jl_nil).ja) jv_int) jv_int)
    (js_cons (js_set (noP_cons (by decide) noP_nil) sc__law_draw.nd rfl (Or.inl rfl) (jv_bin o_mod (jv_callTy c_int (by rfl) Z.f_int bt_int (jl_cons (jv_bin o_add (jv_bin o_add (jv_bin o_mul (jv_ixB (jb_name 0 rfl (Or.inl rfl)) jv_int) (jv_ixB (jb_name 0 rfl (Or.inl rfl)) jv_int)) (jv_bin o_mul jv_int (jv_ixB (jb_name 0 rfl (Or.inl rfl)) jv_int))) jv_int) jl_nil).ja) jv_int))
    (js_cons (js_set (noP_cons (by decide) noP_nil) sc__law_draw.nd rfl (Or.inl rfl) (jv_bin o_mod (jv_callTy c_int (by rfl) Z.f_int bt_int (jl_cons (jv_bin o_add (jv_bin o_mul (jv_name 3 rfl (Or.inl rfl)) (jv_name 3 rfl (Or.inl rfl))) (jv_bin o_mul jv_int (jv_name 3 rfl (Or.inl rfl)))) jl_nil).ja) jv_int))
    (js_one (js_ret (jv_bin o_mod (jv_callTy c_int (by rfl) Z.f_int bt_int (jl_cons (jv_bin o_div (jv_name 3 rfl (Or.inl rfl)) jv_int) jl_nil).ja) (jv_name 1 rfl (Or.inl rfl))))))))))
theorem ok__law_draw (Z : Tx K mg)  {f : Addr} {fd : FuncData} {kws : List (Str × V)} (G : FunD K "_law_draw" "_law_draw" (defArgs st__law_draw) (defBody st__law_draw) (defScope st__law_draw) [] kws f fd) : FnG P w K mg base 1 f fd ["_law_pen_here", "_law_many"] (spF1 K mg false 2 f__law_draw) :=
  fn1 (P := P) (w := w) (mg := mg) (base := base) (ro := false) (s := b__law_draw) (N := N__law_draw) (ps := ["_law_pen_here", "_law_many"]) rfl rfl G sc__law_draw fun cdv A outer s0 H E p hr hgu => d__law_draw Z  hr hgu
abbrev N__law_checks : List Str := ["_law_pen_here", "_law_most", "_law_size", "_law_way", "_law_found", "_law_k"]
theorem sc__law_checks : FnScope N__law_checks ["_law_pen_here", "_law_most"] (defScope st__law_checks) := ⟨rfl, rfl, rfl, by decide +kernel, rfl, by decide +kernel, by decide +kernel⟩
theorem d__law_checks (Z : Tx K mg) (hF__law_draw : FnC P w K mg base 1 "_law_draw" (spF1 K mg false 2 f__law_draw) ["_law_pen_here", "_law_many"] []) {f : Addr} {cdv : Value} {A : Around} {outer : List Env} {s0 : Shared} {H : Hp} {E : XK} {p : Addr} (hr : Room 1 (A.deeper (envOfC "_law_checks" (defScope st__law_checks) s0.heap.objs.size f cdv))) (hgu : A.guards = some []) : JSs (cxOf (L2N.CX P w) P w K mg base N__law_checks "_law_checks" (defScope st__law_checks) f cdv A outer s0 H E) [(0, p)] (WE0 E) (defBody st__law_checks) b__law_checks := by
  have hp : Pl (cxOf (L2N.CX P w) P w K mg base N__law_checks "_law_checks" (defScope st__law_checks) f cdv A outer s0 H E) 1 := ⟨hr, hgu⟩
  exact (js_cons (js_par3 (noP_cons (by decide) noP_nil) (noP_cons (by decide) noP_nil) (noP_cons (by decide) noP_nil) rfl sc__law_checks.nd rfl rfl rfl (by decide) (by decide) (by decide) rfl rfl rfl (jl_cons (jv_c1 0 ⟨hF__law_draw⟩ hp (L2N.takes_of rfl rfl rfl rfl) nodd (by rfl) (by rfl) (Or.inl rfl) (jl_cons (jv_bin o_add (jv_name 1 rfl (Or.inl rfl)) jv_int) jl_nil)) (jl_cons (jv_c1 0 ⟨hF__law_draw⟩ hp (L2N.takes_of rfl rfl rfl rfl) nodd (by rfl) (by rfl) (Or.inl rfl) (jl_cons jv_int jl_nil)) (jl_cons jv_str jl_nil))).ja)
    (js_cons (js_for (passes_of rfl) rfl (ji_range1 (by rfl) Z.f_range (jl_cons (jv_name 2 rfl (Or.inl rfl)) jl_nil).ja) (jg_name (noP_cons (by decide) noP_nil) sc__law_checks.nd rfl (Or.inl rfl)) ne_name
    (js_one (js_if (ofW (jw_and (jt_cmp p_gt (jv_name 3 rfl (Or.inl rfl)) jv_int) (jw_and (jt_cmp (o_ne hp.u64) (jv_name 4 rfl (Or.inl rfl)) jv_str) (jw_and1 (jt_cmp p_gt (jv_c1 0 ⟨hF__law_draw⟩ hp (L2N.takes_of rfl rfl rfl rfl) nodd (by rfl) (by rfl) (Or.inl rfl) (jl_cons (jv_bin o_add jv_int (jv_name 3 rfl (Or.inl rfl))) jl_nil)) jv_int))))) (js_one (js_set (noP_cons (by decide) noP_nil) sc__law_checks.nd rfl (Or.inl rfl) (jv_bin o_add (jv_name 4 rfl (Or.inl rfl)) (jv_ix (jv_name 4 rfl (Or.inl rfl)) (jv_neg jv_int))))) (js_one (js_set (noP_cons (by decide) noP_nil) sc__law_checks.nd rfl (Or.inl rfl) (jv_bin o_add (jv_name 4 rfl (Or.inl rfl)) (jv_ix jv_str (jv_c1 0 ⟨hF__law_draw⟩ hp (L2N.takes_of rfl rfl rfl rfl) nodd (by rfl) (by rfl) (Or.inl rfl) (jl_cons jv_int jl_nil)))))))))
    (js_one (js_ret (jv_name 4 rfl (Or.inl rfl))))))
theorem ok__law_checks (Z : Tx K mg) (hF__law_draw : FnC P w K mg base 1 "_law_draw" (spF1 K mg false 2 f__law_draw) ["_law_pen_here", "_law_many"] []) {f : Addr} {fd : FuncData} {kws : List (Str × V)} (G : FunD K "_law_checks" "_law_checks" (defArgs st__law_checks) (defBody st__law_checks) (defScope st__law_checks) [] kws f fd) : FnG P w K mg base 2 f fd ["_law_pen_here", "_law_most"] (spF1 K mg false 2 f__law_checks) :=
  fn1 (P := P) (w := w) (mg := mg) (base := base) (ro := false) (s := b__law_checks) (N := N__law_checks) (ps := ["_law_pen_here", "_law_most"]) rfl rfl G sc__law_checks fun cdv A outer s0 H E p hr hgu => d__law_checks Z hF__law_draw hr hgu
abbrev N__law_same : List Str := ["_law_found", "_law_due_here"]
theorem sc__law_same : FnScope N__law_same ["_law_found", "_law_due_here"] (defScope st__law_same) := ⟨rfl, rfl, rfl, by decide +kernel, rfl, by decide +kernel, by decide +kernel⟩
theorem d__law_same (Z : Tx K mg)  {f : Addr} {cdv : Value} {A : Around} {outer : List Env} {s0 : Shared} {H : Hp} {E : XK} (hr : Room 0 (A.deeper (envOfC "_law_same" (defScope st__law_same) s0.heap.objs.size f cdv))) (hgu : A.guards = some []) : JSs (cxOf (L2N.CX P w) P w K mg base N__law_same "_law_same" (defScope st__law_same) f cdv A outer s0 H E) [] (WE0 E) (defBody st__law_same) b__law_same := by
  have hp : Pl (cxOf (L2N.CX P w) P w K mg base N__law_same "_law_same" (defScope st__law_same) f cdv A outer s0 H E) 0 := ⟨hr, hgu⟩
  exact (js_one (js_ret (jv_cmp (o_eq hp.u64) (jv_callV1 (c_reprB hp.gu hp.u100) (by rfl) Z.f_repr bt_repr (jv_name 0 rfl (Or.inl rfl))) (jv_callV1 (c_reprB hp.gu hp.u100) (by rfl) Z.f_repr bt_repr (jv_name 1 rfl (Or.inl rfl))))))
theorem ok__law_same (Z : Tx K mg)  {f : Addr} {fd : FuncData} {kws : List (Str × V)} (G : FunD K "_law_same" "_law_same" (defArgs st__law_same) (defBody st__law_same) (defScope st__law_same) [] kws f fd) : FnG P w K mg base 1 f fd ["_law_found", "_law_due_here"] (spF0 K mg false 2 f__law_same) :=
  fn0 (P := P) (w := w) (mg := mg) (base := base) (ro := false) (s := b__law_same) (N := N__law_same) (ps := ["_law_found", "_law_due_here"]) rfl rfl G sc__law_same fun cdv A outer s0 H E hr hgu => d__law_same Z  hr hgu
abbrev N__law_kindE : List Str := ["_law_e", "_law_marks", "_law_words"]
theorem sc__law_kindE : FnScope N__law_kindE ["_law_e"] (defScope st__law_kindE) := ⟨rfl, rfl, rfl, by decide +kernel, rfl, by decide +kernel, by decide +kernel⟩
theorem d__law_kindE (Z : Tx K mg)  {f : Addr} {cdv : Value} {A : Around} {outer : List Env} {s0 : Shared} {H : Hp} {E : XK} {p : Addr × Obj} {ex : Ex} {cls : Value} {d : Option Addr} (hot : L2H.Hot1 A p) (hr : L2H.RoomH 0 (A.deeper (envOfC "_law_kind" (defScope st__law_kindE) s0.heap.objs.size f cdv))) (hz : L2N.Zn cls d p.2) (hfs : ∃ vs, p.2.data = .fields vs) (hm : mg ex.c = some cls) (hd : ex.fs = [] → d = none) : JSs (L2H.cxH (L2N.CX P w) P w K mg base N__law_kindE "_law_kind" (defScope st__law_kindE) f cdv A outer s0 H E p) [(0, p.1)] (WE0 E) (defBody st__law_kindE) (b__law_kindE ex) := by
  have hpn : p ∈ (L2H.cxH (L2N.CX P w) P w K mg base N__law_kindE "_law_kind" (defScope st__law_kindE) f cdv A outer s0 H E p).pn := List.mem_singleton.2 rfl
  have h64 : (L2H.cxH (L2N.CX P w) P w K mg base N__law_kindE "_law_kind" (defScope st__law_kindE) f cdv A outer s0 H E p).A.units + 64 < cLine := by have := hr.un; show (A.deeper _).units + 64 < _; omega
  exact (js_cons (js_set (noP_cons (by decide) noP_nil) sc__law_kindE.nd rfl (Or.inl rfl) (ofO (jo_lst (jl_cons (jv_isEH (c := .ref (He.ga K "TableError")) Z.e_TableError hz hfs hpn hm hd (fun u h => h) (pe_glob (v := .ref (He.ga K "TableError")) (by rfl) Z.k_TableError rfl (by decide)) (fun _ _ _ h => h) (by rfl) Z.f_isinstance rfl (Or.inl rfl)) (jl_cons (jv_isEH (c := .ref (He.ga K "ChecksError")) Z.e_ChecksError hz hfs hpn hm hd (fun u h => h) (pe_glob (v := .ref (He.ga K "ChecksError")) (by rfl) Z.k_ChecksError rfl (by decide)) (fun _ _ _ h => h) (by rfl) Z.f_isinstance rfl (Or.inl rfl)) (jl_cons (jv_isEH (c := .ref (He.ga K "RuleError")) Z.e_RuleError hz hfs hpn hm hd (fun u h => h) (pe_glob (v := .ref (He.ga K "RuleError")) (by rfl) Z.k_RuleError rfl (by decide)) (fun _ _ _ h => h) (by rfl) Z.f_isinstance rfl (Or.inl rfl)) jl_nil))).ja)))
    (js_cons (js_set (noP_cons (by decide) noP_nil) sc__law_kindE.nd rfl (Or.inl rfl) (jv_bin o_add (jv_name 1 rfl (Or.inl rfl)) (ofO (jo_lst (jl_cons (jv_isEH (c := .ref (He.ga K "NumberError")) Z.e_NumberError hz hfs hpn hm hd (fun u h => h) (pe_glob (v := .ref (He.ga K "NumberError")) (by rfl) Z.k_NumberError rfl (by decide)) (fun _ _ _ h => h) (by rfl) Z.f_isinstance rfl (Or.inl rfl)) jl_nil).ja))))
    (js_cons (js_set (noP_cons (by decide) noP_nil) sc__law_kindE.nd rfl (Or.inl rfl) (jv_bin o_add (jv_name 1 rfl (Or.inl rfl)) (ofO (jo_lst (jl_cons (jv_isEH (c := .ref (He.ga K "LimitsError")) Z.e_LimitsError hz hfs hpn hm hd (fun u h => h) (pe_glob (v := .ref (He.ga K "LimitsError")) (by rfl) Z.k_LimitsError rfl (by decide)) (fun _ _ _ h => h) (by rfl) Z.f_isinstance rfl (Or.inl rfl)) (jl_cons (jv_isEH (c := .ref (He.ga K "StateError")) Z.e_StateError hz hfs hpn hm hd (fun u h => h) (pe_glob (v := .ref (He.ga K "StateError")) (by rfl) Z.k_StateError rfl (by decide)) (fun _ _ _ h => h) (by rfl) Z.f_isinstance rfl (Or.inl rfl)) (jl_cons (jv_isEH (c := .ref (He.ga K "SituationError")) Z.e_SituationError hz hfs hpn hm hd (fun u h => h) (pe_glob (v := .ref (He.ga K "SituationError")) (by rfl) Z.k_SituationError rfl (by decide)) (fun _ _ _ h => h) (by rfl) Z.f_isinstance rfl (Or.inl rfl)) jl_nil))).ja))))
    (js_cons (js_set (noP_cons (by decide) noP_nil) sc__law_kindE.nd rfl (Or.inl rfl) (jv_bin o_add (jv_name 1 rfl (Or.inl rfl)) (ofO (jo_lst (jl_cons (jv_isEH (c := .ref (He.ga K "FractionError")) Z.e_FractionError hz hfs hpn hm hd (fun u h => h) (pe_glob (v := .ref (He.ga K "FractionError")) (by rfl) Z.k_FractionError rfl (by decide)) (fun _ _ _ h => h) (by rfl) Z.f_isinstance rfl (Or.inl rfl)) (jl_cons (jv_isEH (c := .ref (He.ga K "RulesError")) Z.e_RulesError hz hfs hpn hm hd (fun u h => h) (pe_glob (v := .ref (He.ga K "RulesError")) (by rfl) Z.k_RulesError rfl (by decide)) (fun _ _ _ h => h) (by rfl) Z.f_isinstance rfl (Or.inl rfl)) (jl_cons (jv_isEH (c := .ref (He.ga K "StatusesError")) Z.e_StatusesError hz hfs hpn hm hd (fun u h => h) (pe_glob (v := .ref (He.ga K "StatusesError")) (by rfl) Z.k_StatusesError rfl (by decide)) (fun _ _ _ h => h) (by rfl) Z.f_isinstance rfl (Or.inl rfl)) jl_nil))).ja))))
    (js_cons (js_set (noP_cons (by decide) noP_nil) sc__law_kindE.nd rfl (Or.inl rfl) (jv_bin o_add (jv_name 1 rfl (Or.inl rfl)) (ofO (jo_lst (jl_cons (jv_isEH (c := .ref (He.ga K "NamesError")) Z.e_NamesError hz hfs hpn hm hd (fun u h => h) (pe_glob (v := .ref (He.ga K "NamesError")) (by rfl) Z.k_NamesError rfl (by decide)) (fun _ _ _ h => h) (by rfl) Z.f_isinstance rfl (Or.inl rfl)) (jl_cons (jv_isEH (c := .ref (He.ga K "SignsError")) Z.e_SignsError hz hfs hpn hm hd (fun u h => h) (pe_glob (v := .ref (He.ga K "SignsError")) (by rfl) Z.k_SignsError rfl (by decide)) (fun _ _ _ h => h) (by rfl) Z.f_isinstance rfl (Or.inl rfl)) (jl_cons (jv_isEH (c := .ref (He.ga K "UnknownName")) Z.e_UnknownName hz hfs hpn hm hd (fun u h => h) (pe_glob (v := .ref (He.ga K "UnknownName")) (by rfl) Z.k_UnknownName rfl (by decide)) (fun _ _ _ h => h) (by rfl) Z.f_isinstance rfl (Or.inl rfl)) jl_nil))).ja))))
    (js_cons (js_set (noP_cons (by decide) noP_nil) sc__law_kindE.nd rfl (Or.inl rfl) (jv_bin o_add (jv_name 1 rfl (Or.inl rfl)) (ofO (jo_lst (jl_cons (jv_isEH (c := .ref (He.ga K "MonitorError")) Z.e_MonitorError hz hfs hpn hm hd (fun u h => h) (pe_glob (v := .ref (He.ga K "MonitorError")) (by rfl) Z.k_MonitorError rfl (by decide)) (fun _ _ _ h => h) (by rfl) Z.f_isinstance rfl (Or.inl rfl)) (jl_cons (jv_isEH (c := .ref (He.ga K "NothingToUndo")) Z.e_NothingToUndo hz hfs hpn hm hd (fun u h => h) (pe_glob (v := .ref (He.ga K "NothingToUndo")) (by rfl) Z.k_NothingToUndo rfl (by decide)) (fun _ _ _ h => h) (by rfl) Z.f_isinstance rfl (Or.inl rfl)) (jl_cons (jv_isEH (c := .ref (He.ga K "DataError")) Z.e_DataError hz hfs hpn hm hd (fun u h => h) (pe_glob (v := .ref (He.ga K "DataError")) (by rfl) Z.k_DataError rfl (by decide)) (fun _ _ _ h => h) (by rfl) Z.f_isinstance rfl (Or.inl rfl)) jl_nil))).ja))))
    (js_cons (js_set (noP_cons (by decide) noP_nil) sc__law_kindE.nd rfl (Or.inl rfl) (jv_bin o_add (jv_name 1 rfl (Or.inl rfl)) (ofO (jo_lst (jl_cons (jv_isEH (c := .ref (He.ga K "TooLarge")) Z.e_TooLarge hz hfs hpn hm hd (fun u h => h) (pe_glob (v := .ref (He.ga K "TooLarge")) (by rfl) Z.k_TooLarge rfl (by decide)) (fun _ _ _ h => h) (by rfl) Z.f_isinstance rfl (Or.inl rfl)) (jl_cons (jv_isEH (c := .ref (He.ga K "TextError")) Z.e_TextError hz hfs hpn hm hd (fun u h => h) (pe_glob (v := .ref (He.ga K "TextError")) (by rfl) Z.k_TextError rfl (by decide)) (fun _ _ _ h => h) (by rfl) Z.f_isinstance rfl (Or.inl rfl)) jl_nil)).ja))))
    (js_cons (js_set (noP_cons (by decide) noP_nil) sc__law_kindE.nd rfl (Or.inl rfl) (ofO (jo_lst (jl_cons jv_str (jl_cons jv_str (jl_cons jv_str (jl_cons jv_str (jl_cons jv_str (jl_cons jv_str (jl_cons jv_str (jl_cons jv_str (jl_cons jv_str (jl_cons jv_str jl_nil)))))))))).ja)))
    (js_cons (js_set (noP_cons (by decide) noP_nil) sc__law_kindE.nd rfl (Or.inl rfl) (jv_bin o_add (jv_name 2 rfl (Or.inl rfl)) (ofO (jo_lst (jl_cons jv_str (jl_cons jv_str (jl_cons jv_str (jl_cons jv_str (jl_cons jv_str (jl_cons jv_str (jl_cons jv_str (jl_cons jv_str jl_nil)))))))).ja))))
    (js_cons (js_if (ofW (jw_or (jt_cmp (o_ne h64) (jv_ml PySem.F.slot_list_count PySem.F.type_list_count m_cnt (ofV (jv_name 1 rfl (Or.inl rfl))) jv_bl) jv_int) (jw_or1 (jt_not (jt_val (jv_isEH (c := .ty "ValueError") Z.e_ValueError hz hfs hpn hm hd (fun u h => h) (pe_bltn (v := .ty "ValueError") (by rfl) Z.f_ValueError bt_ValueError rfl (by decide) (by decide)) (fun _ _ _ h => h) (by rfl) Z.f_isinstance rfl (Or.inl rfl))))))) (js_one (js_ret jv_str)) js_nil)
    (js_one (js_ret (jv_ix (jv_name 2 rfl (Or.inl rfl)) (jv_ml PySem.F.slot_list_index PySem.F.type_list_index m_idx (ofV (jv_name 1 rfl (Or.inl rfl))) jv_bl))))))))))))))
theorem ok__law_kindE (Z : Tx K mg)  {f : Addr} {fd : FuncData} {kws : List (Str × V)} (G : FunD K "_law_kind" "_law_kind" (defArgs st__law_kindE) (defBody st__law_kindE) (defScope st__law_kindE) [] kws f fd) : FnE P w K mg base 1 f fd ["_law_e"] g__law_kindE :=
  fnE_of (P := P) (w := w) (mg := mg) (base := base) (su := b__law_kindE) (N := N__law_kindE) rfl (by decide) G sc__law_kindE fun cdv A outer s0 H E p ex cls d hot hr hz hfs hm hd => d__law_kindE Z  hot hr hz hfs hm hd
abbrev N_unpack : List Str := ["value", "found", "number", "at", "checks"]
theorem sc_unpack : FnScope N_unpack ["value"] (defScope st_unpack) := ⟨rfl, rfl, rfl, by decide +kernel, rfl, by decide +kernel, by decide +kernel⟩
theorem d_unpack (Z : Tx K mg) (hF_packed : FnC P w K mg base 1 "packed" (spF0 K mg false 1 f_packed) ["checks"] []) {f : Addr} {cdv : Value} {A : Around} {outer : List Env} {s0 : Shared} {H : Hp} {E : XK} (hr : Room 1 (A.deeper (envOfC "unpack" (defScope st_unpack) s0.heap.objs.size f cdv))) (hgu : A.guards = some []) : JSs (cxOf (L2N.CX P w) P w K mg base N_unpack "unpack" (defScope st_unpack) f cdv A outer s0 H E) [] (WE0 E) (defBody st_unpack) b_unpack := by
  have hp : Pl (cxOf (L2N.CX P w) P w K mg base N_unpack "unpack" (defScope st_unpack) f cdv A outer s0 H E) 1 := ⟨hr, hgu⟩
  exact (js_cons (js_if (ofW (jw_or (jt_not (jt_val (jv_isiB Z.i_bytes (by rfl) Z.f_isinstance (by rfl) Z.f_bytes bt_bytes (jv_name 0 rfl (Or.inl rfl))))) (jw_or (jt_cmp (o_eq hp.u64) (jv_callV1 c_len (by rfl) Z.f_len bt_len (jv_name 0 rfl (Or.inl rfl))) jv_int) (jw_or1 (jt_cmp p_gt (jv_ixY (jv_name 0 rfl (Or.inl rfl)) jv_int) (jv_gI (by rfl) Z.c_MOST_CHECKS)))))) (js_one (js_raise rfl (L2N.takes_of rfl rfl rfl rfl) Z.x_DataError (by rfl))) js_nil)
    (js_cons (js_set noP_nil sc_unpack.nd rfl (Or.inl rfl) jv_str)
    (js_cons (js_for (passes_of rfl) rfl (ji_byt (jv_sliceY (jv_name 0 rfl (Or.inl rfl)) (jp_some jv_int) jp_none)) (jg_name noP_nil sc_unpack.nd rfl (Or.inl rfl)) ne_name
    (js_one (js_for (passes_of rfl) rfl (ji_revr (by rfl) Z.f_range (by rfl) Z.f_reversed (jv_gI (by rfl) Z.c_BYTE)) (jg_name noP_nil sc_unpack.nd rfl (Or.inl rfl)) ne_name
    (js_one (js_augS noP_nil sc_unpack.nd rfl (Or.inl rfl) (jv_if (jt_cmp (o_eq hp.u64) (jv_bin o_andI (jv_bin o_shr (jv_name 2 rfl (Or.inl rfl)) (jv_name 3 rfl (Or.inl rfl))) jv_int) jv_int) (jv_gS (by rfl) Z.c_PASS) (jv_gS (by rfl) Z.c_FAIL)))))))
    (js_cons (js_set noP_nil sc_unpack.nd rfl (Or.inl rfl) (jv_slice (jv_name 1 rfl (Or.inl rfl)) jp_none (jp_some (jv_ixY (jv_name 0 rfl (Or.inl rfl)) jv_int))))
    (js_cons (js_if (jt_cmp (o_ne hp.u64) (jv_c0 ⟨hF_packed⟩ hp (L2N.takes_of rfl rfl rfl rfl) nodd (by rfl) (jl_cons (jv_name 4 rfl (Or.inl rfl)) jl_nil)) (jv_name 0 rfl (Or.inl rfl))) (js_one (js_raise rfl (L2N.takes_of rfl rfl rfl rfl) Z.x_DataError (by rfl))) js_nil)
    (js_one (js_ret (jv_name 4 rfl (Or.inl rfl)))))))))
theorem ok_unpack (Z : Tx K mg) (hF_packed : FnC P w K mg base 1 "packed" (spF0 K mg false 1 f_packed) ["checks"] []) {f : Addr} {fd : FuncData} {kws : List (Str × V)} (G : FunD K "unpack" "unpack" (defArgs st_unpack) (defBody st_unpack) (defScope st_unpack) [] kws f fd) : FnG P w K mg base 2 f fd ["value"] (spF0 K mg false 1 f_unpack) :=
  fn0 (P := P) (w := w) (mg := mg) (base := base) (ro := false) (s := b_unpack) (N := N_unpack) (ps := ["value"]) rfl rfl G sc_unpack fun cdv A outer s0 H E hr hgu => d_unpack Z hF_packed hr hgu
abbrev N__law_due : List Str := ["_law_numbers", "_law_found", "_law_number", "_law_signs", "_law_left", "_law_turn"]
theorem sc__law_due : FnScope N__law_due ["_law_numbers"] (defScope st__law_due) := ⟨rfl, rfl, rfl, by decide +kernel, rfl, by decide +kernel, by decide +kernel⟩
theorem d__law_due (Z : Tx K mg)  {f : Addr} {cdv : Value} {A : Around} {outer : List Env} {s0 : Shared} {H : Hp} {E : XK} (hr : Room 0 (A.deeper (envOfC "_law_due" (defScope st__law_due) s0.heap.objs.size f cdv))) (hgu : A.guards = some []) : JSs (cxOf (L2N.CX P w) P w K mg base N__law_due "_law_due" (defScope st__law_due) f cdv A outer s0 H E) [] (WE0 E) (defBody st__law_due) b__law_due := by
  have hp : Pl (cxOf (L2N.CX P w) P w K mg base N__law_due "_law_due" (defScope st__law_due) f cdv A outer s0 H E) 0 := ⟨hr, hgu⟩
  exact (js_cons (js_if (ofW (jw_or (jt_cmp (o_eq hp.u64) (jv_name 0 rfl (Or.inl rfl)) (ofO (jo_lst jl_nil.ja))) (jw_or (jt_cmp p_gt (jv_ix (jv_name 0 rfl (Or.inl rfl)) jv_int) jv_int) (jw_or1 (jt_cmp (o_ne hp.u64) (jv_callV1 c_len (by rfl) Z.f_len bt_len (jv_name 0 rfl (Or.inl rfl))) (jv_bin o_add jv_int (jv_bin o_div (jv_bin o_add (jv_ix (jv_name 0 rfl (Or.inl rfl)) jv_int) jv_int) jv_int))))))) (js_one (js_ret (jv_tup (jl_cons jv_str jl_nil).ja))) js_nil)
    (js_cons (js_set noP_nil sc__law_due.nd rfl (Or.inl rfl) jv_str)
    (js_cons (js_for (passes_of rfl) rfl (ji_v (jv_slice (jv_name 0 rfl (Or.inl rfl)) (jp_some jv_int) jp_none)) (jg_name noP_nil sc__law_due.nd rfl (Or.inl rfl)) ne_name
    (js_cons (js_par noP_nil noP_nil rfl sc__law_due.nd rfl rfl (by decide) rfl rfl (jl_cons jv_str (jl_cons (jv_name 2 rfl (Or.inl rfl)) jl_nil)).ja)
    (js_cons (js_for (passes_of rfl) rfl (ji_range1 (by rfl) Z.f_range (jl_cons jv_int jl_nil).ja) (jg_name noP_nil sc__law_due.nd rfl (Or.inl rfl)) ne_name
    (js_cons (js_set noP_nil sc__law_due.nd rfl (Or.inl rfl) (jv_bin o_add (jv_ix jv_str (jv_bin o_mod (jv_callTy c_int (by rfl) Z.f_int bt_int (jl_cons (jv_name 4 rfl (Or.inl rfl)) jl_nil).ja) jv_int)) (jv_name 3 rfl (Or.inl rfl))))
    (js_one (js_set noP_nil sc__law_due.nd rfl (Or.inl rfl) (jv_bin o_div (jv_name 4 rfl (Or.inl rfl)) jv_int)))))
    (js_one (js_set noP_nil sc__law_due.nd rfl (Or.inl rfl) (jv_bin o_add (jv_name 1 rfl (Or.inl rfl)) (jv_name 3 rfl (Or.inl rfl))))))))
    (js_cons (js_if (jt_cmp (o_in hp) jv_str (jv_slice (jv_name 1 rfl (Or.inl rfl)) (jp_some (jv_ix (jv_name 0 rfl (Or.inl rfl)) jv_int)) jp_none)) (js_one (js_ret (jv_tup (jl_cons jv_str jl_nil).ja))) js_nil)
    (js_one (js_ret (jv_tup (jl_cons jv_str (jl_cons (jv_slice (jv_name 1 rfl (Or.inl rfl)) jp_none (jp_some (jv_ix (jv_name 0 rfl (Or.inl rfl)) jv_int))) jl_nil)).ja)))))))
theorem ok__law_due (Z : Tx K mg)  {f : Addr} {fd : FuncData} {kws : List (Str × V)} (G : FunD K "_law_due" "_law_due" (defArgs st__law_due) (defBody st__law_due) (defScope st__law_due) [] kws f fd) : FnG P w K mg base 1 f fd ["_law_numbers"] (spF0 K mg false 1 f__law_due) :=
  fn0 (P := P) (w := w) (mg := mg) (base := base) (ro := false) (s := b__law_due) (N := N__law_due) (ps := ["_law_numbers"]) rfl rfl G sc__law_due fun cdv A outer s0 H E hr hgu => d__law_due Z  hr hgu
abbrev N__law_pick : List Str := ["_law_pen_here", "_law_values"]
theorem sc__law_pick : FnScope N__law_pick ["_law_pen_here", "_law_values"] (defScope st__law_pick) := ⟨rfl, rfl, rfl, by decide +kernel, rfl, by decide +kernel, by decide +kernel⟩
theorem d__law_pick (Z : Tx K mg) (hF__law_draw : FnC P w K mg base 1 "_law_draw" (spF1 K mg false 2 f__law_draw) ["_law_pen_here", "_law_many"] []) {f : Addr} {cdv : Value} {A : Around} {outer : List Env} {s0 : Shared} {H : Hp} {E : XK} {p : Addr} (hr : Room 1 (A.deeper (envOfC "_law_pick" (defScope st__law_pick) s0.heap.objs.size f cdv))) (hgu : A.guards = some []) : JSs (cxOf (L2N.CX P w) P w K mg base N__law_pick "_law_pick" (defScope st__law_pick) f cdv A outer s0 H E) [(0, p)] (WE0 E) (defBody st__law_pick) b__law_pick := by
  have hp : Pl (cxOf (L2N.CX P w) P w K mg base N__law_pick "_law_pick" (defScope st__law_pick) f cdv A outer s0 H E) 1 := ⟨hr, hgu⟩
  exact (js_one (js_ret (jv_ix (jv_name 1 rfl (Or.inl rfl)) (jv_c1 0 ⟨hF__law_draw⟩ hp (L2N.takes_of rfl rfl rfl rfl) nodd (by rfl) (by rfl) (Or.inl rfl) (jl_cons (jv_callV1 c_len (by rfl) Z.f_len bt_len (jv_name 1 rfl (Or.inl rfl))) jl_nil)))))
theorem ok__law_pick (Z : Tx K mg) (hF__law_draw : FnC P w K mg base 1 "_law_draw" (spF1 K mg false 2 f__law_draw) ["_law_pen_here", "_law_many"] []) {f : Addr} {fd : FuncData} {kws : List (Str × V)} (G : FunD K "_law_pick" "_law_pick" (defArgs st__law_pick) (defBody st__law_pick) (defScope st__law_pick) [] kws f fd) : FnG P w K mg base 2 f fd ["_law_pen_here", "_law_values"] (spF1 K mg false 2 f__law_pick) :=
  fn1 (P := P) (w := w) (mg := mg) (base := base) (ro := false) (s := b__law_pick) (N := N__law_pick) (ps := ["_law_pen_here", "_law_values"]) rfl rfl G sc__law_pick fun cdv A outer s0 H E p hr hgu => d__law_pick Z hF__law_draw hr hgu
abbrev N__law_odd : List Str := ["_law_pen_here", "_law_some"]
theorem sc__law_odd : FnScope N__law_odd ["_law_pen_here"] (defScope st__law_odd) := ⟨rfl, rfl, rfl, by decide +kernel, rfl, by decide +kernel, by decide +kernel⟩
theorem d__law_odd (Z : Tx K mg) (hF__law_pick : FnC P w K mg base 2 "_law_pick" (spF1 K mg false 2 f__law_pick) ["_law_pen_here", "_law_values"] []) {f : Addr} {cdv : Value} {A : Around} {outer : List Env} {s0 : Shared} {H : Hp} {E : XK} {p : Addr} (hr : Room 2 (A.deeper (envOfC "_law_odd" (defScope st__law_odd) s0.heap.objs.size f cdv))) (hgu : A.guards = some []) : JSs (cxOf (L2N.CX P w) P w K mg base N__law_odd "_law_odd" (defScope st__law_odd) f cdv A outer s0 H E) [(0, p)] (WE0 E) (defBody st__law_odd) b__law_odd := by
  have hp : Pl (cxOf (L2N.CX P w) P w K mg base N__law_odd "_law_odd" (defScope st__law_odd) f cdv A outer s0 H E) 2 := ⟨hr, hgu⟩
  exact (js_cons (js_set (noP_cons (by decide) noP_nil) sc__law_odd.nd rfl (Or.inl rfl) (ofO (jo_lst (jl_cons jv_non (jl_cons jv_bl (jl_cons jv_bl (jl_cons (jv_neg jv_int) (jl_cons jv_int (jl_cons jv_int (jl_cons jv_int (jl_cons jv_int (jl_cons (jv_bin o_pow jv_int jv_int) (jl_cons jv_str (jl_cons jv_str (jl_cons jv_str (jl_cons jv_str (jl_cons jv_str (jl_cons jv_str (jl_cons jv_str (jl_cons (jv_tup jl_nil.ja) (jl_cons (ofO (jo_lst jl_nil.ja)) (jl_cons (ofO jo_dnewK) (jl_cons (jv_tup (jl_cons jv_int jl_nil).ja) (jl_cons (ofO (jo_lst (jl_cons jv_int jl_nil).ja)) jl_nil))))))))))))))))))))).ja)))
    (js_cons (js_set (noP_cons (by decide) noP_nil) sc__law_odd.nd rfl (Or.inl rfl) (jv_bin o_add (jv_name 1 rfl (Or.inl rfl)) (ofO (jo_lst (jl_cons (ofO (jo_disp (jps_cons jv_int jv_int jps_nil))) (jl_cons (jv_tup (jl_cons jv_str (jl_cons jv_int (jl_cons jv_int jl_nil))).ja) (jl_cons (jv_tup (jl_cons (jv_tup (jl_cons jv_str (jl_cons jv_int (jl_cons jv_int jl_nil))).ja) jl_nil).ja) (jl_cons (ofO (jo_lst (jl_cons (jv_tup (jl_cons jv_str (jl_cons jv_int (jl_cons jv_int jl_nil))).ja) jl_nil).ja)) (jl_cons (jv_tup (jl_cons jv_str (jl_cons jv_str jl_nil)).ja) (jl_cons (jv_tup (jl_cons jv_str (jl_cons jv_str jl_nil)).ja) (jl_cons jv_str (jl_cons (jv_tup (jl_cons jv_non jl_nil).ja) (jl_cons jv_str jl_nil))))))))).ja))))
    (js_one (js_ret (jv_c1 0 ⟨hF__law_pick⟩ hp (L2N.takes_of rfl rfl rfl rfl) nodd (by rfl) (by rfl) (Or.inl rfl) (jl_cons (jv_name 1 rfl (Or.inl rfl)) jl_nil))))))
theorem ok__law_odd (Z : Tx K mg) (hF__law_pick : FnC P w K mg base 2 "_law_pick" (spF1 K mg false 2 f__law_pick) ["_law_pen_here", "_law_values"] []) {f : Addr} {fd : FuncData} {kws : List (Str × V)} (G : FunD K "_law_odd" "_law_odd" (defArgs st__law_odd) (defBody st__law_odd) (defScope st__law_odd) [] kws f fd) : FnG P w K mg base 3 f fd ["_law_pen_here"] (spF1 K mg false 1 f__law_odd) :=
  fn1 (P := P) (w := w) (mg := mg) (base := base) (ro := false) (s := b__law_odd) (N := N__law_odd) (ps := ["_law_pen_here"]) rfl rfl G sc__law_odd fun cdv A outer s0 H E p hr hgu => d__law_odd Z hF__law_pick hr hgu
abbrev N_law : List Str := ["_law_script", "_law_k", "_law_pen_here", "_law_turn", "_law_one", "_law_other", "_law_at", "_law_some", "_law_data", "_law_bad", "_law_number"]
theorem sc_law : FnScope N_law ["_law_script"] (defScope st_law) := ⟨rfl, rfl, rfl, by decide +kernel, rfl, by decide +kernel, by decide +kernel⟩
theorem d_law (Z : Tx K mg) (hF__law_pen : FnC P w K mg base 1 "_law_pen" (spF0 K mg true 1 f__law_pen) ["_law_cell"] []) (hF__law_cell_at : FnC P w K mg base 1 "_law_cell_at" (spF0 K mg false 2 f__law_cell_at) ["_law_script", "_law_k"] []) (hF_pack : FnC P w K mg base 3 "pack" (spF0 K mg false 1 f_pack) ["checks"] []) (hF__law_checks : FnC P w K mg base 2 "_law_checks" (spF1 K mg false 2 f__law_checks) ["_law_pen_here", "_law_most"] []) (hF__law_draw : FnC P w K mg base 1 "_law_draw" (spF1 K mg false 2 f__law_draw) ["_law_pen_here", "_law_many"] []) (hF__law_same : FnC P w K mg base 1 "_law_same" (spF0 K mg false 2 f__law_same) ["_law_found", "_law_due_here"] []) (hT__law_said : TxtC K mg "_law_said" ["_law_call"] (defArgs st__law_said) (defBody st__law_said) (defScope st__law_said)) (hE__law_kindE : FnEC P w K mg base 1 "_law_kind" ["_law_e"] g__law_kindE) (hF_unpack : FnC P w K mg base 2 "unpack" (spF0 K mg false 1 f_unpack) ["value"] []) (hF__law_due : FnC P w K mg base 1 "_law_due" (spF0 K mg false 1 f__law_due) ["_law_numbers"] []) (hF__law_odd : FnC P w K mg base 3 "_law_odd" (spF1 K mg false 1 f__law_odd) ["_law_pen_here"] []) {f : Addr} (hLam : LamOk K mg base f (("law" ++ ".<locals>.") ++ "<lambda>")) {A : Around} {outer : List Env} {s0 : Shared} {H : Hp} {E : XK} (hr : Room 4 (A.deeper (envOfC "law" (defScope st_law) s0.heap.objs.size f (.ref (cTz K f).1)))) (hgu : A.guards = some []) : JSs (cxOf (L2N.CX P w) P w K mg base N_law "law" (defScope st_law) f (.ref (cTz K f).1) A outer s0 H E) [] (WE0 E) (defBody st_law) b_law := by
  have hp : Pl (cxOf (L2N.CX P w) P w K mg base N_law "law" (defScope st_law) f (.ref (cTz K f).1) A outer s0 H E) 4 := ⟨hr, hgu⟩
  exact (js_cons (js_for (passes_of rfl) rfl (ji_range1 (by rfl) Z.f_range (jl_cons (jv_callB (c_max (by rfl)) (by rfl) Z.f_max bt_max (jl_cons jv_int (jl_cons (jv_callB (c_min (by rfl)) (by rfl) Z.f_min bt_min (jl_cons (jv_callV1 c_len (by rfl) Z.f_len bt_len (jv_name 0 rfl (Or.inl rfl))) (jl_cons jv_int jl_nil)).ja) jl_nil)).ja) jl_nil).ja) (jg_name noP_nil sc_law.nd rfl (Or.inl rfl)) ne_name
    (js_cons (js_setO noP_nil sc_law.nd rfl (Or.inl rfl) (jo_c0 ⟨hF__law_pen⟩ hp (L2N.takes_of rfl rfl rfl rfl) nodd (by rfl) (jl_cons (jv_c0 ⟨hF__law_cell_at⟩ hp (L2N.takes_of rfl rfl rfl rfl) nodd (by rfl) (jl_cons (jv_name 0 rfl (Or.inl rfl)) (jl_cons (jv_name 1 rfl (Or.inl rfl)) jl_nil))) jl_nil)))
    (js_cons (js_for (passes_of rfl) rfl (ji_range1 (by rfl) Z.f_range (jl_cons jv_int jl_nil).ja) (jg_name noP_nil sc_law.nd rfl (Or.inl rfl)) ne_name
    (js_cons (js_par noP_nil noP_nil rfl sc_law.nd rfl rfl (by decide) rfl rfl (jl_cons (jv_c0 ⟨hF_pack⟩ hp (L2N.takes_of rfl rfl rfl rfl) nodd (by rfl) (jl_cons (jv_c1 2 ⟨hF__law_checks⟩ hp (L2N.takes_of rfl rfl rfl rfl) nodd (by rfl) (by rfl) (Or.inl rfl) (jl_cons jv_int jl_nil)) jl_nil)) (jl_cons (jv_c0 ⟨hF_pack⟩ hp (L2N.takes_of rfl rfl rfl rfl) nodd (by rfl) (jl_cons (jv_c1 2 ⟨hF__law_checks⟩ hp (L2N.takes_of rfl rfl rfl rfl) nodd (by rfl) (by rfl) (Or.inl rfl) (jl_cons jv_int jl_nil)) jl_nil)) jl_nil)).ja)
    (js_cons (js_set noP_nil sc_law.nd rfl (Or.inl rfl) (jv_c1 2 ⟨hF__law_draw⟩ hp (L2N.takes_of rfl rfl rfl rfl) nodd (by rfl) (by rfl) (Or.inl rfl) (jl_cons (jv_bin o_add (jv_callV1 c_len (by rfl) Z.f_len bt_len (jv_name 4 rfl (Or.inl rfl))) jv_int) jl_nil)))
    (js_cons (js_set noP_nil sc_law.nd rfl (Or.inl rfl) (ofO (jo_lst (jl_cons (jv_name 4 rfl (Or.inl rfl)) (jl_cons (jv_name 5 rfl (Or.inl rfl)) (jl_cons (jv_sliceY (jv_name 4 rfl (Or.inl rfl)) jp_none (jp_some (jv_name 6 rfl (Or.inl rfl)))) (jl_cons (jv_sliceY (jv_name 4 rfl (Or.inl rfl)) (jp_some (jv_name 6 rfl (Or.inl rfl))) jp_none) (jl_cons (jv_bin o_addY (jv_name 4 rfl (Or.inl rfl)) (jv_name 5 rfl (Or.inl rfl))) (jl_cons (jv_bin o_addY (jv_name 5 rfl (Or.inl rfl)) (jv_name 4 rfl (Or.inl rfl))) (jl_cons (jv_bin o_addY (jv_sliceY (jv_name 4 rfl (Or.inl rfl)) jp_none (jp_some jv_int)) (jv_sliceY (jv_name 5 rfl (Or.inl rfl)) (jp_some jv_int) jp_none)) (jl_cons (jv_bin o_addY (jv_sliceY (jv_name 5 rfl (Or.inl rfl)) jp_none (jp_some jv_int)) (jv_sliceY (jv_name 4 rfl (Or.inl rfl)) (jp_some jv_int) jp_none)) jl_nil)))))))).ja)))
    (js_cons (js_set noP_nil sc_law.nd rfl (Or.inl rfl) (jv_bin o_add (jv_name 7 rfl (Or.inl rfl)) (ofO (jo_lst (jl_cons (jv_backY (jv_name 4 rfl (Or.inl rfl))) (jl_cons (jv_bin o_mulY (jv_sliceY (jv_name 4 rfl (Or.inl rfl)) jp_none (jp_some jv_int)) jv_int) (jl_cons (jv_sliceY (jv_name 4 rfl (Or.inl rfl)) jp_none (jp_some jv_int)) (jl_cons (jv_bin o_addY (jv_name 4 rfl (Or.inl rfl)) (jv_sliceY (jv_name 4 rfl (Or.inl rfl)) jp_none (jp_some jv_int))) (jl_cons (jv_bin o_addY (jv_sliceY (jv_name 4 rfl (Or.inl rfl)) jp_none (jp_some (jv_neg jv_int))) (jv_sliceY (jv_name 5 rfl (Or.inl rfl)) jp_none (jp_some jv_int))) (jl_cons (jv_sliceY (jv_c0 ⟨hF_pack⟩ hp (L2N.takes_of rfl rfl rfl rfl) nodd (by rfl) (jl_cons (jv_bin o_mulA jv_str jv_int) jl_nil)) (jp_some jv_int) jp_none) jl_nil)))))).ja))))
    (js_cons (js_set noP_nil sc_law.nd rfl (Or.inl rfl) (jv_bin o_add (jv_name 7 rfl (Or.inl rfl)) (ofO (jo_lst (jl_cons (jv_bin o_addY (jv_sliceY (jv_c0 ⟨hF_pack⟩ hp (L2N.takes_of rfl rfl rfl rfl) nodd (by rfl) (jl_cons jv_str jl_nil)) jp_none (jp_some jv_int)) (jv_sliceY (jv_c0 ⟨hF_pack⟩ hp (L2N.takes_of rfl rfl rfl rfl) nodd (by rfl) (jl_cons (jv_bin o_mulA jv_str jv_int) jl_nil)) (jp_some jv_int) jp_none)) (jl_cons (jv_bin o_addY (jv_sliceY (jv_c0 ⟨hF_pack⟩ hp (L2N.takes_of rfl rfl rfl rfl) nodd (by rfl) (jl_cons jv_str jl_nil)) jp_none (jp_some jv_int)) (jv_sliceY (jv_c0 ⟨hF_pack⟩ hp (L2N.takes_of rfl rfl rfl rfl) nodd (by rfl) (jl_cons (jv_bin o_mulA jv_str jv_int) jl_nil)) (jp_some jv_int) jp_none)) (jl_cons (jv_sliceY (jv_c0 ⟨hF_pack⟩ hp (L2N.takes_of rfl rfl rfl rfl) nodd (by rfl) (jl_cons (jv_bin o_mulA jv_str jv_int) jl_nil)) (jp_some jv_int) jp_none) jl_nil))).ja))))
    (js_cons (js_set noP_nil sc_law.nd rfl (Or.inl rfl) (jv_bin o_add (jv_name 7 rfl (Or.inl rfl)) (ofO (jo_lst (jl_cons (jv_bin o_addY (jv_sliceY (jv_c0 ⟨hF_pack⟩ hp (L2N.takes_of rfl rfl rfl rfl) nodd (by rfl) (jl_cons jv_str jl_nil)) (jp_some jv_int) jp_none) (jv_sliceY (jv_c0 ⟨hF_pack⟩ hp (L2N.takes_of rfl rfl rfl rfl) nodd (by rfl) (jl_cons (jv_bin o_mulA jv_str jv_int) jl_nil)) (jp_some jv_int) jp_none)) (jl_cons (jv_bin o_addY (jv_sliceY (jv_c0 ⟨hF_pack⟩ hp (L2N.takes_of rfl rfl rfl rfl) nodd (by rfl) (jl_cons (jv_bin o_mulA jv_str jv_int) jl_nil)) jp_none (jp_some jv_int)) (jv_sliceY (jv_c0 ⟨hF_pack⟩ hp (L2N.takes_of rfl rfl rfl rfl) nodd (by rfl) (jl_cons jv_str jl_nil)) (jp_some jv_int) jp_none)) jl_nil)).ja))))
    (js_one (js_for (passes_of rfl) rfl (ji_v (jv_name 7 rfl (Or.inl rfl))) (jg_name noP_nil sc_law.nd rfl (Or.inr rfl)) ne_name
    (js_one (js_if (jt_not (jt_val (jv_c0 ⟨hF__law_same⟩ hp (L2N.takes_of rfl rfl rfl rfl) nodd (by rfl) (jl_cons (jv_said (kl := 2) hp hT__law_said sc__law_said rfl rfl rfl rfl rfl Z.k_StatusError Z.ct_StatusError hE__law_kindE hLam rfl (LamX.lamS_by rfl) rfl (fun _ _ _ _ _ => rfl) (fun A1 o1 s1 H1 E1 f1 c1 hp => (jv_c0 ⟨hF_unpack⟩ hp takes_lam nodd (by rfl) (jl_cons (jv_name 8 rfl (Or.inr (Or.inr rfl))) jl_nil))) (by rfl)) (jl_cons (jv_c0 ⟨hF__law_due⟩ hp (L2N.takes_of rfl rfl rfl rfl) nodd (by rfl) (jl_cons (ofO (jo_lc [("_law_number", 10)] hp rfl sc_law.nd noPs_nil (blkOk_by (by rfl)) (ji_byt (jv_name 8 rfl (Or.inr (Or.inl rfl)))) (fun s1 H1 C1 cl1 fp1 hp => (jh_name noP_nil sc_law.nd rfl (Or.inl rfl) (by decide))) (fun s1 H1 C1 cl1 fp1 hp => jts_nil) (fun s1 H1 C1 cl1 fp1 hp => (jv_name 10 rfl (Or.inl rfl))))) jl_nil)) jl_nil))))) (js_one (js_ret jv_bl)) js_nil)))))))))))
    (js_one (js_for (passes_of rfl) rfl (ji_v (ofO (jo_lst (jl_cons (jv_c1 2 ⟨hF__law_odd⟩ hp (L2N.takes_of rfl rfl rfl rfl) nodd (by rfl) (by rfl) (Or.inl rfl) jl_nil) (jl_cons jv_non (jl_cons jv_str (jl_cons jv_str (jl_cons jv_int (jl_cons jv_bl (jl_cons (ofO (jo_lst (jl_cons jv_int jl_nil).ja)) (jl_cons (jv_tup (jl_cons jv_int jl_nil).ja) (jl_cons (ofO jo_dnewK) (jl_cons (ofO (jo_lst (jl_cons jv_int (jl_cons jv_int jl_nil)).ja)) (jl_cons jv_str jl_nil))))))))))).ja))) (jg_name noP_nil sc_law.nd rfl (Or.inr rfl)) ne_name
    (js_one (js_if (jt_cmp (o_ne hp.u64) (jv_said (kl := 2) hp hT__law_said sc__law_said rfl rfl rfl rfl rfl Z.k_StatusError Z.ct_StatusError hE__law_kindE hLam rfl (LamX.lamS_by rfl) rfl (fun _ _ _ _ _ => rfl) (fun A1 o1 s1 H1 E1 f1 c1 hp => (jv_c0 ⟨hF_unpack⟩ hp takes_lam nodd (by rfl) (jl_cons (jv_name 9 rfl (Or.inr (Or.inr rfl))) jl_nil))) (by rfl)) (jv_tup (jl_cons jv_str jl_nil).ja)) (js_one (js_ret jv_bl)) js_nil)))))))
    (js_one (js_ret jv_bl)))
theorem ok_law (Z : Tx K mg) (hF__law_pen : FnC P w K mg base 1 "_law_pen" (spF0 K mg true 1 f__law_pen) ["_law_cell"] []) (hF__law_cell_at : FnC P w K mg base 1 "_law_cell_at" (spF0 K mg false 2 f__law_cell_at) ["_law_script", "_law_k"] []) (hF_pack : FnC P w K mg base 3 "pack" (spF0 K mg false 1 f_pack) ["checks"] []) (hF__law_checks : FnC P w K mg base 2 "_law_checks" (spF1 K mg false 2 f__law_checks) ["_law_pen_here", "_law_most"] []) (hF__law_draw : FnC P w K mg base 1 "_law_draw" (spF1 K mg false 2 f__law_draw) ["_law_pen_here", "_law_many"] []) (hF__law_same : FnC P w K mg base 1 "_law_same" (spF0 K mg false 2 f__law_same) ["_law_found", "_law_due_here"] []) (hT__law_said : TxtC K mg "_law_said" ["_law_call"] (defArgs st__law_said) (defBody st__law_said) (defScope st__law_said)) (hE__law_kindE : FnEC P w K mg base 1 "_law_kind" ["_law_e"] g__law_kindE) (hF_unpack : FnC P w K mg base 2 "unpack" (spF0 K mg false 1 f_unpack) ["value"] []) (hF__law_due : FnC P w K mg base 1 "_law_due" (spF0 K mg false 1 f__law_due) ["_law_numbers"] []) (hF__law_odd : FnC P w K mg base 3 "_law_odd" (spF1 K mg false 1 f__law_odd) ["_law_pen_here"] []) {f : Addr} {fd : FuncData} {kws : List (Str × V)} (hLam : LamOk K mg base f (("law" ++ ".<locals>.") ++ "<lambda>")) (hcd : PySem.W.codeHdIn K (cTz K f).1 (cTz K f).2 = true) (G : FunD K "law" "law" (defArgs st_law) (defBody st_law) (defScope st_law) [] kws f fd) : FnG P w K mg base 5 f fd ["_law_script"] (spF0 K mg false 1 f_law) :=
  fn0L (P := P) (w := w) (mg := mg) (base := base) (ro := false) (s := b_law) (N := N_law) (ps := ["_law_script"]) rfl rfl G sc_law (code_of G hcd) fun A outer s0 H E hr hgu => d_law Z hF__law_pen hF__law_cell_at hF_pack hF__law_checks hF__law_draw hF__law_same hT__law_said hE__law_kindE hF_unpack hF__law_due hF__law_odd hLam hr hgu
end
end Lw
namespace Lw
open PySem hiding start
open PySem.Spec L2 Sr
open PyProof.Rows hiding St
section
variable [TabL] {P : Program} {w : World} {K : PySem.W.Frag} {h : Heap} {mg : Str → Option Value}
theorem tx_mk (X : K.In h) (G : h.Ns mainGlobals mg) (c : SaysZ fa fn ex K) : Tx K mg := by
  have hx : (ownB K (.type "str") isl_str && (ownB K (.type "bytes") isl_bytes && (catB K (.ref (He.ga K "StatusError")) ctl_StatusError && (exsB K (.ref (He.ga K "TableError")) isE_TableError && (exsB K (.ref (He.ga K "ChecksError")) isE_ChecksError && (exsB K (.ref (He.ga K "RuleError")) isE_RuleError && (exsB K (.ref (He.ga K "NumberError")) isE_NumberError && (exsB K (.ref (He.ga K "LimitsError")) isE_LimitsError && (exsB K (.ref (He.ga K "StateError")) isE_StateError && (exsB K (.ref (He.ga K "SituationError")) isE_SituationError && (exsB K (.ref (He.ga K "FractionError")) isE_FractionError && (exsB K (.ref (He.ga K "RulesError")) isE_RulesError && (exsB K (.ref (He.ga K "StatusesError")) isE_StatusesError && (exsB K (.ref (He.ga K "NamesError")) isE_NamesError && (exsB K (.ref (He.ga K "SignsError")) isE_SignsError && (exsB K (.ref (He.ga K "UnknownName")) isE_UnknownName && (exsB K (.ref (He.ga K "MonitorError")) isE_MonitorError && (exsB K (.ref (He.ga K "NothingToUndo")) isE_NothingToUndo && (exsB K (.ref (He.ga K "DataError")) isE_DataError && (exsB K (.ref (He.ga K "TooLarge")) isE_TooLarge && (exsB K (.ref (He.ga K "TextError")) isE_TextError && (exsB K (.type "ValueError") isE_ValueError)))))))))))))))))))))) = true := c.all.2.2
  simp only [Bool.and_eq_true] at hx
  obtain ⟨hx0, hx1, hx2, hx3, hx4, hx5, hx6, hx7, hx8, hx9, hx10, hx11, hx12, hx13, hx14, hx15, hx16, hx17, hx18, hx19, hx20, hx21⟩ := hx
  have hI_str : ∀ q ∈ isl_str, ClI K mg q.1 (He.ga K q.1) := by
    intro q hq
    simp only [isl_str, List.mem_cons, List.not_mem_nil, or_false] at hq
  have hI_bytes : ∀ q ∈ isl_bytes, ClI K mg q.1 (He.ga K q.1) := by
    intro q hq
    simp only [isl_bytes, List.mem_cons, List.not_mem_nil, or_false] at hq
  exact ⟨He.free_ok X G (c.fact 0), He.free_ok X G (c.fact 1), He.free_ok X G (c.fact 2), He.free_ok X G (c.fact 3), He.free_ok X G (c.fact 4), He.free_ok X G (c.fact 5), He.str_ok X G (c.fact 6), He.str_ok X G (c.fact 7), He.int_ok X G (c.fact 8), He.free_ok X G (c.fact 9), He.int_ok X G (c.fact 10), He.free_ok X G (c.fact 11), He.free_ok X G (c.fact 12), He.free_ok X G (c.fact 13), He.free_ok X G (c.fact 14), He.free_ok X G (c.fact 15), He.glo_ok X G (c.fact 16), He.glo_ok X G (c.fact 17), He.glo_ok X G (c.fact 18), He.glo_ok X G (c.fact 19), He.glo_ok X G (c.fact 20), He.glo_ok X G (c.fact 21), He.glo_ok X G (c.fact 22), He.glo_ok X G (c.fact 23), He.glo_ok X G (c.fact 24), He.glo_ok X G (c.fact 25), He.glo_ok X G (c.fact 26), He.glo_ok X G (c.fact 27), He.glo_ok X G (c.fact 28), He.glo_ok X G (c.fact 29), He.glo_ok X G (c.fact 30), He.glo_ok X G (c.fact 31), He.glo_ok X G (c.fact 32), He.glo_ok X G (c.fact 33), He.glo_ok X G (c.fact 34), isi_of tStr_ok (ownB_ok hx0 hI_str), isi_of tBytes_ok (ownB_ok hx1 hI_bytes), rai_of (He.glo_ok X G (c.fact 16)) (c.fact 35), rai_of (He.glo_ok X G (c.fact 31)) (c.fact 36), cat_of hx2 (by intro q hq; simp only [ctl_StatusError, List.mem_cons, List.not_mem_nil, or_false] at hq; rcases hq with rfl | rfl <;> first | exact He.glo_ok X G (c.fact 16) | exact He.glo_ok X G (c.fact 31)), isE_of hx3 (by intro q hq; simp only [isE_TableError, List.mem_cons, List.not_mem_nil, or_false] at hq; rcases hq with rfl | rfl <;> first | exact He.glo_ok X G (c.fact 16) | exact He.glo_ok X G (c.fact 31)), isE_of hx4 (by intro q hq; simp only [isE_ChecksError, List.mem_cons, List.not_mem_nil, or_false] at hq; rcases hq with rfl | rfl <;> first | exact He.glo_ok X G (c.fact 16) | exact He.glo_ok X G (c.fact 31)), isE_of hx5 (by intro q hq; simp only [isE_RuleError, List.mem_cons, List.not_mem_nil, or_false] at hq; rcases hq with rfl | rfl <;> first | exact He.glo_ok X G (c.fact 16) | exact He.glo_ok X G (c.fact 31)), isE_of hx6 (by intro q hq; simp only [isE_NumberError, List.mem_cons, List.not_mem_nil, or_false] at hq; rcases hq with rfl | rfl <;> first | exact He.glo_ok X G (c.fact 16) | exact He.glo_ok X G (c.fact 31)), isE_of hx7 (by intro q hq; simp only [isE_LimitsError, List.mem_cons, List.not_mem_nil, or_false] at hq; rcases hq with rfl | rfl <;> first | exact He.glo_ok X G (c.fact 16) | exact He.glo_ok X G (c.fact 31)), isE_of hx8 (by intro q hq; simp only [isE_StateError, List.mem_cons, List.not_mem_nil, or_false] at hq; rcases hq with rfl | rfl <;> first | exact He.glo_ok X G (c.fact 16) | exact He.glo_ok X G (c.fact 31)), isE_of hx9 (by intro q hq; simp only [isE_SituationError, List.mem_cons, List.not_mem_nil, or_false] at hq; rcases hq with rfl | rfl <;> first | exact He.glo_ok X G (c.fact 16) | exact He.glo_ok X G (c.fact 31)), isE_of hx10 (by intro q hq; simp only [isE_FractionError, List.mem_cons, List.not_mem_nil, or_false] at hq; rcases hq with rfl | rfl <;> first | exact He.glo_ok X G (c.fact 16) | exact He.glo_ok X G (c.fact 31)), isE_of hx11 (by intro q hq; simp only [isE_RulesError, List.mem_cons, List.not_mem_nil, or_false] at hq; rcases hq with rfl | rfl <;> first | exact He.glo_ok X G (c.fact 16) | exact He.glo_ok X G (c.fact 31)), isE_of hx12 (by intro q hq; simp only [isE_StatusesError, List.mem_cons, List.not_mem_nil, or_false] at hq; rcases hq with rfl | rfl <;> first | exact He.glo_ok X G (c.fact 16) | exact He.glo_ok X G (c.fact 31)), isE_of hx13 (by intro q hq; simp only [isE_NamesError, List.mem_cons, List.not_mem_nil, or_false] at hq; rcases hq with rfl | rfl <;> first | exact He.glo_ok X G (c.fact 16) | exact He.glo_ok X G (c.fact 31)), isE_of hx14 (by intro q hq; simp only [isE_SignsError, List.mem_cons, List.not_mem_nil, or_false] at hq; rcases hq with rfl | rfl <;> first | exact He.glo_ok X G (c.fact 16) | exact He.glo_ok X G (c.fact 31)), isE_of hx15 (by intro q hq; simp only [isE_UnknownName, List.mem_cons, List.not_mem_nil, or_false] at hq; rcases hq with rfl | rfl <;> first | exact He.glo_ok X G (c.fact 16) | exact He.glo_ok X G (c.fact 31)), isE_of hx16 (by intro q hq; simp only [isE_MonitorError, List.mem_cons, List.not_mem_nil, or_false] at hq; rcases hq with rfl | rfl <;> first | exact He.glo_ok X G (c.fact 16) | exact He.glo_ok X G (c.fact 31)), isE_of hx17 (by intro q hq; simp only [isE_NothingToUndo, List.mem_cons, List.not_mem_nil, or_false] at hq; rcases hq with rfl | rfl <;> first | exact He.glo_ok X G (c.fact 16) | exact He.glo_ok X G (c.fact 31)), isE_of hx18 (by intro q hq; simp only [isE_DataError, List.mem_cons, List.not_mem_nil, or_false] at hq; rcases hq with rfl | rfl <;> first | exact He.glo_ok X G (c.fact 16) | exact He.glo_ok X G (c.fact 31)), isE_of hx19 (by intro q hq; simp only [isE_TooLarge, List.mem_cons, List.not_mem_nil, or_false] at hq; rcases hq with rfl | rfl <;> first | exact He.glo_ok X G (c.fact 16) | exact He.glo_ok X G (c.fact 31)), isE_of hx20 (by intro q hq; simp only [isE_TextError, List.mem_cons, List.not_mem_nil, or_false] at hq; rcases hq with rfl | rfl <;> first | exact He.glo_ok X G (c.fact 16) | exact He.glo_ok X G (c.fact 31)), isE_of hx21 (by intro q hq; simp only [isE_ValueError, List.mem_cons, List.not_mem_nil, or_false] at hq; rcases hq with rfl | rfl <;> first | exact He.glo_ok X G (c.fact 16) | exact He.glo_ok X G (c.fact 31))⟩
theorem all_mk {fl : Addr} (X : K.In h) (G : h.Ns mainGlobals mg) (hl : mg "law" = some (.ref fl)) (c : SaysZ fa fn ex K) (hPw : P = TabL.P ∧ w = TabL.w) (t : TabsZ tf h K) (hlt : TabL.l = tlZ K tf) : ∃ fd : FuncData, (∀ (s : Shared) (v : Value), BindsTo s fd ⟨[v], []⟩ [("_law_script", v)]) ∧ ∀ base : Heap, (∀ p ∈ tabsZ K tf, LamX.TabB base mg p.1 p.2) → FnG P w K mg base 5 fl fd ["_law_script"] (spF0 K mg false 1 f_law) := by
  have Z : Tx K mg := tx_mk X G c
  have hx : (ownB K (.type "str") isl_str && (ownB K (.type "bytes") isl_bytes && (catB K (.ref (He.ga K "StatusError")) ctl_StatusError && (exsB K (.ref (He.ga K "TableError")) isE_TableError && (exsB K (.ref (He.ga K "ChecksError")) isE_ChecksError && (exsB K (.ref (He.ga K "RuleError")) isE_RuleError && (exsB K (.ref (He.ga K "NumberError")) isE_NumberError && (exsB K (.ref (He.ga K "LimitsError")) isE_LimitsError && (exsB K (.ref (He.ga K "StateError")) isE_StateError && (exsB K (.ref (He.ga K "SituationError")) isE_SituationError && (exsB K (.ref (He.ga K "FractionError")) isE_FractionError && (exsB K (.ref (He.ga K "RulesError")) isE_RulesError && (exsB K (.ref (He.ga K "StatusesError")) isE_StatusesError && (exsB K (.ref (He.ga K "NamesError")) isE_NamesError && (exsB K (.ref (He.ga K "SignsError")) isE_SignsError && (exsB K (.ref (He.ga K "UnknownName")) isE_UnknownName && (exsB K (.ref (He.ga K "MonitorError")) isE_MonitorError && (exsB K (.ref (He.ga K "NothingToUndo")) isE_NothingToUndo && (exsB K (.ref (He.ga K "DataError")) isE_DataError && (exsB K (.ref (He.ga K "TooLarge")) isE_TooLarge && (exsB K (.ref (He.ga K "TextError")) isE_TextError && (exsB K (.type "ValueError") isE_ValueError)))))))))))))))))))))) = true := c.all.2.2
  simp only [Bool.and_eq_true] at hx
  obtain ⟨hx0, hx1, hx2, hx3, hx4, hx5, hx6, hx7, hx8, hx9, hx10, hx11, hx12, hx13, hx14, hx15, hx16, hx17, hx18, hx19, hx20, hx21⟩ := hx
  obtain ⟨fd__law_pen, G__law_pen⟩ := c.def_ 0 (d := dz__law_pen)
  obtain ⟨fd__law_cell_at, G__law_cell_at⟩ := c.def_ 1 (d := dz__law_cell_at)
  obtain ⟨fd_is_made_of, G_is_made_of⟩ := c.def_ 2 (d := dz_is_made_of)
  obtain ⟨fd_check_checks, G_check_checks⟩ := c.def_ 3 (d := dz_check_checks)
  obtain ⟨fd_packed, G_packed⟩ := c.def_ 4 (d := dz_packed)
  obtain ⟨fd_pack, G_pack⟩ := c.def_ 5 (d := dz_pack)
  obtain ⟨fd__law_draw, G__law_draw⟩ := c.def_ 6 (d := dz__law_draw)
  obtain ⟨fd__law_checks, G__law_checks⟩ := c.def_ 7 (d := dz__law_checks)
  obtain ⟨fd__law_same, G__law_same⟩ := c.def_ 8 (d := dz__law_same)
  obtain ⟨fd__law_kindE, G__law_kindE⟩ := c.def_ 9 (d := dz__law_kindE)
  obtain ⟨fd_unpack, G_unpack⟩ := c.def_ 10 (d := dz_unpack)
  obtain ⟨fd__law_due, G__law_due⟩ := c.def_ 11 (d := dz__law_due)
  obtain ⟨fd__law_pick, G__law_pick⟩ := c.def_ 12 (d := dz__law_pick)
  obtain ⟨fd__law_odd, G__law_odd⟩ := c.def_ 13 (d := dz__law_odd)
  obtain ⟨fd_law, G_law⟩ := c.def_ 14 (d := dz_law)
  obtain ⟨fd__law_said, G__law_said⟩ := c.def_ 15 (d := dz__law_said)
  have e := hl.symm.trans (He.glo_ok X G (c.fact 51))
  cases e
  refine ⟨fd_law, fun s v => FunD.bindsA (ps := ["_law_script"]) G_law (fun _ _ _ _ _ _ us hl => match us, hl with | [_], _ => rfl) s [v] rfl, fun base hTB => ?_⟩
  have hLam_law : LamOk K mg base (dz_law.ad K) (lamQ dz_law) := lamOk_of t hlt hTB 0
  have hcd_law := t.hd dz_law (List.mem_of_getElem? (i := 0) rfl)
  have hT__law_said : TxtC K mg "_law_said" ["_law_call"] (defArgs st__law_said) (defBody st__law_said) (defScope st__law_said) := ⟨_, fd__law_said, G__law_said, He.glo_ok X G (c.fact 52), G__law_said.kp, G__law_said.bindsN fun _ _ _ _ _ _ us hl => (match us, hl with | [_], _ => rfl)⟩
  have hG__law_pen : FnG P w K mg base 1 _ fd__law_pen ["_law_cell"] (spF0 K mg true 1 f__law_pen) := ok__law_pen Z  G__law_pen
  have hF__law_pen : FnC P w K mg base 1 "_law_pen" (spF0 K mg true 1 f__law_pen) ["_law_cell"] [] := ⟨_, _, [], hG__law_pen, He.glo_ok X G (c.fact 37), G__law_pen.kp, G__law_pen.bindsN fun _ _ _ _ _ _ us hl => (match us, hl with | [_], _ => rfl), .nil⟩
  have hG__law_cell_at : FnG P w K mg base 1 _ fd__law_cell_at ["_law_script", "_law_k"] (spF0 K mg false 2 f__law_cell_at) := ok__law_cell_at Z  G__law_cell_at
  have hF__law_cell_at : FnC P w K mg base 1 "_law_cell_at" (spF0 K mg false 2 f__law_cell_at) ["_law_script", "_law_k"] [] := ⟨_, _, [], hG__law_cell_at, He.glo_ok X G (c.fact 38), G__law_cell_at.kp, G__law_cell_at.bindsN fun _ _ _ _ _ _ us hl => (match us, hl with | [_, _], _ => rfl), .nil⟩
  have hG_is_made_of : FnG P w K mg base 1 _ fd_is_made_of ["value", "signs"] (spF0 K mg false 2 f_is_made_of) := ok_is_made_of Z  G_is_made_of
  have hF_is_made_of : FnC P w K mg base 1 "is_made_of" (spF0 K mg false 2 f_is_made_of) ["value", "signs"] [] := ⟨_, _, [], hG_is_made_of, He.glo_ok X G (c.fact 39), G_is_made_of.kp, G_is_made_of.bindsN fun _ _ _ _ _ _ us hl => (match us, hl with | [_, _], _ => rfl), .nil⟩
  have hG_check_checks : FnG P w K mg base 2 _ fd_check_checks ["checks"] (spF0 K mg false 1 f_check_checks) := ok_check_checks Z hF_is_made_of G_check_checks
  have hF_check_checks : FnC P w K mg base 2 "check_checks" (spF0 K mg false 1 f_check_checks) ["checks"] [] := ⟨_, _, [], hG_check_checks, He.glo_ok X G (c.fact 40), G_check_checks.kp, G_check_checks.bindsN fun _ _ _ _ _ _ us hl => (match us, hl with | [_], _ => rfl), .nil⟩
  have hG_packed : FnG P w K mg base 1 _ fd_packed ["checks"] (spF0 K mg false 1 f_packed) := ok_packed Z  G_packed
  have hF_packed : FnC P w K mg base 1 "packed" (spF0 K mg false 1 f_packed) ["checks"] [] := ⟨_, _, [], hG_packed, He.glo_ok X G (c.fact 41), G_packed.kp, G_packed.bindsN fun _ _ _ _ _ _ us hl => (match us, hl with | [_], _ => rfl), .nil⟩
  have hG_pack : FnG P w K mg base 3 _ fd_pack ["checks"] (spF0 K mg false 1 f_pack) := ok_pack Z hF_check_checks hF_packed G_pack
  have hF_pack : FnC P w K mg base 3 "pack" (spF0 K mg false 1 f_pack) ["checks"] [] := ⟨_, _, [], hG_pack, He.glo_ok X G (c.fact 42), G_pack.kp, G_pack.bindsN fun _ _ _ _ _ _ us hl => (match us, hl with | [_], _ => rfl), .nil⟩
  have hG__law_draw : FnG P w K mg base 1 _ fd__law_draw ["_law_pen_here", "_law_many"] (spF1 K mg false 2 f__law_draw) := ok__law_draw Z  G__law_draw
  have hF__law_draw : FnC P w K mg base 1 "_law_draw" (spF1 K mg false 2 f__law_draw) ["_law_pen_here", "_law_many"] [] := ⟨_, _, [], hG__law_draw, He.glo_ok X G (c.fact 43), G__law_draw.kp, G__law_draw.bindsN fun _ _ _ _ _ _ us hl => (match us, hl with | [_, _], _ => rfl), .nil⟩
  have hG__law_checks : FnG P w K mg base 2 _ fd__law_checks ["_law_pen_here", "_law_most"] (spF1 K mg false 2 f__law_checks) := ok__law_checks Z hF__law_draw G__law_checks
  have hF__law_checks : FnC P w K mg base 2 "_law_checks" (spF1 K mg false 2 f__law_checks) ["_law_pen_here", "_law_most"] [] := ⟨_, _, [], hG__law_checks, He.glo_ok X G (c.fact 44), G__law_checks.kp, G__law_checks.bindsN fun _ _ _ _ _ _ us hl => (match us, hl with | [_, _], _ => rfl), .nil⟩
  have hG__law_same : FnG P w K mg base 1 _ fd__law_same ["_law_found", "_law_due_here"] (spF0 K mg false 2 f__law_same) := ok__law_same Z  G__law_same
  have hF__law_same : FnC P w K mg base 1 "_law_same" (spF0 K mg false 2 f__law_same) ["_law_found", "_law_due_here"] [] := ⟨_, _, [], hG__law_same, He.glo_ok X G (c.fact 45), G__law_same.kp, G__law_same.bindsN fun _ _ _ _ _ _ us hl => (match us, hl with | [_, _], _ => rfl), .nil⟩
  have hE__law_kindE : FnEC P w K mg base 1 "_law_kind" ["_law_e"] g__law_kindE := ⟨_, fd__law_kindE, ok__law_kindE Z  G__law_kindE, He.glo_ok X G (c.fact 46), G__law_kindE.kp, G__law_kindE.bindsN fun _ _ _ _ _ _ us hl => (match us, hl with | [_], _ => rfl)⟩
  have hG_unpack : FnG P w K mg base 2 _ fd_unpack ["value"] (spF0 K mg false 1 f_unpack) := ok_unpack Z hF_packed G_unpack
  have hF_unpack : FnC P w K mg base 2 "unpack" (spF0 K mg false 1 f_unpack) ["value"] [] := ⟨_, _, [], hG_unpack, He.glo_ok X G (c.fact 47), G_unpack.kp, G_unpack.bindsN fun _ _ _ _ _ _ us hl => (match us, hl with | [_], _ => rfl), .nil⟩
  have hG__law_due : FnG P w K mg base 1 _ fd__law_due ["_law_numbers"] (spF0 K mg false 1 f__law_due) := ok__law_due Z  G__law_due
  have hF__law_due : FnC P w K mg base 1 "_law_due" (spF0 K mg false 1 f__law_due) ["_law_numbers"] [] := ⟨_, _, [], hG__law_due, He.glo_ok X G (c.fact 48), G__law_due.kp, G__law_due.bindsN fun _ _ _ _ _ _ us hl => (match us, hl with | [_], _ => rfl), .nil⟩
  have hG__law_pick : FnG P w K mg base 2 _ fd__law_pick ["_law_pen_here", "_law_values"] (spF1 K mg false 2 f__law_pick) := ok__law_pick Z hF__law_draw G__law_pick
  have hF__law_pick : FnC P w K mg base 2 "_law_pick" (spF1 K mg false 2 f__law_pick) ["_law_pen_here", "_law_values"] [] := ⟨_, _, [], hG__law_pick, He.glo_ok X G (c.fact 49), G__law_pick.kp, G__law_pick.bindsN fun _ _ _ _ _ _ us hl => (match us, hl with | [_, _], _ => rfl), .nil⟩
  have hG__law_odd : FnG P w K mg base 3 _ fd__law_odd ["_law_pen_here"] (spF1 K mg false 1 f__law_odd) := ok__law_odd Z hF__law_pick G__law_odd
  have hF__law_odd : FnC P w K mg base 3 "_law_odd" (spF1 K mg false 1 f__law_odd) ["_law_pen_here"] [] := ⟨_, _, [], hG__law_odd, He.glo_ok X G (c.fact 50), G__law_odd.kp, G__law_odd.bindsN fun _ _ _ _ _ _ us hl => (match us, hl with | [_], _ => rfl), .nil⟩
  exact ok_law Z hF__law_pen hF__law_cell_at hF_pack hF__law_checks hF__law_draw hF__law_same hT__law_said hE__law_kindE hF_unpack hF__law_due hF__law_odd hLam_law hcd_law G_law
end
end Lw
namespace Lw
open PySem hiding start
open PySem.Spec L2 Sr
open PyProof.Rows hiding St
theorem ob_eq (s : PySem.W.SharedT) : ob s = hk.obs s.abs := obsM_eq (HandSHeadRun.getT_eq s)
end Lw
namespace Lw
open PySem hiding start
open L2 Sr
open Hi (rep)
theorem s_pen (c : Int) : ∃ o, f__law_pen .non [.int c] = .ok o .non ∧ PenOk o := by
  refine ⟨.lst [.int (if c - 10 ^ 18 > 0 then c - 10 ^ 18 else 0), .int (c % 2147483629 + 1), .int 0], ?_, _, _, _, rfl, ?_, ?_, ?_⟩
  · have h : cPow 10 18 = true := by decide
    simp [f__law_pen, b__law_pen, h, sizeLine, mkF0, mkF1, fin0, fin1, st0, st1, bnd, Sr.ret, opt, mN, mNB, mB, der, m1, m2, m2b, m2r, mT, asB, mChain, mAnd, mOr, mNot, mAndV, mOrV, mNotV, mIf, mNil, mCons, mTup, mLst, mIsN, mNotN, Sr.isNon, mCal, mCal1, mIsi, mFldB, gFld, mC0, mC1, ap0, ap1, chkO, chkL, putL, mMk, apM, skp, sq, sDrop, sRet, sRetO, sIf, sSet, sSetO, sAsg, sPar, gN, gsN, gsC, gT, gA, sApp, sPutI, sNever, mItems, dItems, mRng, mRng2, gRng, gRng2, sFor, turn, gI, gI0, gLt, gLe, gGt, gGe, gAdd, gAddI, gAddS, gAddT, gAddL, Sr.gSub, gMul, gMulI, gDiv, gMod, gPow, gNeg, gEq, gNe, dEq, eqS, gLen, gInt1, gMax2, gMin2, gAbs, gIx, gLtT, dInts, putD, gIsi, dKind, tInt, tOnly, List.map_cons, List.map_nil, List.length_cons, List.length_nil, List.cons_append, List.nil_append, List.getElem?_cons_zero, List.getElem?_cons_succ, List.set_cons_zero, List.set_cons_succ, List.replicate, Option.some_or, Option.none_or, Option.map_some, Option.map_none, Option.bind_some, Option.bind_none]
  · split <;> omega
  · omega
  · omega
theorem s_draw (o : D) (many : Int) (hv : PenOk o) (h0 : 0 < many) (h1 : many < 1073741824) : ∃ r o', f__law_draw o [.int many] = .ok (.int r) o' ∧ 0 ≤ r ∧ r < many ∧ PenOk o' := by
  obtain ⟨a, b, c, rfl, ha, hb, hb2⟩ := hv
  have hd : ∀ x, cDiv x many = true := fun x => by unfold cDiv; simp; omega
  by_cases h : 0 < a
  · refine ⟨a % many, .lst [.int (a / many), .int b, .int c], ?_, Int.emod_nonneg _ (by omega), Int.emod_lt_of_pos _ h0, _, _, _, rfl, Int.ediv_nonneg ha (by omega), hb, hb2⟩
    simp [f__law_draw, b__law_draw, h, h0, hd, atI, ixN, mkF0, mkF1, fin0, fin1, st0, st1, bnd, Sr.ret, opt, mN, mNB, mB, der, m1, m2, m2b, m2r, mT, asB, mChain, mAnd, mOr, mNot, mAndV, mOrV, mNotV, mIf, mNil, mCons, mTup, mLst, mIsN, mNotN, Sr.isNon, mCal, mCal1, mIsi, mFldB, gFld, mC0, mC1, ap0, ap1, chkO, chkL, putL, mMk, apM, skp, sq, sDrop, sRet, sRetO, sIf, sSet, sSetO, sAsg, sPar, gN, gsN, gsC, gT, gA, sApp, sPutI, sNever, mItems, dItems, mRng, mRng2, gRng, gRng2, sFor, turn, gI, gI0, gLt, gLe, gGt, gGe, gAdd, gAddI, gAddS, gAddT, gAddL, Sr.gSub, gMul, gMulI, gDiv, gMod, gPow, gNeg, gEq, gNe, dEq, eqS, gLen, gInt1, gMax2, gMin2, gAbs, gIx, gLtT, dInts, putD, gIsi, dKind, tInt, tOnly, List.map_cons, List.map_nil, List.length_cons, List.length_nil, List.cons_append, List.nil_append, List.getElem?_cons_zero, List.getElem?_cons_succ, List.set_cons_zero, List.set_cons_succ, List.replicate, Option.some_or, Option.none_or, Option.map_some, Option.map_none, Option.bind_some, Option.bind_none]
  · generalize hb' : (b * 48271 + 1009 * (c + 1) + 7) % 2147483647 = b'
    have e1 : 0 ≤ b' ∧ b' < 2147483647 := by omega
    generalize hm : (b' * b' + 69621 * b' + 11) % 2147483629 = m
    have e2 : 0 ≤ m ∧ m < 2147483629 := by omega
    have c1 : cMul b 48271 = true := cmul_l (by omega) (by omega)
    have c2 : cMul 1009 (c + 1) = true := cmul_l (by omega) (by omega)
    have c3 : cMul b' b' = true := cmul_l (by omega) (by omega)
    have c4 : cMul 69621 b' = true := cmul_l (by omega) (by omega)
    have c5 : cMul m m = true := cmul_l (by omega) (by omega)
    have c6 : cMul 40014 m = true := cmul_l (by omega) (by omega)
    have c7 : ∀ x, cDiv x 16 = true := fun x => by unfold cDiv; simp
    refine ⟨((m * m + 40014 * m) % 2147483587 / 16) % many, .lst [.int a, .int b', .int (c + 1)], ?_, Int.emod_nonneg _ (by omega), Int.emod_lt_of_pos _ h0, _, _, _, rfl, ha, by omega, by omega⟩
    simp [f__law_draw, b__law_draw, h, h0, hd, hb', hm, c1, c2, c3, c4, c5, c6, c7, atI, ixN, mkF0, mkF1, fin0, fin1, st0, st1, bnd, Sr.ret, opt, mN, mNB, mB, der, m1, m2, m2b, m2r, mT, asB, mChain, mAnd, mOr, mNot, mAndV, mOrV, mNotV, mIf, mNil, mCons, mTup, mLst, mIsN, mNotN, Sr.isNon, mCal, mCal1, mIsi, mFldB, gFld, mC0, mC1, ap0, ap1, chkO, chkL, putL, mMk, apM, skp, sq, sDrop, sRet, sRetO, sIf, sSet, sSetO, sAsg, sPar, gN, gsN, gsC, gT, gA, sApp, sPutI, sNever, mItems, dItems, mRng, mRng2, gRng, gRng2, sFor, turn, gI, gI0, gLt, gLe, gGt, gGe, gAdd, gAddI, gAddS, gAddT, gAddL, Sr.gSub, gMul, gMulI, gDiv, gMod, gPow, gNeg, gEq, gNe, dEq, eqS, gLen, gInt1, gMax2, gMin2, gAbs, gIx, gLtT, dInts, putD, gIsi, dKind, tInt, tOnly, List.map_cons, List.map_nil, List.length_cons, List.length_nil, List.cons_append, List.nil_append, List.getElem?_cons_zero, List.getElem?_cons_succ, List.set_cons_zero, List.set_cons_succ, List.replicate, Option.some_or, Option.none_or, Option.map_some, Option.map_none, Option.bind_some, Option.bind_none]
theorem s_cell (ns : List Int) (k : Int) (hk : 0 ≤ k) : ∃ c, f__law_cell_at .non [.scr ns, .int k] = .ok (.int c) .non := by
  by_cases h : k < ns.length
  · have hi : k.toNat < ns.length := by omega
    refine ⟨ns[k.toNat], ?_⟩
    simp [f__law_cell_at, b__law_cell_at, h, hk, hi, atI, ixN, mkF0, mkF1, fin0, fin1, st0, st1, bnd, Sr.ret, opt, mN, mNB, mB, der, m1, m2, m2b, m2r, mT, asB, mChain, mAnd, mOr, mNot, mAndV, mOrV, mNotV, mIf, mNil, mCons, mTup, mLst, mIsN, mNotN, Sr.isNon, mCal, mCal1, mIsi, mFldB, gFld, mC0, mC1, ap0, ap1, chkO, chkL, putL, mMk, apM, skp, sq, sDrop, sRet, sRetO, sIf, sSet, sSetO, sAsg, sPar, gN, gsN, gsC, gT, gA, sApp, sPutI, sNever, mItems, dItems, mRng, mRng2, gRng, gRng2, sFor, turn, gI, gI0, gLt, gLe, gGt, gGe, gAdd, gAddI, gAddS, gAddT, gAddL, Sr.gSub, gMul, gMulI, gDiv, gMod, gPow, gNeg, gEq, gNe, dEq, eqS, gLen, gInt1, gMax2, gMin2, gAbs, gIx, gLtT, dInts, putD, gIsi, dKind, tInt, tOnly, List.map_cons, List.map_nil, List.length_cons, List.length_nil, List.cons_append, List.nil_append, List.getElem?_cons_zero, List.getElem?_cons_succ, List.set_cons_zero, List.set_cons_succ, List.replicate, Option.some_or, Option.none_or, Option.map_some, Option.map_none, Option.bind_some, Option.bind_none]
  · refine ⟨0, ?_⟩
    simp [f__law_cell_at, b__law_cell_at, h, mkF0, mkF1, fin0, fin1, st0, st1, bnd, Sr.ret, opt, mN, mNB, mB, der, m1, m2, m2b, m2r, mT, asB, mChain, mAnd, mOr, mNot, mAndV, mOrV, mNotV, mIf, mNil, mCons, mTup, mLst, mIsN, mNotN, Sr.isNon, mCal, mCal1, mIsi, mFldB, gFld, mC0, mC1, ap0, ap1, chkO, chkL, putL, mMk, apM, skp, sq, sDrop, sRet, sRetO, sIf, sSet, sSetO, sAsg, sPar, gN, gsN, gsC, gT, gA, sApp, sPutI, sNever, mItems, dItems, mRng, mRng2, gRng, gRng2, sFor, turn, gI, gI0, gLt, gLe, gGt, gGe, gAdd, gAddI, gAddS, gAddT, gAddL, Sr.gSub, gMul, gMulI, gDiv, gMod, gPow, gNeg, gEq, gNe, dEq, eqS, gLen, gInt1, gMax2, gMin2, gAbs, gIx, gLtT, dInts, putD, gIsi, dKind, tInt, tOnly, List.map_cons, List.map_nil, List.length_cons, List.length_nil, List.cons_append, List.nil_append, List.getElem?_cons_zero, List.getElem?_cons_succ, List.set_cons_zero, List.set_cons_succ, List.replicate, Option.some_or, Option.none_or, Option.map_some, Option.map_none, Option.bind_some, Option.bind_none]
theorem s_pick (o : D) (ds : List D) (hv : PenOk o) (h0 : 0 < ds.length) (h1 : ds.length < 100) : ∃ d o', f__law_pick o [.lst ds] = .ok d o' ∧ d ∈ ds ∧ PenOk o' := by
  obtain ⟨r, o1, e1, h2, h2', v1⟩ := s_draw o (ds.length : Int) hv (by omega) (by omega)
  have hi : r.toNat < ds.length := by omega
  refine ⟨ds[r.toNat], o1, ?_, List.getElem_mem hi, v1⟩
  simp [f__law_pick, b__law_pick, e1, atI, ixN, h2, h2', hi, mkF0, mkF1, fin0, fin1, st0, st1, bnd, Sr.ret, opt, mN, mNB, mB, der, m1, m2, m2b, m2r, mT, asB, mChain, mAnd, mOr, mNot, mAndV, mOrV, mNotV, mIf, mNil, mCons, mTup, mLst, mIsN, mNotN, Sr.isNon, mCal, mCal1, mIsi, mFldB, gFld, mC0, mC1, ap0, ap1, chkO, chkL, putL, mMk, apM, skp, sq, sDrop, sRet, sRetO, sIf, sSet, sSetO, sAsg, sPar, gN, gsN, gsC, gT, gA, sApp, sPutI, sNever, mItems, dItems, mRng, mRng2, gRng, gRng2, sFor, turn, gI, gI0, gLt, gLe, gGt, gGe, gAdd, gAddI, gAddS, gAddT, gAddL, Sr.gSub, gMul, gMulI, gDiv, gMod, gPow, gNeg, gEq, gNe, dEq, eqS, gLen, gInt1, gMax2, gMin2, gAbs, gIx, gLtT, dInts, putD, gIsi, dKind, tInt, tOnly, List.map_cons, List.map_nil, List.length_cons, List.length_nil, List.cons_append, List.nil_append, List.getElem?_cons_zero, List.getElem?_cons_succ, List.set_cons_zero, List.set_cons_succ, List.replicate, Option.some_or, Option.none_or, Option.map_some, Option.map_none, Option.bind_some, Option.bind_none]
theorem rngI (W : Int) (h0 : 0 ≤ W) (h1 : W < 1000000) : gRng [.int W] = some ((irng 0 W).map D.int) := by
  have hok : okR W = true := by unfold okR; simp; omega
  simp only [gRng, hok, if_true]; rw [rngL_eq]
theorem S_len (l : List Nat) : (S l).length = l.length := by unfold S Str.length; simp
theorem S_app (a b : List Nat) : S a ++ S b = S (a ++ b) := by
  show (⟨a.toArray ++ b.toArray⟩ : Str) = _
  unfold S; simp
theorem sz {n : Nat} (h : n ≤ 100000) : n ≤ sizeLine := by
  have e : sizeLine = 16777216 := by decide
  omega
theorem add_S (a b : List Nat) (h : a.length + b.length ≤ 100000) : gAdd (.str (S a)) (.str (S b)) = some (.str (S (a ++ b))) := by
  have hz : a.length + b.length ≤ 16777216 := by omega
  simp [gAdd, gAddI, gI0, gAddS, S_len, S_app, sizeLine, hz]
theorem cut_S (l : List Nat) (i j : Nat) (hi : i ≤ l.length) (hij : i ≤ j) (hl : l.length ≤ 100000) : gSl (.str (S l)) (some (i : Int)) (some (j : Int)) = some (.str (S ((l.drop i).take (j - i)))) := by
  simp only [gSl]
  rw [if_pos (by rw [S_len]; exact sz hl)]
  congr 2
  unfold cutS
  rw [S_len]
  have e1 : HT.sIx l.length 0 (some (i : Int)) = i := by
    simp only [HT.sIx]
    split <;> omega
  have e2 : HT.sIx l.length l.length (some (j : Int)) = min j l.length := by
    simp only [HT.sIx]
    split <;> omega
  rw [e1, e2]
  unfold S
  congr 2
  by_cases c : j ≤ l.length
  · rw [Nat.min_eq_left c]
  · rw [Nat.min_eq_right (by omega)]
    rw [List.take_of_length_le (by rw [List.length_drop]; exact Nat.le_refl _), List.take_of_length_le (by rw [List.length_drop]; omega)]
def nums (a b n k : Int) : D := .tup [.int a, .int b, .int n, .int k]
theorem bools_map {A : Type} (p : A → Bool) : ∀ l : List A, dBools (l.map fun x => .bl (p x)) = some (l.map p)
  | [] => rfl
  | x :: l => by rw [List.map_cons, dBools, bools_map p l]; rfl
theorem s_made_of (z g : Str) (hz : z.length ≤ 16777216) : f_is_made_of .non [.str z, .str g] = .ok (.bl (z.cps.toList.all fun c => decide (c ∈ g.cps.toList))) .non := by
  have h := mLc_map (m := mItems (mN 0)) (w := gN 2) (t := t_is_made_of_1) (el := e_is_made_of_1) (vs := [2]) (e := [.val (.str z), .val (.str g), .no]) (e1 := [.val (.str z), .val (.str g), .no]) (xs := z.cps.toList) (fun c => .str ⟨#[c]⟩) (fun c => .bl (decide (c ∈ g.cps.toList))) (by simp [mItems, mN, bnd, opt, dItems]) (by simpa [Str.length] using hz) (fun c hc => by
    refine ⟨[.val (.str z), .val (.str g), .val (.str ⟨#[c]⟩)], [.val (.str z), .val (.str g), .val (.str ⟨#[c]⟩)], [.val (.str z), .val (.str g), .val (.str ⟨#[c]⟩)], rfl, rfl, ?_, rfl⟩
    simp [e_is_made_of_1, m2, bnd, mN, opt, gIn, gInG])
  have ha : gAll (.lst (z.cps.toList.map fun c => D.bl (decide (c ∈ g.cps.toList)))) = some (.bl (z.cps.toList.all fun c => decide (c ∈ g.cps.toList))) := by
    simp only [gAll, bools_map]
    simp [List.all_map]
  have k1 : isB_str (.str z) = some true := rfl
  have e0 : st0 3 [.str z, .str g] = [.val (.str z), .val (.str g), .no] := rfl
  generalize (z.cps.toList.map fun c => D.bl (decide (c ∈ g.cps.toList))) = L at h ha
  generalize (z.cps.toList.all fun c => decide (c ∈ g.cps.toList)) = B at ha ⊢
  simp [f_is_made_of, b_is_made_of, mkF0, e0, h, k1, ha, mAndV, mIsi, m1, bnd, mN, opt, Sr.ret, asB, sRet, fin0]
def okChk (z : Str) : Bool := (z.cps.toList.all fun c => decide (c ∈ ("+-" : Str).cps.toList)) && decide (z.length ≤ 60)
theorem pm_eq : gAdd (.str "+") (.str "-") = some (.str "+-") := by kernel_rfl
theorem s_check_ok (z : Str) (h : okChk z = true) : f_check_checks .non [.str z] = .ok .non .non := by
  unfold okChk at h
  rw [Bool.and_eq_true, decide_eq_true_eq] at h
  have hm := s_made_of z "+-" (by omega)
  rw [h.1] at hm
  have hg : gLen (.str z) = some (.int (z.length : Nat)) := by simp only [gLen]; rw [if_pos (by have e : sizeLine = 16777216 := by decide
                                                                                                omega)]
  have hl : ¬ (60 < (z.length : Int)) := by omega
  simp [f_check_checks, b_check_checks, hm, pm_eq, hg, hl, mkF0, mkF1, fin0, fin1, st0, st1, bnd, Sr.ret, opt, mN, mNB, mB, der, m1, m2, m2b, m2r, mT, asB, mChain, mAnd, mOr, mNot, mAndV, mOrV, mNotV, mIf, mNil, mCons, mTup, mLst, mIsN, mNotN, Sr.isNon, mCal, mCal1, mIsi, mFldB, gFld, mC0, mC1, ap0, ap1, chkO, chkL, putL, mMk, apM, skp, sq, sDrop, sRet, sRetO, sIf, sSet, sSetO, sAsg, sPar, gN, gsN, gsC, gT, gA, sApp, sPutI, sNever, mItems, dItems, mRng, mRng2, gRng, gRng2, sFor, turn, gI, gI0, gLt, gLe, gGt, gGe, gAddI, gAddS, gAddT, gAddL, Sr.gSub, gMul, gMulI, gDiv, gMod, gPow, gNeg, gEq, gNe, dEq, eqS, gInt1, gMax2, gMin2, gAbs, gIx, gLtT, dInts, putD, gIsi, dKind, tInt, tOnly, List.map_cons, List.map_nil, List.length_cons, List.length_nil, List.cons_append, List.nil_append, List.getElem?_cons_zero, List.getElem?_cons_succ, List.set_cons_zero, List.set_cons_succ, List.replicate, Option.some_or, Option.none_or, Option.map_some, Option.map_none, Option.bind_some, Option.bind_none]
theorem chk_ok (w : List Bool) (h : w.length ≤ 60) : okChk (chk w) = true := by
  unfold okChk
  rw [chk_len, decide_eq_true h, Bool.and_true, List.all_eq_true]
  intro c hc
  have hc : c ∈ w.map (fun b => if b then 43 else 45) := hc
  rw [List.mem_map] at hc
  obtain ⟨b, _, rfl⟩ := hc
  cases b <;> decide
theorem ix_pm (r : Int) (h0 : 0 ≤ r) (h1 : r < 2) : ∃ b, gIx (.str "+-") (.int r) = some (.str (chk [b])) := by
  have : r = 0 ∨ r = 1 := by omega
  rcases this with rfl | rfl
  · exact ⟨true, by kernel_rfl⟩
  · exact ⟨false, by kernel_rfl⟩
theorem ix_last (u : List Bool) (h : u ≠ []) (hl : u.length ≤ 10000) : ∃ b, gIx (.str (chk u)) (.int (-1)) = some (.str (chk [b])) := by
  have hz : (chk u).length ≤ sizeLine := by rw [chk_len]; have e : sizeLine = 16777216 := by decide
                                            omega
  have hpos : 0 < u.length := List.length_pos_iff.mpr h
  have hn : (chk u).cps.toList.length = u.length := by unfold chk; simp
  refine ⟨u[u.length - 1]'(by omega), ?_⟩
  simp only [gIx]
  rw [if_pos hz]
  have ha : L2.atI (chk u).cps.toList (-1) = some ((chk u).cps.toList[u.length - 1]'(by omega)) := by
    have hi : L2.ixN (chk u).cps.toList.length (-1) = some (u.length - 1) := by
      rw [hn]
      unfold L2.ixN
      simp
      omega
    unfold L2.atI
    rw [hi]
    exact List.getElem?_eq_getElem (by omega)
  rw [ha]
  unfold chk
  simp
theorem ne_empty (u : List Bool) : gNe (.str (chk u)) (.str "") = some (.bl (!u.isEmpty)) := by
  have e : ("" : Str) = chk [] := by decide
  have h : decide (chk u = chk []) = u.isEmpty := by
    cases u with
    | nil => rfl
    | cons b u =>
      have : ¬ chk (b :: u) = chk [] := fun z => by
        have := congrArg Str.length z
        simp [chk_len] at this
      simp [this]
  rw [e]
  simp only [gNe, dEq, eqS, h]
  rfl
theorem t_checks (o most size : Int → D) (x1 x2 : Sl) (o : D) (ho : PenOk o) (way : Int) (hw : 0 ≤ way ∧ way < 3) (u : List Bool) (hu : u.length ≤ 1000) (j5 : Sl) (d : D) :
    ∃ u' o' k5, turn (gN 5) l__law_checks_1 d [.own o, x1, x2, .val (.int way), .val (.str (chk u)), j5] = .ok .nx [.own o', x1, x2, .val (.int way), .val (.str (chk u')), k5] ∧ u'.length = u.length + 1 ∧ PenOk o' := by
  have hadd : ∀ b, gAdd (.str (chk u)) (.str (chk [b])) = some (.str (chk (u ++ [b]))) := fun b => by
    have hz : u.length + 1 ≤ 16777216 := by omega
    simp [gAdd, gAddI, gI0, gAddS, chk_len, chk_app, sizeLine, hz]
  have hne := ne_empty u
  have plain : ∀ o, PenOk o → ∃ b o', mN 4 = mN 4 ∧ f__law_draw o [.int 2] = .ok b o' ∧ (∃ c, gIx (.str "+-") b = some (.str (chk [c]))) ∧ PenOk o' := fun o ho => by
    obtain ⟨r, o1, e1, h1, h2, v1⟩ := s_draw o 2 ho (by omega) (by omega)
    exact ⟨.int r, o1, rfl, e1, ix_pm r h1 h2, v1⟩
  by_cases hway : 0 < way
  · cases hE : u.isEmpty with
    | true =>
      rw [hE] at hne
      obtain ⟨b, o', _, e1, ⟨c, e2⟩, v1⟩ := plain o ho
      exact ⟨u ++ [c], o', _, by simp [l__law_checks_1, hway, hne, e1, e2, hadd, mkF0, mkF1, fin0, fin1, st0, st1, bnd, Sr.ret, opt, mN, mNB, mB, der, m1, m2, m2b, m2r, mT, asB, mChain, mAnd, mOr, mNot, mAndV, mOrV, mNotV, mIf, mNil, mCons, mTup, mLst, mIsN, mNotN, Sr.isNon, mCal, mCal1, mIsi, mFldB, gFld, mC0, mC1, ap0, ap1, chkO, chkL, putL, mMk, apM, skp, sq, sDrop, sRet, sRetO, sIf, sSet, sSetO, sAsg, sPar, gN, gsN, gsC, gT, gA, sApp, sPutI, sNever, mItems, dItems, mRng, mRng2, gRng, gRng2, sFor, turn, gI, gI0, gLt, gLe, gGt, gGe, gAddI, gAddS, gAddT, gAddL, Sr.gSub, gMul, gMulI, gDiv, gMod, gPow, gNeg, gEq, dEq, eqS, gLen, gInt1, gMax2, gMin2, gAbs, gLtT, dInts, putD, gIsi, dKind, tInt, tOnly, List.map_cons, List.map_nil, List.length_cons, List.length_nil, List.cons_append, List.nil_append, List.getElem?_cons_zero, List.getElem?_cons_succ, List.set_cons_zero, List.set_cons_succ, List.replicate, Option.some_or, Option.none_or, Option.map_some, Option.map_none, Option.bind_some, Option.bind_none]; rfl, by simp, v1⟩
    | false =>
      rw [hE] at hne
      obtain ⟨r, o1, e3, h3, h4, v3⟩ := s_draw o (2 + way) ho (by omega) (by omega)
      have hsum : gAdd (.int 2) (.int way) = some (.int (2 + way)) := rfl
      by_cases hr : 0 < r
      · obtain ⟨c, e2⟩ := ix_last u (by intro z; rw [z] at hE; cases hE) (by omega)
        exact ⟨u ++ [c], o1, _, by simp [l__law_checks_1, hway, hne, hsum, e3, hr, e2, hadd, mkF0, mkF1, fin0, fin1, st0, st1, bnd, Sr.ret, opt, mN, mNB, mB, der, m1, m2, m2b, m2r, mT, asB, mChain, mAnd, mOr, mNot, mAndV, mOrV, mNotV, mIf, mNil, mCons, mTup, mLst, mIsN, mNotN, Sr.isNon, mCal, mCal1, mIsi, mFldB, gFld, mC0, mC1, ap0, ap1, chkO, chkL, putL, mMk, apM, skp, sq, sDrop, sRet, sRetO, sIf, sSet, sSetO, sAsg, sPar, gN, gsN, gsC, gT, gA, sApp, sPutI, sNever, mItems, dItems, mRng, mRng2, gRng, gRng2, sFor, turn, gI, gI0, gLt, gLe, gGt, gGe, gAddI, gAddS, gAddT, gAddL, Sr.gSub, gMul, gMulI, gDiv, gMod, gPow, gNeg, gEq, dEq, eqS, gLen, gInt1, gMax2, gMin2, gAbs, gLtT, dInts, putD, gIsi, dKind, tInt, tOnly, List.map_cons, List.map_nil, List.length_cons, List.length_nil, List.cons_append, List.nil_append, List.getElem?_cons_zero, List.getElem?_cons_succ, List.set_cons_zero, List.set_cons_succ, List.replicate, Option.some_or, Option.none_or, Option.map_some, Option.map_none, Option.bind_some, Option.bind_none]; rfl, by simp, v3⟩
      · obtain ⟨b, o', _, e1, ⟨c, e2⟩, v1⟩ := plain o1 v3
        exact ⟨u ++ [c], o', _, by simp [l__law_checks_1, hway, hne, hsum, e3, hr, e1, e2, hadd, mkF0, mkF1, fin0, fin1, st0, st1, bnd, Sr.ret, opt, mN, mNB, mB, der, m1, m2, m2b, m2r, mT, asB, mChain, mAnd, mOr, mNot, mAndV, mOrV, mNotV, mIf, mNil, mCons, mTup, mLst, mIsN, mNotN, Sr.isNon, mCal, mCal1, mIsi, mFldB, gFld, mC0, mC1, ap0, ap1, chkO, chkL, putL, mMk, apM, skp, sq, sDrop, sRet, sRetO, sIf, sSet, sSetO, sAsg, sPar, gN, gsN, gsC, gT, gA, sApp, sPutI, sNever, mItems, dItems, mRng, mRng2, gRng, gRng2, sFor, turn, gI, gI0, gLt, gLe, gGt, gGe, gAddI, gAddS, gAddT, gAddL, Sr.gSub, gMul, gMulI, gDiv, gMod, gPow, gNeg, gEq, dEq, eqS, gLen, gInt1, gMax2, gMin2, gAbs, gLtT, dInts, putD, gIsi, dKind, tInt, tOnly, List.map_cons, List.map_nil, List.length_cons, List.length_nil, List.cons_append, List.nil_append, List.getElem?_cons_zero, List.getElem?_cons_succ, List.set_cons_zero, List.set_cons_succ, List.replicate, Option.some_or, Option.none_or, Option.map_some, Option.map_none, Option.bind_some, Option.bind_none]; rfl, by simp, v1⟩
  · obtain ⟨b, o', _, e1, ⟨c, e2⟩, v1⟩ := plain o ho
    exact ⟨u ++ [c], o', _, by simp [l__law_checks_1, hway, e1, e2, hadd, mkF0, mkF1, fin0, fin1, st0, st1, bnd, Sr.ret, opt, mN, mNB, mB, der, m1, m2, m2b, m2r, mT, asB, mChain, mAnd, mOr, mNot, mAndV, mOrV, mNotV, mIf, mNil, mCons, mTup, mLst, mIsN, mNotN, Sr.isNon, mCal, mCal1, mIsi, mFldB, gFld, mC0, mC1, ap0, ap1, chkO, chkL, putL, mMk, apM, skp, sq, sDrop, sRet, sRetO, sIf, sSet, sSetO, sAsg, sPar, gN, gsN, gsC, gT, gA, sApp, sPutI, sNever, mItems, dItems, mRng, mRng2, gRng, gRng2, sFor, turn, gI, gI0, gLt, gLe, gGt, gGe, gAddI, gAddS, gAddT, gAddL, Sr.gSub, gMul, gMulI, gDiv, gMod, gPow, gNeg, gEq, dEq, eqS, gLen, gInt1, gMax2, gMin2, gAbs, gLtT, dInts, putD, gIsi, dKind, tInt, tOnly, List.map_cons, List.map_nil, List.length_cons, List.length_nil, List.cons_append, List.nil_append, List.getElem?_cons_zero, List.getElem?_cons_succ, List.set_cons_zero, List.set_cons_succ, List.replicate, Option.some_or, Option.none_or, Option.map_some, Option.map_none, Option.bind_some, Option.bind_none]; rfl, by simp, v1⟩
theorem s_checks (o : D) (ho : PenOk o) (most : Int) (h0 : 0 ≤ most) (h1 : most ≤ 300) : ∃ w o', f__law_checks o [.int most] = .ok (.str (chk w)) o' ∧ (w.length : Int) ≤ most ∧ PenOk o' := by
  obtain ⟨n, o1, e1, g1, g2, v1⟩ := s_draw o (most + 1) ho (by omega) (by omega)
  obtain ⟨way, o2, e2, g3, g4, v2⟩ := s_draw o1 3 v1 (by omega) (by omega)
  have H := forL_map (w := gN 5) (b := l__law_checks_1) D.int (fun (k : Nat) e => ∃ (u : List Bool) (o' : D) (k5 : Sl), e = [.own o', .val (.int most), .val (.int n), .val (.int way), .val (.str (chk u)), k5] ∧ u.length = k ∧ PenOk o') (fun k _ => k + 1) 0 (irng 0 n) [.own o2, .val (.int most), .val (.int n), .val (.int way), .val (.str (chk [])), .no]
    (by
      rintro pre x post hp e ⟨u, o', k5, rfl, hu, vo⟩
      have hl : pre.length ≤ n.toNat := by
        have := congrArg List.length hp
        simp [irng] at this
        omega
      have hf : ∀ (l : List Int) (a : Nat), l.foldl (fun k _ => k + 1) a = a + l.length := by
        intro l
        induction l with
        | nil => intro a; rfl
        | cons y l ih => intro a; rw [List.foldl_cons, ih, List.length_cons]; omega
      rw [hf] at hu ⊢
      obtain ⟨u', o'', k5', h, hlen, v⟩ := t_checks (fun _ => .non) (fun _ => .non) (fun _ => .non) (.val (.int most)) (.val (.int n)) o' vo way ⟨g3, g4⟩ u (by omega) k5 (.int x)
      exact ⟨_, h, u', o'', k5', rfl, by omega, v⟩)
    ⟨[], o2, .no, rfl, rfl, v2⟩
  obtain ⟨e', h, u, o', k5, rfl, hu, vo⟩ := H
  have hf : ∀ (l : List Int) (a : Nat), l.foldl (fun k _ => k + 1) a = a + l.length := by
    intro l
    induction l with
    | nil => intro a; rfl
    | cons y l ih => intro a; rw [List.foldl_cons, ih, List.length_cons]; omega
  rw [hf] at hu
  have hlen : (irng 0 n).length = n.toNat := by simp [irng]
  have hok : okR n = true := by unfold okR; simp; omega
  have em : ("" : Str) = chk [] := by decide
  have hr : gRng [.int n] = some ((irng 0 n).map D.int) := by simp only [gRng, hok, if_true]; rw [rngL_eq]
  refine ⟨u, o', ?_, by omega, vo⟩
  have hsum : gAdd (.int most) (.int 1) = some (.int (most + 1)) := rfl
  simp [f__law_checks, b__law_checks, hsum, e1, e2, em, hr, h, mkF0, mkF1, fin0, fin1, st0, st1, bnd, Sr.ret, opt, mN, mNB, mB, der, m1, m2, m2b, m2r, mT, asB, mChain, mAnd, mOr, mNot, mAndV, mOrV, mNotV, mIf, mNil, mCons, mTup, mLst, mIsN, mNotN, Sr.isNon, mCal, mCal1, mIsi, mFldB, gFld, mC0, mC1, ap0, ap1, chkO, chkL, putL, mMk, apM, skp, sq, sDrop, sRet, sRetO, sIf, sSet, sSetO, sAsg, sPar, gN, gsN, gsC, gT, gA, sApp, sPutI, sNever, mItems, dItems, mRng, mRng2, gRng2, sFor, turn, gI, gI0, gLt, gLe, gGt, gGe, gAddI, gAddS, gAddT, gAddL, Sr.gSub, gMul, gMulI, gDiv, gMod, gPow, gNeg, gEq, gNe, dEq, eqS, gLen, gInt1, gMax2, gMin2, gAbs, gIx, gLtT, dInts, putD, gIsi, dKind, tInt, tOnly, List.map_cons, List.map_nil, List.length_cons, List.length_nil, List.cons_append, List.nil_append, List.getElem?_cons_zero, List.getElem?_cons_succ, List.set_cons_zero, List.set_cons_succ, List.replicate, Option.some_or, Option.none_or, Option.map_some, Option.map_none, Option.bind_some, Option.bind_none]
theorem t_p1 (b : Bool) (n : Int) (h0 : 0 ≤ n) (h1 : n < 1000000) (x0 x1 x2 j : Sl) : turn (gN 4) l_packed_1 (.str (chk [b])) [x0, x1, x2, .val (.int n), j] = .ok .nx [x0, x1, x2, .val (.int (n * 2 + By.bit b)), .val (.str (chk [b]))] := by
  have c : cMul n 2 = true := cmul_l (by omega) (by omega)
  have g : gEq (.str (chk [b])) (.str "+") = some (.bl b) := by cases b <;> kernel_rfl
  cases b <;> simp [l_packed_1, g, c, By.bit, mkF0, mkF1, fin0, fin1, st0, st1, bnd, Sr.ret, opt, mN, mNB, mB, der, m1, m2, m2b, m2r, mT, asB, mChain, mAnd, mOr, mNot, mAndV, mOrV, mNotV, mIf, mNil, mCons, mTup, mLst, mIsN, mNotN, Sr.isNon, mCal, mCal1, mIsi, mFldB, gFld, mC0, mC1, ap0, ap1, chkO, chkL, putL, mMk, apM, skp, sq, sDrop, sRet, sRetO, sIf, sSet, sSetO, sAsg, sPar, gN, gsN, gsC, gT, gA, sApp, sPutI, sNever, mItems, dItems, mRng, mRng2, gRng, gRng2, sFor, turn, gI, gI0, gLt, gLe, gGt, gGe, gAdd, gAddI, gAddS, gAddT, gAddL, Sr.gSub, gMul, gMulI, gDiv, gMod, gPow, gNeg, gNe, dEq, eqS, gLen, gInt1, gMax2, gMin2, gAbs, gIx, gLtT, dInts, putD, gIsi, dKind, tInt, tOnly, List.map_cons, List.map_nil, List.length_cons, List.length_nil, List.cons_append, List.nil_append, List.getElem?_cons_zero, List.getElem?_cons_succ, List.set_cons_zero, List.set_cons_succ, List.replicate, Option.some_or, Option.none_or, Option.map_some, Option.map_none, Option.bind_some, Option.bind_none]
theorem f_p1 (x0 x1 x2 : Sl) : ∀ (l : List Bool) (m : Nat) (n : Int) (j : Sl), m + l.length ≤ 15 → 0 ≤ n → n < 2 ^ m → ∃ k, forL (gN 4) l_packed_1 (l.map fun b => .str (chk [b])) [x0, x1, x2, .val (.int n), j] = .ok .nx [x0, x1, x2, .val (.int (l.foldl (fun n b => n * 2 + By.bit b) n)), k]
  | [], m, n, j, _, _, _ => ⟨j, rfl⟩
  | b :: l, m, n, j, hm, h0, h1 => by
    have hb : 0 ≤ By.bit b ∧ By.bit b ≤ 1 := by cases b <;> decide
    have hp : (2 : Int) ^ (m + 1) = 2 ^ m * 2 := Int.pow_succ ..
    have hle : (2 : Int) ^ m ≤ 2 ^ 15 := by
      have h := Nat.pow_le_pow_right (show 0 < 2 by decide) (show m ≤ 15 by simp at hm; omega)
      exact_mod_cast h
    obtain ⟨k, ih⟩ := f_p1 x0 x1 x2 l (m + 1) (n * 2 + By.bit b) (.val (.str (chk [b]))) (by simp at hm; omega) (by omega) (by omega)
    exact ⟨k, by rw [List.map_cons]; exact (forL_cons_nx (t_p1 b n h0 (by omega) x0 x1 x2 j)).trans ih⟩
theorem sl_to (l : List Nat) (j : Nat) (hl : l.length ≤ 100000) : gSl (.str (S l)) none (some (j : Int)) = some (.str (S (l.take j))) := by
  simp only [gSl]
  rw [if_pos (by rw [S_len]; exact sz hl)]
  congr 2
  unfold cutS
  rw [S_len]
  have e2 : HT.sIx l.length l.length (some (j : Int)) = min j l.length := by
    simp only [HT.sIx]
    split <;> omega
  rw [e2]
  unfold S
  congr 2
  show (l.drop 0).take (min j l.length - 0) = l.take j
  rw [List.drop_zero, Nat.sub_zero]
  by_cases c : j ≤ l.length
  · rw [Nat.min_eq_left c]
  · rw [Nat.min_eq_right (by omega), List.take_of_length_le (Nat.le_refl _), List.take_of_length_le (by omega)]
theorem sl_toC (w : List Bool) (j : Nat) (hl : w.length ≤ 100000) : gSl (.str (chk w)) none (some (j : Int)) = some (.str (chk (w.take j))) := by
  have h := sl_to (w.map fun b => if b then 43 else 45) j (by simpa using hl)
  rw [← List.map_take] at h
  exact h
theorem cutC (w : List Bool) (i j : Nat) (hi : i ≤ w.length) (hij : i ≤ j) (hl : w.length ≤ 100000) : gSl (.str (chk w)) (some (i : Int)) (some (j : Int)) = some (.str (chk ((w.drop i).take (j - i)))) := by
  have h := cut_S (w.map fun b => if b then 43 else 45) i j (by simpa using hi) hij (by simpa using hl)
  rw [← List.map_drop, ← List.map_take] at h
  exact h
theorem addC (u w : List Bool) (h : u.length + w.length ≤ 100000) : gAdd (.str (chk u)) (.str (chk w)) = some (.str (chk (u ++ w))) := by
  have h := add_S (u.map fun b => if b then 43 else 45) (w.map fun b => if b then 43 else 45) (by simpa using h)
  rw [← List.map_append] at h
  exact h
theorem pad8 (w : List Bool) (k : Nat) (h : 8 * k ≤ w.length) : (((w.drop (8 * k)).take 8) ++ List.replicate 8 false).take 8 = By.at8 w k := by
  apply List.ext_getElem?
  intro i
  unfold By.at8
  by_cases hi : i < 8
  · rw [List.getElem?_take_of_lt hi, List.getElem?_map, List.getElem?_range hi, Option.map_some, List.getD_eq_getElem?_getD]
    by_cases h2 : 8 * k + i < w.length
    · rw [List.getElem?_append_left (by simp; omega), List.getElem?_take_of_lt hi, List.getElem?_drop, List.getElem?_eq_getElem h2]
      rfl
    · rw [List.getElem?_append_right (by simp; omega), List.getElem?_eq_none (by omega : w.length ≤ 8 * k + i), List.getElem?_replicate]
      rw [if_pos (by simp; omega)]
      rfl
  · rw [List.getElem?_eq_none (by simp; omega), List.getElem?_eq_none (by simp; omega)]
theorem b_p2 (Z K U A V : D) (d : Int) (xs : List D) (acc : List D) (v : Int) (j2 j3 j4 k4 : Sl) (h0 : gAdd (.int d) (.int 8) = some (.int (d + 8))) (h1 : gSl Z (some d) (some (d + 8)) = some U) (hm : gMulA (.str "-") (.int 8) = some A) (h2 : gAdd U A = some V) (h3 : gSl V none (some 8) = some K) (hK : dItems K = some xs) (X : List D → M Fl) (hX : forL (gN 4) l_packed_1 = X)
    (f : X xs [.val Z, .own (.lst acc), .val (.int d), .val (.int 0), j4] = .ok .nx [.val Z, .own (.lst acc), .val (.int d), .val (.int v), k4]) (hl : acc.length < sizeLine) :
    turn (gN 2) l_packed_2 (.int d) [.val Z, .own (.lst acc), j2, j3, j4] = .ok .nx [.val Z, .own (.lst (acc ++ [.int v])), .val (.int d), .val (.int v), k4] := by
  simp only [l_packed_2, sFor, hX]
  simp [mSl, mPart, mNoP, asI, h0, h1, hm, h2, h3, hK, f, hl, mkF0, mkF1, fin0, fin1, st0, st1, bnd, Sr.ret, opt, mN, mNB, mB, der, m1, m2, m2b, m2r, mT, asB, mChain, mAnd, mOr, mNot, mAndV, mOrV, mNotV, mIf, mNil, mCons, mTup, mLst, mIsN, mNotN, Sr.isNon, mCal, mCal1, mIsi, mFldB, gFld, mC0, mC1, ap0, ap1, chkO, chkL, putL, mMk, apM, skp, sq, sDrop, sRet, sRetO, sIf, sSet, sSetO, sAsg, sPar, gN, gsN, gsC, gT, gA, sApp, sPutI, sNever, mItems, mRng, mRng2, gRng, gRng2, turn, gI, gI0, gLt, gLe, gGt, gGe, gAddI, gAddS, gAddT, gAddL, Sr.gSub, gMul, gMulI, gDiv, gMod, gPow, gNeg, gEq, gNe, dEq, eqS, gLen, gInt1, gMax2, gMin2, gAbs, gIx, gLtT, dInts, putD, gIsi, dKind, tInt, tOnly, List.map_cons, List.map_nil, List.length_cons, List.length_nil, List.cons_append, List.nil_append, List.getElem?_cons_zero, List.getElem?_cons_succ, List.set_cons_zero, List.set_cons_succ, List.replicate, Option.some_or, Option.none_or, Option.map_some, Option.map_none, Option.bind_some, Option.bind_none]
theorem t_p2 (w : List Bool) (hw : w.length ≤ 1000) (k : Nat) (hk : 8 * k ≤ w.length) (acc : List D) (hl : acc.length < 10000) (j2 j3 j4 : Sl) : ∃ k4, turn (gN 2) l_packed_2 (.int (0 + (k : Int) * 8)) [.val (.str (chk w)), .own (.lst acc), j2, j3, j4] = .ok .nx [.val (.str (chk w)), .own (.lst (acc ++ [.int (By.v8 (By.at8 w k))])), .val (.int (0 + (k : Int) * 8)), .val (.int (By.v8 (By.at8 w k))), k4] := by
  have e : (0 + (k : Int) * 8) = ((8 * k : Nat) : Int) := by omega
  have e8 : (((8 * k : Nat) : Int) + 8) = ((8 * k + 8 : Nat) : Int) := by omega
  have hm : gMulA (.str "-") (.int 8) = some (.str (chk (List.replicate 8 false))) := by kernel_rfl
  have h1 := cutC w (8 * k) (8 * k + 8) hk (by omega) (by omega)
  have e3 : 8 * k + 8 - 8 * k = 8 := by omega
  rw [e3] at h1
  have h2 := addC ((w.drop (8 * k)).take 8) (List.replicate 8 false) (by simp; omega)
  have h3 := sl_toC (((w.drop (8 * k)).take 8) ++ List.replicate 8 false) 8 (by simp; omega)
  rw [pad8 w k hk] at h3
  have hK : dItems (.str (chk (By.at8 w k))) = some ((By.at8 w k).map fun b => .str (chk [b])) := by
    rw [← items_chk]; rfl
  obtain ⟨k4, f⟩ := f_p1 (.val (.str (chk w))) (.own (.lst acc)) (.val (.int (0 + (k : Int) * 8))) (By.at8 w k) 0 0 j4 (by rw [By.at8_len]; decide) (by decide) (by decide)
  have e0 : gAdd (.int (0 + (k : Int) * 8)) (.int 8) = some (.int (0 + (k : Int) * 8 + 8)) := rfl
  refine ⟨k4, b_p2 _ _ _ _ _ _ _ acc _ j2 j3 j4 k4 e0 ?_ hm h2 h3 hK _ rfl f (by have e : sizeLine = 16777216 := by decide
                                                                                 omega)⟩
  rw [e, e8]; exact h1
theorem small8 (L : Nat) (h : L ≤ 1000) : Builtin.Range.small 0 ((L : Nat) : Int) 8 = true := by
  have : ∀ L : Fin 1001, Builtin.Range.small 0 ((L.val : Nat) : Int) 8 = true := by decide +kernel
  exact this ⟨L, by omega⟩
theorem rng8 (w : List Bool) (h : w.length ≤ 1000) : gRng3 [.int 0, .int (w.length : Nat), .int 8] = some ((List.range (By.nb w)).map fun (k : Nat) => D.int (0 + (k : Int) * 8)) := by
  have hs := small8 w.length h
  have e : (Builtin.Range.rangeSize 0 ((w.length : Nat) : Int) 8).toNat = By.nb w := by
    unfold Builtin.Range.rangeSize By.nb
    rw [if_pos (by decide)]
    split <;> omega
  simp only [gRng3, hs, e]
  rw [if_pos (by decide)]
theorem dInts_map : ∀ l : List Int, dInts (l.map D.int) = some l
  | [] => rfl
  | n :: l => by rw [List.map_cons]; show (dInts (l.map D.int)).map _ = _; rw [dInts_map l]; rfl
theorem gbytes (l : List Int) (h : ∀ n ∈ l, 0 ≤ n ∧ n < 256) : gBytes (.lst (l.map D.int)) = some (bt l) := by
  simp only [gBytes, dInts_map]
  rw [if_pos]
  rw [List.all_eq_true]
  intro n hn
  unfold b8
  rw [decide_eq_true (h n hn).1, decide_eq_true (h n hn).2]; rfl
theorem len_chk (w : List Bool) (h : w.length ≤ 1000) : gLen (.str (chk w)) = some (.int (w.length : Nat)) := by
  simp only [gLen]
  rw [if_pos (by rw [chk_len]; exact sz (by omega)), chk_len]
theorem b_p (Z B : D) (n : Int) (xs acc : List D) (j2 j3 j4 : Sl) (hl : gLen Z = some (.int n)) (hr : gRng3 [.int 0, .int n, .int 8] = some xs) (X : List D → M Fl) (hX : forL (gN 2) l_packed_2 = X) (f : X xs [.val Z, .own (.lst [.int n]), .no, .no, .no] = .ok .nx [.val Z, .own (.lst acc), j2, j3, j4]) (hb : gBytes (.lst acc) = some B) :
    f_packed .non [Z] = .ok B .non := by
  have hz1 : (1 : Nat) ≤ sizeLine := by decide
  simp only [f_packed, b_packed, sFor, hX]
  simp [mRng3, hl, hr, f, hb, hz1, mkF0, mkF1, fin0, fin1, st0, st1, bnd, Sr.ret, opt, mN, mNB, mB, der, m1, m2, m2b, m2r, mT, asB, mChain, mAnd, mOr, mNot, mAndV, mOrV, mNotV, mIf, mNil, mCons, mTup, mLst, mIsN, mNotN, Sr.isNon, mCal, mCal1, mIsi, mFldB, gFld, mC0, mC1, ap0, ap1, chkO, chkL, putL, mMk, apM, skp, sq, sDrop, sRet, sRetO, sIf, sSet, sSetO, sAsg, sPar, gN, gsN, gsC, gT, gA, sApp, sPutI, sNever, mItems, dItems, mRng, mRng2, gRng, gRng2, turn, gI, gI0, gLt, gLe, gGt, gGe, gAdd, gAddI, gAddS, gAddT, gAddL, Sr.gSub, gMul, gMulI, gDiv, gMod, gPow, gNeg, gEq, gNe, dEq, eqS, gInt1, gMax2, gMin2, gAbs, gIx, gLtT, dInts, putD, gIsi, dKind, tInt, tOnly, List.map_cons, List.map_nil, List.length_cons, List.length_nil, List.cons_append, List.nil_append, List.getElem?_cons_zero, List.getElem?_cons_succ, List.set_cons_zero, List.set_cons_succ, List.replicate, Option.some_or, Option.none_or, Option.map_some, Option.map_none, Option.bind_some, Option.bind_none]
theorem s_packed (w : List Bool) (h : w.length ≤ 200) : f_packed .non [.str (chk w)] = .ok (bt (By.pkL w)) .non := by
  have hf : ∀ (l : List Nat) (a : List Int), l.foldl (fun (ns : List Int) k => ns ++ [By.v8 (By.at8 w k)]) a = a ++ l.map fun k => By.v8 (By.at8 w k) := by
    intro l
    induction l with
    | nil => intro a; simp
    | cons k l ih => intro a; rw [List.foldl_cons, ih, List.map_cons, List.append_assoc]; rfl
  obtain ⟨e', f, j2, j3, j4, rfl⟩ := forL_map (w := gN 2) (b := l_packed_2) (fun (k : Nat) => D.int (0 + (k : Int) * 8)) (fun (ns : List Int) e => ∃ j2 j3 j4, e = [.val (.str (chk w)), .own (.lst (ns.map D.int)), j2, j3, j4]) (fun ns k => ns ++ [By.v8 (By.at8 w k)]) [(w.length : Int)] (List.range (By.nb w)) [.val (.str (chk w)), .own (.lst [.int (w.length : Int)]), .no, .no, .no]
    (by
      rintro pre x post hp e ⟨j2, j3, j4, rfl⟩
      have hx : x < By.nb w := by
        have : x ∈ List.range (By.nb w) := by rw [hp]; simp
        simpa using this
      have hpl : pre.length ≤ By.nb w := by
        have := congrArg List.length hp
        simp at this
        omega
      have hnb : By.nb w ≤ 26 := by unfold By.nb; omega
      rw [hf]
      obtain ⟨k4, t⟩ := t_p2 w (by omega) x (by unfold By.nb at hx; omega) ((((w.length : Int) :: []) ++ pre.map fun k => By.v8 (By.at8 w k)).map D.int) (by simp; omega) j2 j3 j4
      refine ⟨_, t, .val (.int (0 + (x : Int) * 8)), .val (.int (By.v8 (By.at8 w x))), k4, ?_⟩
      rw [List.map_append (f := D.int) (l₂ := [By.v8 (By.at8 w x)])]
      rfl) ⟨.no, .no, .no, rfl⟩
  rw [hf] at f
  have e : [(w.length : Int)] ++ (List.range (By.nb w)).map (fun k => By.v8 (By.at8 w k)) = By.pkL w := rfl
  rw [e] at f
  exact b_p _ _ _ _ _ j2 j3 j4 (len_chk w (by omega)) (rng8 w (by omega)) _ rfl f (gbytes _ (By.pk_rng w (by omega)))
theorem s_pack (w : List Bool) (h : w.length ≤ 60) : f_pack .non [.str (chk w)] = .ok (bt (By.pkL w)) .non := by
  have h1 := s_check_ok (chk w) (chk_ok w h)
  have h2 := s_packed w (by omega)
  generalize D.str (chk w) = Z at *
  simp [f_pack, b_pack, h1, h2, mkF0, mkF1, fin0, fin1, st0, st1, bnd, Sr.ret, opt, mN, mNB, mB, der, m1, m2, m2b, m2r, mT, asB, mChain, mAnd, mOr, mNot, mAndV, mOrV, mNotV, mIf, mNil, mCons, mTup, mLst, mIsN, mNotN, Sr.isNon, mCal, mCal1, mIsi, mFldB, gFld, mC0, mC1, ap0, ap1, chkO, chkL, putL, mMk, apM, skp, sq, sDrop, sRet, sRetO, sIf, sSet, sSetO, sAsg, sPar, gN, gsN, gsC, gT, gA, sApp, sPutI, sNever, mItems, dItems, mRng, mRng2, gRng, gRng2, sFor, turn, gI, gI0, gLt, gLe, gGt, gGe, gAdd, gAddI, gAddS, gAddT, gAddL, Sr.gSub, gMul, gMulI, gDiv, gMod, gPow, gNeg, gEq, gNe, dEq, eqS, gLen, gInt1, gMax2, gMin2, gAbs, gIx, gLtT, dInts, putD, gIsi, dKind, tInt, tOnly, List.map_cons, List.map_nil, List.length_cons, List.length_nil, List.cons_append, List.nil_append, List.getElem?_cons_zero, List.getElem?_cons_succ, List.set_cons_zero, List.set_cons_succ, List.replicate, Option.some_or, Option.none_or, Option.map_some, Option.map_none, Option.bind_some, Option.bind_none]
theorem and1 (n : Int) (a : Nat) (h0 : 0 ≤ n) (h1 : n < 256) (ha : a < 8) : Builtin.bitAnd (n / 2 ^ a) 1 = n / 2 ^ a % 2 := by
  have H : ∀ (m : Fin 256) (a : Fin 8), Builtin.bitAnd (((m.val : Nat) : Int) / 2 ^ a.val) 1 = ((m.val : Nat) : Int) / 2 ^ a.val % 2 := by decide +kernel
  have := H ⟨n.toNat, by omega⟩ ⟨a, ha⟩
  have e : ((n.toNat : Nat) : Int) = n := by omega
  simp only [e] at this
  exact this
theorem b_u1 (n a x y : Int) (z sgn : Str) (B : Bool) (g1 : gShr (.int n) (.int a) = some (.int x)) (g2 : gAndI (.int x) (.int 1) = some (.int y)) (g3 : gEq (.int y) (.int 1) = some (.bl B)) (hs : (if B then ("+" : Str) else "-") = sgn) (hz : z.length + sgn.length ≤ sizeLine) (x0 j3 j4 : Sl) :
    turn (gN 3) l_unpack_1 (.int a) [x0, .val (.str z), .val (.int n), j3, j4] = .ok .nx [x0, .val (.str (z ++ sgn)), .val (.int n), .val (.int a), j4] := by
  subst hs
  cases B <;> simp at hz <;> simp [l_unpack_1, sAugS, g1, g2, g3, hz, mkF0, mkF1, fin0, fin1, st0, st1, bnd, Sr.ret, opt, mN, mNB, mB, der, m1, m2, m2b, m2r, mT, asB, mChain, mAnd, mOr, mNot, mAndV, mOrV, mNotV, mIf, mNil, mCons, mTup, mLst, mIsN, mNotN, Sr.isNon, mCal, mCal1, mIsi, mFldB, gFld, mC0, mC1, ap0, ap1, chkO, chkL, putL, mMk, apM, skp, sq, sDrop, sRet, sRetO, sIf, sSet, sSetO, sAsg, sPar, gN, gsN, gsC, gT, gA, sApp, sPutI, sNever, mItems, dItems, mRng, mRng2, gRng, gRng2, sFor, turn, gI, gI0, gLt, gLe, gGt, gGe, gAdd, gAddI, gAddS, gAddT, gAddL, Sr.gSub, gMul, gMulI, gDiv, gMod, gPow, gNeg, gNe, dEq, eqS, gLen, gInt1, gMax2, gMin2, gAbs, gIx, gLtT, dInts, putD, gIsi, dKind, tInt, tOnly, List.map_cons, List.map_nil, List.length_cons, List.length_nil, List.cons_append, List.nil_append, List.getElem?_cons_zero, List.getElem?_cons_succ, List.set_cons_zero, List.set_cons_succ, List.replicate, Option.some_or, Option.none_or, Option.map_some, Option.map_none, Option.bind_some, Option.bind_none]
theorem t_u1 (n : Int) (a : Nat) (h0 : 0 ≤ n) (h1 : n < 256) (ha : a < 8) (u : List Bool) (hu : u.length < 100000) (x0 j3 j4 : Sl) : turn (gN 3) l_unpack_1 (.int (a : Nat)) [x0, .val (.str (chk u)), .val (.int n), j3, j4] = .ok .nx [x0, .val (.str (chk (u ++ [decide (n / 2 ^ a % 2 = 1)]))), .val (.int n), .val (.int (a : Nat)), j4] := by
  have g1 : gShr (.int n) (.int (a : Nat)) = some (.int (n / 2 ^ a)) := by
    simp only [gShr, gI]
    rw [if_pos (by simp), Int.toNat_natCast]
  have g2 : gAndI (.int (n / 2 ^ a)) (.int 1) = some (.int (n / 2 ^ a % 2)) := by
    simp only [gAndI, gI0, and1 n a h0 h1 ha]
  have g3 : gEq (.int (n / 2 ^ a % 2)) (.int 1) = some (.bl (decide (n / 2 ^ a % 2 = 1))) := rfl
  have h := b_u1 n (a : Nat) _ _ (chk u) _ _ g1 g2 g3 (chk_one _) (by rw [chk_len, chk_len]; exact sz (by simp; omega)) x0 j3 j4
  rw [chk_app] at h
  exact h
theorem f_u1 (n : Int) (h0 : 0 ≤ n) (h1 : n < 256) (x0 j4 : Sl) : ∀ (as : List Nat), (∀ a ∈ as, a < 8) → ∀ (u : List Bool), u.length + as.length ≤ 100000 → ∀ j3, ∃ k3, forL (gN 3) l_unpack_1 (as.map fun (a : Nat) => .int (a : Nat)) [x0, .val (.str (chk u)), .val (.int n), j3, j4] = .ok .nx [x0, .val (.str (chk (u ++ as.map fun a => decide (n / 2 ^ a % 2 = 1)))), .val (.int n), k3, j4]
  | [], _, u, _, j3 => ⟨j3, by simp only [List.map_nil, List.append_nil]; rfl⟩
  | a :: as, ha, u, hu, j3 => by
    obtain ⟨k3, ih⟩ := f_u1 n h0 h1 x0 j4 as (fun b hb => ha b (by simp [hb])) (u ++ [decide (n / 2 ^ a % 2 = 1)]) (by simp at hu ⊢; omega) (.val (.int (a : Nat)))
    refine ⟨k3, ?_⟩
    rw [List.map_cons, (forL_cons_nx (t_u1 n a h0 h1 (ha a (by simp)) u (by simp at hu; omega) x0 j3 j4)), ih, List.append_assoc]
    rfl
theorem b_u2 (x0 j2 j3 j4 k3 : Sl) (n : Int) (z y : Str) (xs : List D) (hr : gRev1 (.int 8) = some xs) (X : List D → M Fl) (hX : forL (gN 3) l_unpack_1 = X) (f : X xs [x0, .val (.str z), .val (.int n), j3, j4] = .ok .nx [x0, .val (.str y), .val (.int n), k3, j4]) :
    turn (gN 2) l_unpack_2 (.int n) [x0, .val (.str z), j2, j3, j4] = .ok .nx [x0, .val (.str y), .val (.int n), k3, j4] := by
  simp only [l_unpack_2, sFor, hX]
  simp [mRevR, hr, f, mkF0, mkF1, fin0, fin1, st0, st1, bnd, Sr.ret, opt, mN, mNB, mB, der, m1, m2, m2b, m2r, mT, asB, mChain, mAnd, mOr, mNot, mAndV, mOrV, mNotV, mIf, mNil, mCons, mTup, mLst, mIsN, mNotN, Sr.isNon, mCal, mCal1, mIsi, mFldB, gFld, mC0, mC1, ap0, ap1, chkO, chkL, putL, mMk, apM, skp, sq, sDrop, sRet, sRetO, sIf, sSet, sSetO, sAsg, sPar, gN, gsN, gsC, gT, gA, sApp, sPutI, sNever, mItems, dItems, mRng, mRng2, gRng, gRng2, turn, gI, gI0, gLt, gLe, gGt, gGe, gAdd, gAddI, gAddS, gAddT, gAddL, Sr.gSub, gMul, gMulI, gDiv, gMod, gPow, gNeg, gEq, gNe, dEq, eqS, gLen, gInt1, gMax2, gMin2, gAbs, gIx, gLtT, dInts, putD, gIsi, dKind, tInt, tOnly, List.map_cons, List.map_nil, List.length_cons, List.length_nil, List.cons_append, List.nil_append, List.getElem?_cons_zero, List.getElem?_cons_succ, List.set_cons_zero, List.set_cons_succ, List.replicate, Option.some_or, Option.none_or, Option.map_some, Option.map_none, Option.bind_some, Option.bind_none]
theorem rev8 : gRev1 (.int 8) = some ([7, 6, 5, 4, 3, 2, 1, 0].map fun (a : Nat) => .int (a : Nat)) := by kernel_rfl
theorem b8s_eq (n : Int) : By.b8s n = [7, 6, 5, 4, 3, 2, 1, 0].map fun a => decide (n / 2 ^ a % 2 = 1) := rfl
theorem t_u2 (n : Int) (h0 : 0 ≤ n) (h1 : n < 256) (u : List Bool) (hu : u.length ≤ 90000) (x0 j2 j3 j4 : Sl) : ∃ k3, turn (gN 2) l_unpack_2 (.int n) [x0, .val (.str (chk u)), j2, j3, j4] = .ok .nx [x0, .val (.str (chk (u ++ By.b8s n))), .val (.int n), k3, j4] := by
  obtain ⟨k3, f⟩ := f_u1 n h0 h1 x0 j4 [7, 6, 5, 4, 3, 2, 1, 0] (by decide) u (by simp; omega) j3
  rw [← b8s_eq] at f
  exact ⟨k3, b_u2 _ _ _ _ _ n _ _ _ rev8 _ rfl f⟩
theorem f_u2 (x0 j4 : Sl) : ∀ (r : List Int), (∀ n ∈ r, 0 ≤ n ∧ n < 256) → ∀ (u : List Bool), u.length + 8 * r.length ≤ 90000 → ∀ j2 j3, ∃ k2 k3, forL (gN 2) l_unpack_2 (r.map D.int) [x0, .val (.str (chk u)), j2, j3, j4] = .ok .nx [x0, .val (.str (chk (u ++ By.bitsL r))), k2, k3, j4]
  | [], _, u, _, j2, j3 => ⟨j2, j3, by show _ = Out.ok Fl.nx [x0, .val (.str (chk (u ++ []))), j2, j3, j4]; rw [List.append_nil]; rfl⟩
  | n :: r, hr, u, hu, j2, j3 => by
    obtain ⟨k3, t⟩ := t_u2 n (hr n (by simp)).1 (hr n (by simp)).2 u (by simp at hu; omega) x0 j2 j3 j4
    obtain ⟨m2, m3, ih⟩ := f_u2 x0 j4 r (fun m hm => hr m (by simp [hm])) (u ++ By.b8s n) (by simp [By.b8s_len] at hu ⊢; omega) (.val (.int n)) k3
    refine ⟨m2, m3, ?_⟩
    rw [List.map_cons, forL_cons_nx t, ih, List.append_assoc]
    rfl
theorem bt_size (ns : List Int) : (byteArr ns).size = ns.length := byteArr_size ns
theorem len_bt (ns : List Int) (h : ns.length ≤ 1000) : gLen (bt ns) = some (.int (ns.length : Nat)) := by
  unfold bt
  simp only [gLen, bt_size]
  rw [if_pos (sz (by omega))]
theorem ix_bt0 (l : Int) (r : List Int) (hr : ∀ n ∈ l :: r, 0 ≤ n ∧ n < 256) (h : r.length ≤ 1000) : gIxY (bt (l :: r)) (.int 0) = some (.int l) := by
  unfold bt
  simp only [gIxY, bt_size, nB_bt hr]
  rw [if_pos]
  · rfl
  · have h2 : (l :: r).length ≤ sizeLine := sz (by simp; omega)
    have h3 : (0 : Int) < ((l :: r).length : Nat) := by rw [List.length_cons]; omega
    rw [decide_eq_true h2, decide_eq_true h3]; rfl
theorem sl_bt1 (l : Int) (r : List Int) (hr : ∀ n ∈ l :: r, 0 ≤ n ∧ n < 256) (h : r.length ≤ 1000) : gSlY (bt (l :: r)) (some 1) none = some (bt r) := by
  unfold bt
  simp only [gSlY, bt_size, nB_bt hr]
  rw [if_pos (by simp; omega)]
  congr 2
  unfold cutI
  have e : clipAt (l :: r).length 1 = 1 := by
    have := clipAt_nat (l :: r).length 1
    simp at this
    exact this.trans (by omega)
  show ((l :: r).drop (clipAt (l :: r).length 1)).take ((l :: r).length - clipAt (l :: r).length 1) = r
  rw [e]
  simp
theorem it_bt (r : List Int) (hr : ∀ n ∈ r, 0 ≤ n ∧ n < 256) : gItY (bt r) = some (r.map D.int) := by
  unfold bt
  simp only [gItY, nB_bt hr]
theorem bt_inj {a b : List Int} (ha : ∀ n ∈ a, 0 ≤ n ∧ n < 256) (hb : ∀ n ∈ b, 0 ≤ n ∧ n < 256) : byteArr a = byteArr b ↔ a = b := by
  constructor
  · intro h
    rw [← nB_bt ha, ← nB_bt hb, h]
  · rintro rfl; rfl
theorem ne_bt {a b : List Int} (ha : ∀ n ∈ a, 0 ≤ n ∧ n < 256) (hb : ∀ n ∈ b, 0 ≤ n ∧ n < 256) : gNe (bt a) (bt b) = some (.bl (!decide (a = b))) := by
  have h : (dEq (bt a) (bt b)) = some (decide (byteArr a = byteArr b)) := rfl
  have e : decide (byteArr a = byteArr b) = decide (a = b) := by rw [decide_eq_decide]; exact bt_inj ha hb
  simp only [gNe, h, e, Option.map_some]
theorem k_data : g__law_kindE ⟨"DataError", []⟩ = some (.str "data") := by kernel_rfl
theorem ct_data : ct_StatusError ("DataError" : Str) = some true := by decide
theorem b_unN (V : D) (h : isB_bytes V = some false) : f_unpack .non [V] = .exc ⟨"DataError", []⟩ .non := by
  simp [f_unpack, b_unpack, h, sRaise, mkF0, mkF1, fin0, fin1, st0, st1, bnd, Sr.ret, opt, mN, mNB, mB, der, m1, m2, m2b, m2r, mT, asB, mChain, mAnd, mOr, mNot, mAndV, mOrV, mNotV, mIf, mNil, mCons, mTup, mLst, mIsN, mNotN, Sr.isNon, mCal, mCal1, mIsi, mFldB, gFld, mC0, mC1, ap0, ap1, chkO, chkL, putL, mMk, apM, skp, sq, sDrop, sRet, sRetO, sIf, sSet, sSetO, sAsg, sPar, gN, gsN, gsC, gT, gA, sApp, sPutI, sNever, mItems, dItems, mRng, mRng2, gRng, gRng2, sFor, turn, gI, gI0, gLt, gLe, gGt, gGe, gAdd, gAddI, gAddS, gAddT, gAddL, Sr.gSub, gMul, gMulI, gDiv, gMod, gPow, gNeg, gEq, gNe, dEq, eqS, gLen, gInt1, gMax2, gMin2, gAbs, gIx, gLtT, dInts, putD, gIsi, dKind, tInt, tOnly, List.map_cons, List.map_nil, List.length_cons, List.length_nil, List.cons_append, List.nil_append, List.getElem?_cons_zero, List.getElem?_cons_succ, List.set_cons_zero, List.set_cons_succ, List.replicate, Option.some_or, Option.none_or, Option.map_some, Option.map_none, Option.bind_some, Option.bind_none]
theorem b_un0 (V : D) (h : isB_bytes V = some true) (hl : gLen V = some (.int 0)) : f_unpack .non [V] = .exc ⟨"DataError", []⟩ .non := by
  simp [f_unpack, b_unpack, h, hl, sRaise, mkF0, mkF1, fin0, fin1, st0, st1, bnd, Sr.ret, opt, mN, mNB, mB, der, m1, m2, m2b, m2r, mT, asB, mChain, mAnd, mOr, mNot, mAndV, mOrV, mNotV, mIf, mNil, mCons, mTup, mLst, mIsN, mNotN, Sr.isNon, mCal, mCal1, mIsi, mFldB, gFld, mC0, mC1, ap0, ap1, chkO, chkL, putL, mMk, apM, skp, sq, sDrop, sRet, sRetO, sIf, sSet, sSetO, sAsg, sPar, gN, gsN, gsC, gT, gA, sApp, sPutI, sNever, mItems, dItems, mRng, mRng2, gRng, gRng2, sFor, turn, gI, gI0, gLt, gLe, gGt, gGe, gAdd, gAddI, gAddS, gAddT, gAddL, Sr.gSub, gMul, gMulI, gDiv, gMod, gPow, gNeg, gEq, gNe, dEq, eqS, gInt1, gMax2, gMin2, gAbs, gIx, gLtT, dInts, putD, gIsi, dKind, tInt, tOnly, List.map_cons, List.map_nil, List.length_cons, List.length_nil, List.cons_append, List.nil_append, List.getElem?_cons_zero, List.getElem?_cons_succ, List.set_cons_zero, List.set_cons_succ, List.replicate, Option.some_or, Option.none_or, Option.map_some, Option.map_none, Option.bind_some, Option.bind_none]
theorem b_un60 (V : D) (m l : Int) (h : isB_bytes V = some true) (hl : gLen V = some (.int m)) (hm : m ≠ 0) (hi : gIxY V (.int 0) = some (.int l)) (h60 : 60 < l) : f_unpack .non [V] = .exc ⟨"DataError", []⟩ .non := by
  have e : gEq (.int m) (.int 0) = some (.bl false) := by simp [gEq, dEq, eqS, hm]
  simp [f_unpack, b_unpack, h, hl, e, hi, h60, sRaise, mkF0, mkF1, fin0, fin1, st0, st1, bnd, Sr.ret, opt, mN, mNB, mB, der, m1, m2, m2b, m2r, mT, asB, mChain, mAnd, mOr, mNot, mAndV, mOrV, mNotV, mIf, mNil, mCons, mTup, mLst, mIsN, mNotN, Sr.isNon, mCal, mCal1, mIsi, mFldB, gFld, mC0, mC1, ap0, ap1, chkO, chkL, putL, mMk, apM, skp, sq, sDrop, sRet, sRetO, sIf, sSet, sSetO, sAsg, sPar, gN, gsN, gsC, gT, gA, sApp, sPutI, sNever, mItems, dItems, mRng, mRng2, gRng, gRng2, sFor, turn, gI, gI0, gLt, gLe, gGt, gGe, gAdd, gAddI, gAddS, gAddT, gAddL, Sr.gSub, gMul, gMulI, gDiv, gMod, gPow, gNeg, gNe, dEq, eqS, gInt1, gMax2, gMin2, gAbs, gIx, gLtT, dInts, putD, gIsi, dKind, tInt, tOnly, List.map_cons, List.map_nil, List.length_cons, List.length_nil, List.cons_append, List.nil_append, List.getElem?_cons_zero, List.getElem?_cons_succ, List.set_cons_zero, List.set_cons_succ, List.replicate, Option.some_or, Option.none_or, Option.map_some, Option.map_none, Option.bind_some, Option.bind_none]
theorem b_unG (V R C P : D) (m l : Int) (z : Str) (xs : List D) (B : Bool) (k2 k3 : Sl) (h : isB_bytes V = some true) (hl : gLen V = some (.int m)) (hm : m ≠ 0) (hi : gIxY V (.int 0) = some (.int l)) (h60 : ¬ 60 < l) (h1 : gSlY V (some 1) none = some R) (h2 : gItY R = some xs) (X : List D → M Fl) (hX : forL (gN 2) l_unpack_2 = X)
    (f : X xs [.val V, .val (.str ""), .no, .no, .no] = .ok .nx [.val V, .val (.str z), k2, k3, .no]) (h3 : gSl (.str z) none (some l) = some C) (h4 : f_packed .non [C] = .ok P .non) (h5 : gNe P V = some (.bl B)) : f_unpack .non [V] = if B then .exc ⟨"DataError", []⟩ .non else .ok C .non := by
  have e : gEq (.int m) (.int 0) = some (.bl false) := by simp [gEq, dEq, eqS, hm]
  simp only [f_unpack, b_unpack, sFor, hX]
  cases B <;> simp [mSlY, mItY, mSl, mPart, mNoP, asI, h, hl, e, hi, h60, h1, h2, f, h3, h4, h5, sRaise, mkF0, mkF1, fin0, fin1, st0, st1, bnd, Sr.ret, opt, mN, mNB, mB, der, m1, m2, m2b, m2r, mT, asB, mChain, mAnd, mOr, mNot, mAndV, mOrV, mNotV, mIf, mNil, mCons, mTup, mLst, mIsN, mNotN, Sr.isNon, mCal, mCal1, mIsi, mFldB, gFld, mC0, mC1, ap0, ap1, chkO, chkL, putL, mMk, apM, skp, sq, sDrop, sRet, sRetO, sIf, sSet, sSetO, sAsg, sPar, gN, gsN, gsC, gT, gA, sApp, sPutI, sNever, mItems, dItems, mRng, mRng2, gRng, gRng2, turn, gI, gI0, gLt, gLe, gGt, gGe, gAdd, gAddI, gAddS, gAddT, gAddL, Sr.gSub, gMul, gMulI, gDiv, gMod, gPow, gNeg, dEq, eqS, gInt1, gMax2, gMin2, gAbs, gIx, gLtT, dInts, putD, gIsi, dKind, tInt, tOnly, List.map_cons, List.map_nil, List.length_cons, List.length_nil, List.cons_append, List.nil_append, List.getElem?_cons_zero, List.getElem?_cons_succ, List.set_cons_zero, List.set_cons_succ, List.replicate, Option.some_or, Option.none_or, Option.map_some, Option.map_none, Option.bind_some, Option.bind_none]
def unR (ns : List Int) : Rs := match By.unp ns with
  | some w => .ok (.str (chk w)) .non
  | none => .exc ⟨"DataError", []⟩ .non
theorem unp_cons (l : Int) (r : List Int) : By.unp (l :: r) = if l > 60 then none else if By.pkL ((By.bitsL r).take l.toNat) = l :: r then some ((By.bitsL r).take l.toNat) else none := rfl
theorem s_unpack (ns : List Int) (hr : ∀ n ∈ ns, 0 ≤ n ∧ n < 256) (hl : ns.length ≤ 1000) : f_unpack .non [bt ns] = unR ns := by
  have hb : isB_bytes (bt ns) = some true := rfl
  have hn := len_bt ns hl
  cases ns with
  | nil => exact b_un0 _ hb hn
  | cons l r =>
    have hr' : ∀ n ∈ r, 0 ≤ n ∧ n < 256 := fun n hn => hr n (by simp [hn])
    have hi := ix_bt0 l r hr (by simp at hl; omega)
    have hm : (((l :: r).length : Nat) : Int) ≠ 0 := by simp; omega
    by_cases h60 : 60 < l
    · rw [b_un60 _ _ _ hb hn hm hi h60]
      unfold unR
      rw [unp_cons, if_pos h60]
    · have h0 := hr l (by simp)
      obtain ⟨k2, k3, f⟩ := f_u2 (.val (bt (l :: r))) .no r hr' [] (by simp at hl ⊢; omega) .no .no
      have e0 : chk [] = ("" : Str) := by decide
      rw [List.nil_append, e0] at f
      have h3 := sl_toC (By.bitsL r) l.toNat (by rw [By.bits_len]; simp at hl; omega)
      rw [Int.toNat_of_nonneg h0.1] at h3
      have hlen : ((By.bitsL r).take l.toNat).length ≤ 60 := by rw [List.length_take]; omega
      have h4 := s_packed ((By.bitsL r).take l.toNat) (by omega)
      have h5 := ne_bt (By.pk_rng ((By.bitsL r).take l.toNat) (by omega)) hr
      rw [b_unG _ _ _ _ _ _ _ _ _ k2 k3 hb hn hm hi h60 (sl_bt1 l r hr (by simp at hl; omega)) (it_bt r hr') _ rfl f h3 h4 h5]
      unfold unR
      rw [unp_cons, if_neg (show ¬ l > 60 from h60)]
      by_cases hp : By.pkL ((By.bitsL r).take l.toNat) = l :: r
      · rw [if_pos hp, decide_eq_true hp]; rfl
      · rw [if_neg hp, decide_eq_false hp]; rfl
def oddL : List D := [.non, .bl true, .bl false, .int (-1), .int 0, .int 1, .int 2, .int 7, .int 100000000000, .str "", .str "U", .str "D", .str "+", .str "-", .str "UD", .str "+-", .tup [], .lst [], .dk [], .tup [.int 0], .lst [.int 0],
  .dk [(.inl 0, .int 1)], .tup [.str "U", .int 0, .int 0], .tup [.tup [.str "U", .int 0, .int 0]], .lst [.tup [.str "U", .int 0, .int 0]], .tup [.str "U", .str "+"], .tup [.str "", .str ""], .str "00U1", .tup [.non], .str "?"]
theorem s_odd (o : D) (hv : PenOk o) : ∃ d o', f__law_odd o [] = .ok d o' ∧ d ∈ oddL ∧ PenOk o' := by
  obtain ⟨d, o', h1, h2, h3⟩ := s_pick o oddL hv (by decide) (by decide)
  refine ⟨d, o', ?_, h2, h3⟩
  have e : b__law_odd (st1 2 o []) = (sRet (mC1 f__law_pick 0 [] (mCons (mN 1) mNil))) [.own o, .val (.lst oddL)] := rfl
  unfold f__law_odd mkF1
  rw [e]
  simp [h1, mkF0, mkF1, fin0, fin1, st0, st1, bnd, Sr.ret, opt, mN, mNB, mB, der, m1, m2, m2b, m2r, mT, asB, mChain, mAnd, mOr, mNot, mAndV, mOrV, mNotV, mIf, mNil, mCons, mTup, mLst, mIsN, mNotN, Sr.isNon, mCal, mCal1, mIsi, mFldB, gFld, mC0, mC1, ap0, ap1, chkO, chkL, putL, mMk, apM, skp, sq, sDrop, sRet, sRetO, sIf, sSet, sSetO, sAsg, sPar, gN, gsN, gsC, gT, gA, sApp, sPutI, sNever, mItems, dItems, mRng, mRng2, gRng, gRng2, sFor, turn, gI, gI0, gLt, gLe, gGt, gGe, gAdd, gAddI, gAddS, gAddT, gAddL, Sr.gSub, gMul, gMulI, gDiv, gMod, gPow, gNeg, gEq, gNe, dEq, eqS, gLen, gInt1, gMax2, gMin2, gAbs, gIx, gLtT, dInts, putD, gIsi, dKind, tInt, tOnly, List.map_cons, List.map_nil, List.length_cons, List.length_nil, List.cons_append, List.nil_append, List.getElem?_cons_zero, List.getElem?_cons_succ, List.set_cons_zero, List.set_cons_succ, List.replicate, Option.some_or, Option.none_or, Option.map_some, Option.map_none, Option.bind_some, Option.bind_none]
def RprB (d : D) : Prop := ∃ z, gReprB d = some (.str z)
theorem eq_strs (z : Str) : gEq (.str z) (.str z) = some (.bl true) := by simp [gEq, dEq, eqS]
theorem same_of (d : D) (h : RprB d) : f__law_same .non [d, d] = .ok (.bl true) .non := by
  obtain ⟨z, h1⟩ := h
  have h2 := eq_strs z
  simp [f__law_same, b__law_same, h1, h2, mkF0, mkF1, fin0, fin1, st0, st1, bnd, Sr.ret, opt, mN, mNB, mB, der, m1, m2, m2b, m2r, mT, asB, mChain, mAnd, mOr, mNot, mAndV, mOrV, mNotV, mIf, mNil, mCons, mTup, mLst, mIsN, mNotN, Sr.isNon, mCal, mCal1, mIsi, mFldB, gFld, mC0, mC1, ap0, ap1, chkO, chkL, putL, mMk, apM, skp, sq, sDrop, sRet, sRetO, sIf, sSet, sSetO, sAsg, sPar, gN, gsN, gsC, gT, gA, sApp, sPutI, sNever, mItems, dItems, mRng, mRng2, gRng, gRng2, sFor, turn, gI, gI0, gLt, gLe, gGt, gGe, gAdd, gAddI, gAddS, gAddT, gAddL, Sr.gSub, gMul, gMulI, gDiv, gMod, gPow, gNeg, gNe, dEq, eqS, gLen, gInt1, gMax2, gMin2, gAbs, gIx, gLtT, dInts, putD, gIsi, dKind, tInt, tOnly, List.map_cons, List.map_nil, List.length_cons, List.length_nil, List.cons_append, List.nil_append, List.getElem?_cons_zero, List.getElem?_cons_succ, List.set_cons_zero, List.set_cons_succ, List.replicate, Option.some_or, Option.none_or, Option.map_some, Option.map_none, Option.bind_some, Option.bind_none]
theorem rprB_tup {ds : List D} {k n : Nat} {p : PyData} (h : Sh (.tup ds) k n p) (hk : k ≤ 64) (hn : n ≤ 16777216) : RprB (.tup ds) := ⟨p.shown, by
  show ((gRepr (.tup ds)).or _).or _ = _
  rw [repr_tup h hk hn]; rfl⟩
theorem sh_chk (w : List Bool) (h : w.length ≤ 1000) : ∃ p, Sh (.str (chk w)) 0 10002 p := by
  have h1 := PySem.StrLaws.reprText_len (chk w) (fun c hc => by
    have hc : c ∈ w.map (fun b => if b then 43 else 45) := hc
    rw [List.mem_map] at hc
    obtain ⟨b, _, rfl⟩ := hc
    cases b <;> decide)
  rw [chk_len] at h1
  exact ⟨.str (chk w), rfl, rfl, rfl, Nat.le_refl _, by show (PySem.reprText (chk w)).length ≤ 10002; omega⟩
def br : Nat → Int → List Bool
  | 0, _ => []
  | j + 1, m => br j (m / 2) ++ [decide (m % 2 = 1)]
theorem br8 {n : Int} (h0 : 0 ≤ n) (h1 : n < 256) : br 8 n = By.b8s n := by
  have H : ∀ m : Fin 256, br 8 ((m.val : Nat) : Int) = By.b8s ((m.val : Nat) : Int) := by decide +kernel
  have := H ⟨n.toNat, by omega⟩
  have e : ((n.toNat : Nat) : Int) = n := by omega
  simp only [e] at this
  exact this
theorem b_e1 (m r : Int) (z u : Str) (x0 x1 x2 j5 : Sl) (d : D) (h1 : gMod (.int m) (.int 2) = some (.int r)) (h2 : gIx (.str "-+") (.int r) = some (.str z)) (h3 : gAdd (.str z) (.str u) = some (.str (z ++ u))) (h4 : gDiv (.int m) (.int 2) = some (.int (m / 2))) :
    turn (gN 5) l__law_due_1 d [x0, x1, x2, .val (.str u), .val (.int m), j5] = .ok .nx [x0, x1, x2, .val (.str (z ++ u)), .val (.int (m / 2)), .val d] := by
  simp [l__law_due_1, h1, h2, h3, h4, mkF0, mkF1, fin0, fin1, st0, st1, bnd, Sr.ret, opt, mN, mNB, mB, der, m1, m2, m2b, m2r, mT, asB, mChain, mAnd, mOr, mNot, mAndV, mOrV, mNotV, mIf, mNil, mCons, mTup, mLst, mIsN, mNotN, Sr.isNon, mCal, mCal1, mIsi, mFldB, gFld, mC0, mC1, ap0, ap1, chkO, chkL, putL, mMk, apM, skp, sq, sDrop, sRet, sRetO, sIf, sSet, sSetO, sAsg, sPar, gN, gsN, gsC, gT, gA, sApp, sPutI, sNever, mItems, dItems, mRng, mRng2, gRng, gRng2, sFor, turn, gI, gI0, gLt, gLe, gGt, gGe, gAddI, gAddS, gAddT, gAddL, Sr.gSub, gMul, gMulI, gPow, gNeg, gEq, gNe, dEq, eqS, gLen, gInt1, gMax2, gMin2, gAbs, gLtT, dInts, putD, gIsi, dKind, tInt, tOnly, List.map_cons, List.map_nil, List.length_cons, List.length_nil, List.cons_append, List.nil_append, List.getElem?_cons_zero, List.getElem?_cons_succ, List.set_cons_zero, List.set_cons_succ, List.replicate, Option.some_or, Option.none_or, Option.map_some, Option.map_none, Option.bind_some, Option.bind_none]
theorem t_e1 (m : Int) (u : List Bool) (hu : u.length ≤ 1000) (x0 x1 x2 j5 : Sl) (d : D) : turn (gN 5) l__law_due_1 d [x0, x1, x2, .val (.str (chk u)), .val (.int m), j5] = .ok .nx [x0, x1, x2, .val (.str (chk (decide (m % 2 = 1) :: u))), .val (.int (m / 2)), .val d] := by
  have c : ∀ x, cDiv x 2 = true := fun x => by unfold cDiv; simp
  have h1 : gMod (.int m) (.int 2) = some (.int (m % 2)) := by simp [gMod, gI, c]
  have h4 : gDiv (.int m) (.int 2) = some (.int (m / 2)) := by simp [gDiv, gI, c]
  have h2 : gIx (.str "-+") (.int (m % 2)) = some (.str (chk [decide (m % 2 = 1)])) := by
    have : m % 2 = 0 ∨ m % 2 = 1 := by omega
    rcases this with h | h <;> rw [h] <;> kernel_rfl
  have h3 := addC [decide (m % 2 = 1)] u (by simp; omega)
  rw [← chk_app] at h3
  have h := b_e1 m _ _ _ x0 x1 x2 j5 d h1 h2 h3 h4
  rw [chk_app] at h
  exact h
theorem f_e1 (x0 x1 x2 : Sl) : ∀ (l : List D) (m : Int) (u : List Bool), u.length + l.length ≤ 1000 → ∀ j5, ∃ k5 m', forL (gN 5) l__law_due_1 l [x0, x1, x2, .val (.str (chk u)), .val (.int m), j5] = .ok .nx [x0, x1, x2, .val (.str (chk (br l.length m ++ u))), .val (.int m'), k5]
  | [], m, u, _, j5 => ⟨j5, m, rfl⟩
  | d :: l, m, u, hu, j5 => by
    obtain ⟨k5, m', ih⟩ := f_e1 x0 x1 x2 l (m / 2) (decide (m % 2 = 1) :: u) (by simp at hu ⊢; omega) (.val d)
    refine ⟨k5, m', ?_⟩
    rw [forL_cons_nx (t_e1 m u (by simp at hu; omega) x0 x1 x2 j5 d), ih]
    show Out.ok Fl.nx [x0, x1, x2, .val (.str (chk (br l.length (m / 2) ++ decide (m % 2 = 1) :: u))), .val (.int m'), k5] = Out.ok Fl.nx [x0, x1, x2, .val (.str (chk ((br l.length (m / 2) ++ [decide (m % 2 = 1)]) ++ u))), .val (.int m'), k5]
    rw [List.append_assoc]
    rfl
theorem b_e2 (x0 j2 j3 j4 j5 k5 : Sl) (n m : Int) (z y : Str) (xs : List D) (hr : gRng [.int 8] = some xs) (X : List D → M Fl) (hX : forL (gN 5) l__law_due_1 = X) (f : X xs [x0, .val (.str z), .val (.int n), .val (.str ""), .val (.int n), j5] = .ok .nx [x0, .val (.str z), .val (.int n), .val (.str y), .val (.int m), k5]) (ha : gAdd (.str z) (.str y) = some (.str (z ++ y))) :
    turn (gN 2) l__law_due_2 (.int n) [x0, .val (.str z), j2, j3, j4, j5] = .ok .nx [x0, .val (.str (z ++ y)), .val (.int n), .val (.str y), .val (.int m), k5] := by
  simp only [l__law_due_2, sFor, hX]
  simp [hr, f, ha, mkF0, mkF1, fin0, fin1, st0, st1, bnd, Sr.ret, opt, mN, mNB, mB, der, m1, m2, m2b, m2r, mT, asB, mChain, mAnd, mOr, mNot, mAndV, mOrV, mNotV, mIf, mNil, mCons, mTup, mLst, mIsN, mNotN, Sr.isNon, mCal, mCal1, mIsi, mFldB, gFld, mC0, mC1, ap0, ap1, chkO, chkL, putL, mMk, apM, skp, sq, sDrop, sRet, sRetO, sIf, sSet, sSetO, sAsg, sPar, gN, gsN, gsC, gT, gA, sApp, sPutI, sNever, mItems, dItems, mRng, mRng2, gRng2, turn, gI, gI0, gLt, gLe, gGt, gGe, gAddI, gAddS, gAddT, gAddL, Sr.gSub, gMul, gMulI, gDiv, gMod, gPow, gNeg, gEq, gNe, dEq, eqS, gLen, gInt1, gMax2, gMin2, gAbs, gIx, gLtT, dInts, putD, gIsi, dKind, tInt, tOnly, List.map_cons, List.map_nil, List.length_cons, List.length_nil, List.cons_append, List.nil_append, List.getElem?_cons_zero, List.getElem?_cons_succ, List.set_cons_zero, List.set_cons_succ, List.replicate, Option.some_or, Option.none_or, Option.map_some, Option.map_none, Option.bind_some, Option.bind_none]
theorem f_e2 (x0 : Sl) : ∀ (r : List Int), (∀ n ∈ r, 0 ≤ n ∧ n < 256) → ∀ (u : List Bool), u.length + 8 * r.length ≤ 90000 → ∀ j2 j3 j4 j5, ∃ k2 k3 k4 k5, forL (gN 2) l__law_due_2 (r.map D.int) [x0, .val (.str (chk u)), j2, j3, j4, j5] = .ok .nx [x0, .val (.str (chk (u ++ By.bitsL r))), k2, k3, k4, k5]
  | [], _, u, _, j2, j3, j4, j5 => ⟨j2, j3, j4, j5, by show _ = Out.ok Fl.nx [x0, .val (.str (chk (u ++ []))), j2, j3, j4, j5]; rw [List.append_nil]; rfl⟩
  | n :: r, hr, u, hu, j2, j3, j4, j5 => by
    have hn := hr n (by simp)
    obtain ⟨k5, m', f⟩ := f_e1 x0 (.val (.str (chk u))) (.val (.int n)) ((irng 0 8).map D.int) n [] (by simp [irng]) j5
    have hl : ((irng 0 8).map D.int).length = 8 := rfl
    rw [List.append_nil, hl, br8 hn.1 hn.2] at f
    have e0 : chk [] = ("" : Str) := by decide
    rw [e0] at f
    have ha := addC u (By.b8s n) (by rw [By.b8s_len]; simp at hu; omega)
    rw [← chk_app] at ha
    have t := b_e2 x0 j2 j3 j4 j5 k5 n m' _ _ _ (rngI 8 (by decide) (by decide)) _ rfl f ha
    rw [chk_app] at t
    obtain ⟨m2, m3, m4, m5, ih⟩ := f_e2 x0 r (fun m hm => hr m (by simp [hm])) (u ++ By.b8s n) (by simp [By.b8s_len] at hu ⊢; omega) (.val (.int n)) (.val (.str (chk (By.b8s n)))) (.val (.int m')) k5
    refine ⟨m2, m3, m4, m5, ?_⟩
    rw [List.map_cons, forL_cons_nx t, ih, List.append_assoc]
    rfl
def inP (ns : List Int) : PyData := .list (ns.map PyData.int)
theorem toPL_int : ∀ l : List Int, toPL (l.map D.int) = some (l.map PyData.int)
  | [] => rfl
  | x :: l => by
    rw [List.map_cons, List.map_cons]
    show ((toP (.int x)).bind fun p => (toPL (l.map D.int)).map fun ps => p :: ps) = _
    rw [toPL_int l]
    rfl
theorem can_in : ∀ l : List Int, PyData.canLay0 (inP l) = true
  | [] => rfl
  | x :: l => by
    have h2 := can_in l
    show (PyData.canLay0 (.int x) && PyData.canLayAll0 (l.map PyData.int)) = true
    have h1 : PyData.canLay0 (.int x) = true := rfl
    rw [h1]
    exact h2
theorem dep_in (l : List Int) : (inP l).depth ≤ 1 := by
  have H : ∀ l : List Int, PyData.depthAll (l.map PyData.int) = 0 := by
    intro l
    induction l with
    | nil => rfl
    | cons x l ih =>
      show max 0 (PyData.depthAll (l.map PyData.int)) = 0
      rw [ih]; rfl
  show PyData.depthAll (l.map PyData.int) + 1 ≤ 1
  rw [H]
  omega
theorem eq_in (l : List Int) : gEq (.lst (l.map D.int)) (.lst []) = some (.bl l.isEmpty) := by
  have e1 : toP (.lst (l.map D.int)) = some (inP l) := by
    show (toPL _).map PyData.list = _
    rw [toPL_int]; rfl
  have e2 : toP (.lst []) = some (.list []) := rfl
  have e3 : SeqAt.shaped (.list []) = true := by decide
  have e4 : SeqAt.shaped (inP l) = true := by
    unfold SeqAt.shaped
    have := dep_in l
    rw [can_in l, decide_eq_true (by omega)]
    rfl
  have e5 : eqDeep (.lst (l.map D.int)) (.lst []) = some l.isEmpty := by
    unfold eqDeep
    simp only [e1, e2, e3, e4, Bool.and_self, if_true]
    cases l <;> rfl
  have e6 : eqS (.lst (l.map D.int)) (.lst []) = none := rfl
  simp only [gEq, dEq, e6, e5, Option.none_or, Option.map_some]
theorem sl_from (w : List Bool) (i : Nat) (hl : w.length ≤ 100000) : gSl (.str (chk w)) (some (i : Int)) none = some (.str (chk (w.drop i))) := by
  simp only [gSl]
  rw [if_pos (by rw [chk_len]; exact sz hl)]
  congr 2
  unfold cutS
  rw [chk_len]
  have e1 : HT.sIx w.length 0 (some (i : Int)) = min i w.length := by
    simp only [HT.sIx]
    split <;> omega
  rw [e1]
  show (⟨(((chk w).cps.toList.drop (min i w.length)).take (w.length - min i w.length)).toArray⟩ : Str) = _
  have e2 : (chk w).cps.toList = w.map fun b => if b then 43 else 45 := rfl
  have e3 : chk (w.drop i) = ⟨((w.map fun b => if b then 43 else 45).drop i).toArray⟩ := by rw [← List.map_drop]; rfl
  rw [e2, e3]
  congr 2
  rw [List.take_of_length_le (by simp)]
  by_cases c : i ≤ w.length
  · rw [Nat.min_eq_left c]
  · rw [Nat.min_eq_right (by omega), List.drop_eq_nil_of_le (by simp), List.drop_eq_nil_of_le (by simp; omega)]
theorem in_plus (w : List Bool) : gIn (.str "+") (.str (chk w)) = some (.bl (w.any id)) := by
  have e : ("+" : Str) = ⟨#[43]⟩ := by decide
  rw [e]
  show some (D.bl (decide (43 ∈ (chk w).cps.toList))) = _
  congr 2
  have e2 : (chk w).cps.toList = w.map fun b => if b then 43 else 45 := rfl
  rw [e2, Bool.eq_iff_iff, decide_eq_true_eq, List.mem_map, List.any_eq_true]
  constructor
  · rintro ⟨b, hb, h⟩
    cases b with
    | true => exact ⟨true, hb, rfl⟩
    | false => cases h
  · rintro ⟨b, hb, h⟩
    have h : b = true := h
    subst h
    exact ⟨true, hb, rfl⟩
theorem sl_ints (l : Int) (r : List Int) : gSl (.lst ((l :: r).map D.int)) (some 1) none = some (.lst (r.map D.int)) := by
  simp only [gSl]
  congr 2
  unfold cutD
  have e1 : HT.sIx ((l :: r).map D.int).length 0 (some 1) = 1 := by
    simp only [HT.sIx, List.length_map, List.length_cons]
    split <;> omega
  rw [e1]
  show (((l :: r).map D.int).drop 1).take (((l :: r).map D.int).length - 1) = _
  rw [List.map_cons, List.drop_succ_cons, List.drop_zero]
  exact List.take_of_length_le (by simp)
abbrev dataD : D := .tup [.str "data"]
theorem b_e0 (L : D) (h : gEq L (.lst []) = some (.bl true)) : f__law_due .non [L] = .ok dataD .non := by
  have hz1 : (1 : Nat) ≤ sizeLine := by decide
  simp [f__law_due, b__law_due, h, hz1, mkF0, mkF1, fin0, fin1, st0, st1, bnd, Sr.ret, opt, mN, mNB, mB, der, m1, m2, m2b, m2r, mT, asB, mChain, mAnd, mOr, mNot, mAndV, mOrV, mNotV, mIf, mNil, mCons, mTup, mLst, mIsN, mNotN, Sr.isNon, mCal, mCal1, mIsi, mFldB, gFld, mC0, mC1, ap0, ap1, chkO, chkL, putL, mMk, apM, skp, sq, sDrop, sRet, sRetO, sIf, sSet, sSetO, sAsg, sPar, gN, gsN, gsC, gT, gA, sApp, sPutI, sNever, mItems, dItems, mRng, mRng2, gRng, gRng2, sFor, turn, gI, gI0, gLt, gLe, gGt, gGe, gAdd, gAddI, gAddS, gAddT, gAddL, Sr.gSub, gMul, gMulI, gDiv, gMod, gPow, gNeg, gNe, dEq, eqS, gLen, gInt1, gMax2, gMin2, gAbs, gIx, gLtT, dInts, putD, gIsi, dKind, tInt, tOnly, List.map_cons, List.map_nil, List.length_cons, List.length_nil, List.cons_append, List.nil_append, List.getElem?_cons_zero, List.getElem?_cons_succ, List.set_cons_zero, List.set_cons_succ, List.replicate, Option.some_or, Option.none_or, Option.map_some, Option.map_none, Option.bind_some, Option.bind_none]
theorem b_eB (L : D) (l m q s : Int) (B C : Bool) (h : gEq L (.lst []) = some (.bl false)) (h1 : gIx L (.int 0) = some (.int l)) (h2 : gGt (.int l) (.int 60) = some (.bl B)) (h3 : gLen L = some (.int m)) (h4 : gDiv (.int (l + 7)) (.int 8) = some (.int q)) (h5 : gNe (.int m) (.int (1 + q)) = some (.bl C)) (hb : (B || C) = true) : f__law_due .non [L] = .ok dataD .non := by
  have hz1 : (1 : Nat) ≤ sizeLine := by decide
  have a1 : gAdd (.int l) (.int 7) = some (.int (l + 7)) := rfl
  have a2 : gAdd (.int 1) (.int q) = some (.int (1 + q)) := rfl
  cases B <;> cases C <;> simp at hb <;> simp [f__law_due, b__law_due, h, h1, h2, h3, h4, h5, a1, a2, hz1, mkF0, mkF1, fin0, fin1, st0, st1, bnd, Sr.ret, opt, mN, mNB, mB, der, m1, m2, m2b, m2r, mT, asB, mChain, mAnd, mOr, mNot, mAndV, mOrV, mNotV, mIf, mNil, mCons, mTup, mLst, mIsN, mNotN, Sr.isNon, mCal, mCal1, mIsi, mFldB, gFld, mC0, mC1, ap0, ap1, chkO, chkL, putL, mMk, apM, skp, sq, sDrop, sRet, sRetO, sIf, sSet, sSetO, sAsg, sPar, gN, gsN, gsC, gT, gA, sApp, sPutI, sNever, mItems, dItems, mRng, mRng2, gRng, gRng2, sFor, turn, gI, gI0, gLt, gLe, gGe, gAddI, gAddS, gAddT, gAddL, Sr.gSub, gMul, gMulI, gMod, gPow, gNeg, dEq, eqS, gInt1, gMax2, gMin2, gAbs, gLtT, dInts, putD, gIsi, dKind, tInt, tOnly, List.map_cons, List.map_nil, List.length_cons, List.length_nil, List.cons_append, List.nil_append, List.getElem?_cons_zero, List.getElem?_cons_succ, List.set_cons_zero, List.set_cons_succ, List.replicate, Option.some_or, Option.none_or, Option.map_some, Option.map_none, Option.bind_some, Option.bind_none]
theorem b_eG (L R T U : D) (l m q : Int) (B : Bool) (z : Str) (xs : List D) (k2 k3 k4 k5 : Sl) (h : gEq L (.lst []) = some (.bl false)) (h1 : gIx L (.int 0) = some (.int l)) (h2 : gGt (.int l) (.int 60) = some (.bl false)) (h3 : gLen L = some (.int m)) (h4 : gDiv (.int (l + 7)) (.int 8) = some (.int q)) (h5 : gNe (.int m) (.int (1 + q)) = some (.bl false))
    (h6 : gSl L (some 1) none = some R) (h7 : dItems R = some xs) (X : List D → M Fl) (hX : forL (gN 2) l__law_due_2 = X) (f : X xs [.val L, .val (.str ""), .no, .no, .no, .no] = .ok .nx [.val L, .val (.str z), k2, k3, k4, k5]) (h8 : gSl (.str z) (some l) none = some T) (h9 : gIn (.str "+") T = some (.bl B)) (h10 : gSl (.str z) none (some l) = some U) :
    f__law_due .non [L] = .ok (if B then dataD else .tup [.str "told", U]) .non := by
  have hz1 : (1 : Nat) ≤ sizeLine := by decide
  have hz2 : (2 : Nat) ≤ sizeLine := by decide
  have a1 : gAdd (.int l) (.int 7) = some (.int (l + 7)) := rfl
  have a2 : gAdd (.int 1) (.int q) = some (.int (1 + q)) := rfl
  simp only [f__law_due, b__law_due, sFor, hX]
  cases B <;> simp [mSl, mPart, mNoP, asI, h, h1, h2, h3, h4, h5, h6, h7, f, h8, h9, h10, a1, a2, hz1, hz2, mkF0, mkF1, fin0, fin1, st0, st1, bnd, Sr.ret, opt, mN, mNB, mB, der, m1, m2, m2b, m2r, mT, asB, mChain, mAnd, mOr, mNot, mAndV, mOrV, mNotV, mIf, mNil, mCons, mTup, mLst, mIsN, mNotN, Sr.isNon, mCal, mCal1, mIsi, mFldB, gFld, mC0, mC1, ap0, ap1, chkO, chkL, putL, mMk, apM, skp, sq, sDrop, sRet, sRetO, sIf, sSet, sSetO, sAsg, sPar, gN, gsN, gsC, gT, gA, sApp, sPutI, sNever, mItems, mRng, mRng2, gRng, gRng2, turn, gI, gI0, gLt, gLe, gGe, gAddI, gAddS, gAddT, gAddL, Sr.gSub, gMul, gMulI, gMod, gPow, gNeg, dEq, eqS, gInt1, gMax2, gMin2, gAbs, gLtT, dInts, putD, gIsi, dKind, tInt, tOnly, List.map_cons, List.map_nil, List.length_cons, List.length_nil, List.cons_append, List.nil_append, List.getElem?_cons_zero, List.getElem?_cons_succ, List.set_cons_zero, List.set_cons_succ, List.replicate, Option.some_or, Option.none_or, Option.map_some, Option.map_none, Option.bind_some, Option.bind_none]
def dueR (ns : List Int) : D := match By.unp ns with
  | some w => .tup [.str "told", .str (chk w)]
  | none => dataD
theorem s_due (ns : List Int) (hr : ∀ n ∈ ns, 0 ≤ n ∧ n < 256) (hl : ns.length ≤ 1000) : f__law_due .non [.lst (ns.map D.int)] = .ok (dueR ns) .non := by
  have he := eq_in ns
  cases ns with
  | nil => exact b_e0 _ he
  | cons l r =>
    have hr' : ∀ n ∈ r, 0 ≤ n ∧ n < 256 := fun n hn => hr n (by simp [hn])
    have h0 := hr l (by simp)
    have h1 : gIx (.lst ((l :: r).map D.int)) (.int 0) = some (.int l) := atI_nat (l := (l :: r).map D.int) (i := 0) (by simp)
    have h2 : gGt (.int l) (.int 60) = some (.bl (decide (60 < l))) := rfl
    have h3 : gLen (.lst ((l :: r).map D.int)) = some (.int ((r.length : Nat) + 1 : Int)) := by simp [gLen]
    have h4 : gDiv (.int (l + 7)) (.int 8) = some (.int ((l + 7) / 8)) := by
      have : cDiv (l + 7) 8 = true := by unfold cDiv; simp
      simp [gDiv, gI, this]
    have h5 : gNe (.int ((r.length : Nat) + 1 : Int)) (.int (1 + (l + 7) / 8)) = some (.bl (!decide (((r.length : Nat) : Int) + 1 = 1 + (l + 7) / 8))) := rfl
    unfold dueR
    rw [By.unp_due l r h0.1 hr']
    by_cases c : l > 60 ∨ ((r.length : Nat) : Int) + 1 ≠ 1 + (l + 7) / 8
    · rw [if_pos c]
      refine b_eB _ l _ _ 0 _ _ he h1 h2 h3 h4 h5 ?_
      rcases c with c | c
      · rw [decide_eq_true (show 60 < l from c)]; rfl
      · rw [decide_eq_false c]; simp
    · rw [if_neg c]
      have c1 : ¬ 60 < l := fun z => c (.inl z)
      have c2 : ((r.length : Nat) : Int) + 1 = 1 + (l + 7) / 8 := Classical.not_not.mp fun z => c (.inr z)
      rw [decide_eq_false c1] at h2
      rw [decide_eq_true c2] at h5
      obtain ⟨k2, k3, k4, k5, f⟩ := f_e2 (.val (.lst ((l :: r).map D.int))) r hr' [] (by simp at hl ⊢; omega) .no .no .no .no
      have e0 : chk [] = ("" : Str) := by decide
      rw [List.nil_append, e0] at f
      have hlen : (By.bitsL r).length ≤ 100000 := by rw [By.bits_len]; simp at hl; omega
      have h8 := sl_from (By.bitsL r) l.toNat hlen
      have h10 := sl_toC (By.bitsL r) l.toNat hlen
      rw [Int.toNat_of_nonneg h0.1] at h8 h10
      rw [b_eG _ _ _ _ l _ _ _ _ _ k2 k3 k4 k5 he h1 h2 h3 h4 h5 (sl_ints l r) rfl _ rfl f h8 (in_plus _) h10]
      by_cases c3 : ((By.bitsL r).drop l.toNat).any id = true
      · rw [c3, if_pos rfl, if_pos rfl]
      · rw [if_neg c3]
        have : ((By.bitsL r).drop l.toNat).any id = false := by simpa using c3
        rw [this]; rfl
theorem unR_said (ns : List Int) (hr : ∀ n ∈ ns, 0 ≤ n ∧ n < 256) (hl : ns.length ≤ 1000) (m : M D) (e : En) (h1 : ∀ d, f_unpack .non [bt ns] = .ok d .non → m e = .ok d e) (h2 : ∀ x, f_unpack .non [bt ns] = .exc x .non → m e = .exc x e) : mSaid ct_StatusError g__law_kindE m e = .ok (dueR ns) e := by
  have hu := s_unpack ns hr hl
  unfold unR at hu
  unfold dueR
  cases q : By.unp ns with
  | some w =>
    rw [q] at hu
    unfold mSaid
    rw [h1 _ hu]
  | none =>
    rw [q] at hu
    unfold mSaid
    rw [h2 _ hu]
    simp only [ct_data, k_data]
theorem rpr_due (ns : List Int) (hr : ∀ n ∈ ns, 0 ≤ n ∧ n < 256) (hl : ns.length ≤ 1000) : RprB (dueR ns) := by
  unfold dueR
  cases q : By.unp ns with
  | none =>
    have ht : ∃ p, Sh (.str "data") 0 10 p := ⟨.str "data", rfl, rfl, rfl, Nat.le_refl _, by decide +kernel⟩
    obtain ⟨p2, hp2⟩ := ht
    exact rprB_tup (sh_tup (shl_cons hp2 shl_nil)) (by omega) (by omega)
  | some w =>
    have hw : w.length ≤ 1000 := by
      cases ns with
      | nil => cases q
      | cons l r =>
        rw [unp_cons] at q
        split at q
        · cases q
        · split at q
          · cases q
            rw [List.length_take]
            have := hr l (by simp)
            omega
          · cases q
    obtain ⟨p, hp⟩ := sh_chk w hw
    have ht : ∃ p, Sh (.str "told") 0 10 p := ⟨.str "told", rfl, rfl, rfl, Nat.le_refl _, by decide +kernel⟩
    obtain ⟨p2, hp2⟩ := ht
    exact rprB_tup (sh_tup (shl_cons hp2 (shl_cons hp shl_nil))) (by omega) (by omega)
section
variable (s0 s1 s2 s3 s4 s5 s6 s7 j8 j9 j10 : Sl)
theorem y_l1 (ns : List Int) (h : ∀ n ∈ ns, 0 ≤ n ∧ n < 256) (hl : ns.length ≤ 1000) : ∃ k10, mLc [10] (mItY (mN 8)) (gN 10) t_law_1 e_law_1 [s0, s1, s2, s3, s4, s5, s6, s7, .val (bt ns), j9, j10] = .ok (.lst (ns.map D.int)) [s0, s1, s2, s3, s4, s5, s6, s7, .val (bt ns), j9, k10] := by
  have hi := it_bt ns h
  generalize bt ns = B at *
  have := mLc_map (m := mItY (mN 8)) (w := gN 10) (t := t_law_1) (el := e_law_1) (vs := [10]) (e := [s0, s1, s2, s3, s4, s5, s6, s7, .val B, j9, j10]) (e1 := [s0, s1, s2, s3, s4, s5, s6, s7, .val B, j9, j10]) (xs := ns) D.int D.int (by simp [mItY, mN, bnd, opt, hi]) (by omega) (fun n hn => by
    refine ⟨[s0, s1, s2, s3, s4, s5, s6, s7, .val B, j9, .val (.int n)], [s0, s1, s2, s3, s4, s5, s6, s7, .val B, j9, .val (.int n)], [s0, s1, s2, s3, s4, s5, s6, s7, .val B, j9, .val (.int n)], rfl, rfl, ?_, rfl⟩
    simp [e_law_1, mkF0, mkF1, fin0, fin1, st0, st1, bnd, Sr.ret, opt, mN, mNB, mB, der, m1, m2, m2b, m2r, mT, asB, mChain, mAnd, mOr, mNot, mAndV, mOrV, mNotV, mIf, mNil, mCons, mTup, mLst, mIsN, mNotN, Sr.isNon, mCal, mCal1, mIsi, mFldB, gFld, mC0, mC1, ap0, ap1, chkO, chkL, putL, mMk, apM, skp, sq, sDrop, sRet, sRetO, sIf, sSet, sSetO, sAsg, sPar, gN, gsN, gsC, gT, gA, sApp, sPutI, sNever, mItems, dItems, mRng, mRng2, gRng, gRng2, sFor, turn, gI, gI0, gLt, gLe, gGt, gGe, gAdd, gAddI, gAddS, gAddT, gAddL, Sr.gSub, gMul, gMulI, gDiv, gMod, gPow, gNeg, gEq, gNe, dEq, eqS, gLen, gInt1, gMax2, gMin2, gAbs, gIx, gLtT, dInts, putD, gIsi, dKind, tInt, tOnly, List.map_cons, List.map_nil, List.length_cons, List.length_nil, List.cons_append, List.nil_append, List.getElem?_cons_zero, List.getElem?_cons_succ, List.set_cons_zero, List.set_cons_succ, List.replicate, Option.some_or, Option.none_or, Option.map_some, Option.map_none, Option.bind_some, Option.bind_none])
  refine ⟨(match j10 with | .val d => .val d | _ => .no), ?_⟩
  rw [this]
  cases j10 <;> rfl
theorem b_l1 (V R Lx : D) (k10 : Sl) (Y1 Y2 : M D) (hY1 : mSaid ct_StatusError g__law_kindE (mC0 f_unpack [] (mCons (mN 8) mNil)) = Y1) (hY2 : mLc [10] (mItY (mN 8)) (gN 10) t_law_1 e_law_1 = Y2) (y1 : Y1 [s0, s1, s2, s3, s4, s5, s6, s7, .val V, j9, j10] = .ok R [s0, s1, s2, s3, s4, s5, s6, s7, .val V, j9, j10]) (y2 : Y2 [s0, s1, s2, s3, s4, s5, s6, s7, .val V, j9, j10] = .ok Lx [s0, s1, s2, s3, s4, s5, s6, s7, .val V, j9, k10]) (hd : f__law_due .non [Lx] = .ok R .non) (hs : f__law_same .non [R, R] = .ok (.bl true) .non) :
    turn (gN 8) l_law_1 V [s0, s1, s2, s3, s4, s5, s6, s7, j8, j9, j10] = .ok .nx [s0, s1, s2, s3, s4, s5, s6, s7, .val V, j9, k10] := by
  simp only [l_law_1, hY1, hY2]
  simp [y1, y2, hd, hs, mkF0, mkF1, fin0, fin1, st0, st1, bnd, Sr.ret, opt, mN, mNB, mB, der, m1, m2, m2b, m2r, mT, asB, mChain, mAnd, mOr, mNot, mAndV, mOrV, mNotV, mIf, mNil, mCons, mTup, mLst, mIsN, mNotN, Sr.isNon, mCal, mCal1, mIsi, mFldB, gFld, mC0, mC1, ap0, ap1, chkO, chkL, putL, mMk, apM, skp, sq, sDrop, sRet, sRetO, sIf, sSet, sSetO, sAsg, sPar, gN, gsN, gsC, gT, gA, sApp, sPutI, sNever, mItems, dItems, mRng, mRng2, gRng, gRng2, sFor, turn, gI, gI0, gLt, gLe, gGt, gGe, gAdd, gAddI, gAddS, gAddT, gAddL, Sr.gSub, gMul, gMulI, gDiv, gMod, gPow, gNeg, gEq, gNe, dEq, eqS, gLen, gInt1, gMax2, gMin2, gAbs, gIx, gLtT, dInts, putD, gIsi, dKind, tInt, tOnly, List.map_cons, List.map_nil, List.length_cons, List.length_nil, List.cons_append, List.nil_append, List.getElem?_cons_zero, List.getElem?_cons_succ, List.set_cons_zero, List.set_cons_succ, List.replicate, Option.some_or, Option.none_or, Option.map_some, Option.map_none, Option.bind_some, Option.bind_none]
theorem t_l1 (ns : List Int) (hr : ∀ n ∈ ns, 0 ≤ n ∧ n < 256) (hl : ns.length ≤ 1000) : ∃ k10, turn (gN 8) l_law_1 (bt ns) [s0, s1, s2, s3, s4, s5, s6, s7, j8, j9, j10] = .ok .nx [s0, s1, s2, s3, s4, s5, s6, s7, .val (bt ns), j9, k10] := by
  obtain ⟨k10, y⟩ := y_l1 s0 s1 s2 s3 s4 s5 s6 s7 j9 j10 ns hr hl
  refine ⟨k10, b_l1 s0 s1 s2 s3 s4 s5 s6 s7 j8 j9 j10 _ _ _ k10 _ _ rfl rfl (unR_said ns hr hl _ _ (fun d h => ?_) (fun x h => ?_)) y (s_due ns hr hl) (same_of _ (rpr_due ns hr hl))⟩
  · generalize bt ns = B at *
    simp [h, mkF0, mkF1, fin0, fin1, st0, st1, bnd, Sr.ret, opt, mN, mNB, mB, der, m1, m2, m2b, m2r, mT, asB, mChain, mAnd, mOr, mNot, mAndV, mOrV, mNotV, mIf, mNil, mCons, mTup, mLst, mIsN, mNotN, Sr.isNon, mCal, mCal1, mIsi, mFldB, gFld, mC0, mC1, ap0, ap1, chkO, chkL, putL, mMk, apM, skp, sq, sDrop, sRet, sRetO, sIf, sSet, sSetO, sAsg, sPar, gN, gsN, gsC, gT, gA, sApp, sPutI, sNever, mItems, dItems, mRng, mRng2, gRng, gRng2, sFor, turn, gI, gI0, gLt, gLe, gGt, gGe, gAdd, gAddI, gAddS, gAddT, gAddL, Sr.gSub, gMul, gMulI, gDiv, gMod, gPow, gNeg, gEq, gNe, dEq, eqS, gLen, gInt1, gMax2, gMin2, gAbs, gIx, gLtT, dInts, putD, gIsi, dKind, tInt, tOnly, List.map_cons, List.map_nil, List.length_cons, List.length_nil, List.cons_append, List.nil_append, List.getElem?_cons_zero, List.getElem?_cons_succ, List.set_cons_zero, List.set_cons_succ, List.replicate, Option.some_or, Option.none_or, Option.map_some, Option.map_none, Option.bind_some, Option.bind_none]
  · generalize bt ns = B at *
    simp [h, mkF0, mkF1, fin0, fin1, st0, st1, bnd, Sr.ret, opt, mN, mNB, mB, der, m1, m2, m2b, m2r, mT, asB, mChain, mAnd, mOr, mNot, mAndV, mOrV, mNotV, mIf, mNil, mCons, mTup, mLst, mIsN, mNotN, Sr.isNon, mCal, mCal1, mIsi, mFldB, gFld, mC0, mC1, ap0, ap1, chkO, chkL, putL, mMk, apM, skp, sq, sDrop, sRet, sRetO, sIf, sSet, sSetO, sAsg, sPar, gN, gsN, gsC, gT, gA, sApp, sPutI, sNever, mItems, dItems, mRng, mRng2, gRng, gRng2, sFor, turn, gI, gI0, gLt, gLe, gGt, gGe, gAdd, gAddI, gAddS, gAddT, gAddL, Sr.gSub, gMul, gMulI, gDiv, gMod, gPow, gNeg, gEq, gNe, dEq, eqS, gLen, gInt1, gMax2, gMin2, gAbs, gIx, gLtT, dInts, putD, gIsi, dKind, tInt, tOnly, List.map_cons, List.map_nil, List.length_cons, List.length_nil, List.cons_append, List.nil_append, List.getElem?_cons_zero, List.getElem?_cons_succ, List.set_cons_zero, List.set_cons_succ, List.replicate, Option.some_or, Option.none_or, Option.map_some, Option.map_none, Option.bind_some, Option.bind_none]
end
def Gd (n : Nat) (d : D) : Prop := ∃ ns, d = bt ns ∧ (∀ x ∈ ns, 0 ≤ x ∧ x < 256) ∧ ns.length ≤ n
theorem cutI_mem {ks : List Int} {lo hi : Option Int} : ∀ x ∈ cutI ks lo hi, x ∈ ks := fun x hx => List.mem_of_mem_drop (List.mem_of_mem_take hx)
theorem cutI_len {ks : List Int} {lo hi : Option Int} : (cutI ks lo hi).length ≤ ks.length := by unfold cutI; rw [List.length_take, List.length_drop]; omega
theorem gd_sl {n : Nat} {d : D} (h : Gd n d) (hn : n ≤ 1000) (lo hi : Option Int) : ∃ d', gSlY d lo hi = some d' ∧ Gd n d' := by
  obtain ⟨ns, rfl, h1, h2⟩ := h
  refine ⟨bt (cutI ns lo hi), ?_, _, rfl, fun x hx => h1 x (cutI_mem x hx), Nat.le_trans cutI_len h2⟩
  unfold bt
  simp only [gSlY, bt_size, nB_bt h1]
  rw [if_pos (by omega)]
  rfl
theorem gd_add {n m : Nat} {d e : D} (h : Gd n d) (g : Gd m e) (hn : n + m ≤ 1000) : ∃ d', gAddY d e = some d' ∧ Gd (n + m) d' := by
  obtain ⟨ns, rfl, h1, h2⟩ := h
  obtain ⟨ms, rfl, g1, g2⟩ := g
  refine ⟨bt (ns ++ ms), ?_, _, rfl, fun x hx => (List.mem_append.mp hx).elim (h1 x) (g1 x), by rw [List.length_append]; omega⟩
  unfold bt
  simp only [gAddY, bt_size, nB_bt h1, nB_bt g1]
  rw [if_pos (by omega)]
  rfl
theorem gd_back {n : Nat} {d : D} (h : Gd n d) (hn : n ≤ 1000) : ∃ d', gBackY d = some d' ∧ Gd n d' := by
  obtain ⟨ns, rfl, h1, h2⟩ := h
  refine ⟨bt ns.reverse, ?_, _, rfl, fun x hx => h1 x (List.mem_reverse.mp hx), by rw [List.length_reverse]; exact h2⟩
  unfold bt
  simp only [gBackY, bt_size, nB_bt h1]
  rw [if_pos (by omega)]
  rfl
theorem sl1_pk (w : List Bool) (h : w.length ≤ 60) : gSlY (bt (By.pkL w)) none (some 1) = some (bt [(w.length : Int)]) := by
  have hr := By.pk_rng w (by omega)
  have hl : (By.pkL w).length ≤ 1000 := by rw [By.pk_len]; unfold By.nb; omega
  have e : cutI (By.pkL w) none (some 1) = [(w.length : Int)] := by
    unfold cutI
    have e : clipAt (By.pkL w).length 1 = 1 := by
      have := clipAt_nat (By.pkL w).length 1
      simp at this
      rw [By.pk_len] at this ⊢
      exact this.trans (by omega)
    show ((By.pkL w).drop 0).take (clipAt (By.pkL w).length 1 - 0) = _
    rw [e]
    rfl
  unfold bt at *
  simp only [gSlY, bt_size, nB_bt hr]
  rw [if_pos (by omega), e]
  rfl
theorem mul2 (n : Int) (h : 0 ≤ n ∧ n < 256) : gMulY (bt [n]) (.int 2) = some (bt [n, n]) := by
  have hr : ∀ x ∈ [n], 0 ≤ x ∧ x < 256 := fun x hx => by rw [List.mem_singleton] at hx; subst hx; exact h
  unfold bt
  simp only [gMulY, bt_size, nB_bt hr]
  rw [if_pos (by simp)]
  rfl
theorem gd_pk (w : List Bool) (h : w.length ≤ 60) : Gd 10 (bt (By.pkL w)) := ⟨_, rfl, By.pk_rng w (by omega), by rw [By.pk_len]; unfold By.nb; omega⟩
theorem b_l2 (s0 s1 j3 j4 j5 j6 j7 j8 j9 j10 k8 k9 k10 : Sl) (d : D) (o o1 o2 o3 Z1 Z2 A B V1 V2 V3 V4 V5 V6 V7 V8 V9 V10 V11 V12 V13 V14 V15 V16 V17 A1 AR B1 BR AM S9 P9 PM Q S8 P8 E8 T8 R8 F8 S60 P60 PX X1 T60 R60 X2 R1 PY Y1 : D) (L2 L3 : List D) (n t : Int) (e1 : f__law_checks o [.int 60] = .ok Z1 o1) (p1 : f_pack .non [Z1] = .ok A .non) (e2 : f__law_checks o1 [.int 20] = .ok Z2 o2) (p2 : f_pack .non [Z2] = .ok B .non) (l1 : gLen A = some (.int n)) (an : gAdd (.int n) (.int 1) = some (.int (n + 1))) (e3 : f__law_draw o2 [.int (n + 1)] = .ok (.int t) o3)
    (v1 : gSlY A none (some t) = some V1) (v2 : gSlY A (some t) none = some V2) (v3 : gAddY A B = some V3) (v4 : gAddY B A = some V4) (a1 : gSlY A none (some 1) = some A1) (ar : gSlY A (some 1) none = some AR) (b1 : gSlY B none (some 1) = some B1) (br : gSlY B (some 1) none = some BR) (v5 : gAddY A1 BR = some V5) (v6 : gAddY B1 AR = some V6) (v7 : gBackY A = some V7) (v8 : gMulY A1 (.int 2) = some V8) (v9 : gSlY A none (some 0) = some V9) (v10 : gAddY A A1 = some V10) (am : gSlY A none (some (-1)) = some AM) (v11 : gAddY AM B1 = some V11) (m9 : gMulA (.str "+") (.int 9) = some S9) (p9 : f_pack .non [S9] = .ok P9 .non) (v12 : gSlY P9 (some 1) none = some V12) (pm : f_pack .non [.str "-"] = .ok PM .non) (q : gSlY PM none (some 1) = some Q) (m8 : gMulA (.str "+") (.int 8) = some S8) (p8 : f_pack .non [S8] = .ok P8 .non) (e8 : gSlY P8 (some 1) none = some E8) (v13 : gAddY Q E8 = some V13) (n8 : gMulA (.str "-") (.int 8) = some T8) (r8 : f_pack .non [T8] = .ok R8 .non) (f8 : gSlY R8 (some 1) none = some F8) (v14 : gAddY Q F8 = some V14) (m60 : gMulA (.str "+") (.int 60) = some S60) (p60 : f_pack .non [S60] = .ok P60 .non) (v15 : gSlY P60 (some 1) none = some V15) (px : f_pack .non [.str "--++++-+"] = .ok PX .non) (x1 : gSlY PX (some 1) none = some X1) (n60 : gMulA (.str "-") (.int 60) = some T60) (r60 : f_pack .non [T60] = .ok R60 .non) (x2 : gSlY R60 (some 1) none = some X2) (v16 : gAddY X1 X2 = some V16) (r1 : gSlY R8 none (some 1) = some R1) (py : f_pack .non [.str "+-+-+-++"] = .ok PY .non) (y1 : gSlY PY (some 1) none = some Y1) (v17 : gAddY R1 Y1 = some V17)
    (g2 : gAdd (.lst [A, B, V1, V2, V3, V4, V5, V6]) (.lst [V7, V8, V9, V10, V11, V12]) = some (.lst L2)) (g3 : gAdd (.lst L2) (.lst [V13, V14, V15]) = some (.lst L3)) (g4 : gAdd (.lst L3) (.lst [V16, V17]) = some (.lst [A, B, V1, V2, V3, V4, V5, V6, V7, V8, V9, V10, V11, V12, V13, V14, V15, V16, V17])) (ng : gNeg (.int 1) = some (.int (-1))) (X : List D → M Fl) (hX : forL (gN 8) l_law_1 = X)
    (f : X [A, B, V1, V2, V3, V4, V5, V6, V7, V8, V9, V10, V11, V12, V13, V14, V15, V16, V17] [s0, s1, .own o3, .val d, .val A, .val B, .val (.int t), .val (.lst [A, B, V1, V2, V3, V4, V5, V6, V7, V8, V9, V10, V11, V12, V13, V14, V15, V16, V17]), j8, j9, j10] = .ok .nx [s0, s1, .own o3, .val d, .val A, .val B, .val (.int t), .val (.lst [A, B, V1, V2, V3, V4, V5, V6, V7, V8, V9, V10, V11, V12, V13, V14, V15, V16, V17]), k8, k9, k10]) :
    turn (gN 3) l_law_2 d [s0, s1, .own o, j3, j4, j5, j6, j7, j8, j9, j10] = .ok .nx [s0, s1, .own o3, .val d, .val A, .val B, .val (.int t), .val (.lst [A, B, V1, V2, V3, V4, V5, V6, V7, V8, V9, V10, V11, V12, V13, V14, V15, V16, V17]), k8, k9, k10] := by
  have hz2 : (2 : Nat) ≤ sizeLine := by decide
  have hz3 : (3 : Nat) ≤ sizeLine := by decide
  have hz6 : (6 : Nat) ≤ sizeLine := by decide
  have hz8 : (8 : Nat) ≤ sizeLine := by decide
  simp only [l_law_2, sFor, hX]
  simp [mSlY, mPart, mNoP, asI, e1, p1, e2, p2, l1, an, e3, ng, v1, v2, v3, v4, a1, ar, b1, br, v5, v6, v7, v8, v9, v10, am, v11, m9, p9, v12, pm, q, m8, p8, e8, v13, n8, r8, f8, v14, m60, p60, v15, px, x1, n60, r60, x2, v16, r1, py, y1, v17, g2, g3, g4, f, hz2, hz3, hz6, hz8, mkF0, mkF1, fin0, fin1, st0, st1, bnd, Sr.ret, opt, mN, mNB, mB, der, m1, m2, m2b, m2r, mT, asB, mChain, mAnd, mOr, mNot, mAndV, mOrV, mNotV, mIf, mNil, mCons, mTup, mLst, mIsN, mNotN, Sr.isNon, mCal, mCal1, mIsi, mFldB, gFld, mC0, mC1, ap0, ap1, chkO, chkL, putL, mMk, apM, skp, sq, sDrop, sRet, sRetO, sIf, sSet, sSetO, sAsg, sPar, gN, gsN, gsC, gT, gA, sApp, sPutI, sNever, mItems, dItems, mRng, mRng2, gRng, gRng2, turn, gI, gI0, gLt, gLe, gGt, gGe, gAddI, gAddS, gAddT, gAddL, Sr.gSub, gMul, gMulI, gDiv, gMod, gPow, gEq, gNe, dEq, eqS, gInt1, gMax2, gMin2, gAbs, gIx, gLtT, dInts, putD, gIsi, dKind, tInt, tOnly, List.map_cons, List.map_nil, List.length_cons, List.length_nil, List.cons_append, List.nil_append, List.getElem?_cons_zero, List.getElem?_cons_succ, List.set_cons_zero, List.set_cons_succ, List.replicate, Option.some_or, Option.none_or, Option.map_some, Option.map_none, Option.bind_some, Option.bind_none]
theorem addL {xs ys : List D} (h : xs.length + ys.length ≤ 1000) : gAdd (.lst xs) (.lst ys) = some (.lst (xs ++ ys)) := by
  have hz : xs.length + ys.length ≤ sizeLine := sz (by omega)
  simp [gAdd, gAddI, gI0, gAddS, gAddT, gAddL, hz]
theorem gd_up {n m : Nat} {d : D} (h : Gd n d) (hn : n ≤ m) : Gd m d := let ⟨ns, a, b, c⟩ := h; ⟨ns, a, b, Nat.le_trans c hn⟩
theorem s_l2 (s0 s1 j3 j4 j5 j6 j7 j8 j9 j10 : Sl) (d o : D) (ho : PenOk o) : ∃ o' k3 k4 k5 k6 k7 k8 k9 k10, turn (gN 3) l_law_2 d [s0, s1, .own o, j3, j4, j5, j6, j7, j8, j9, j10] = .ok .nx [s0, s1, .own o', k3, k4, k5, k6, k7, k8, k9, k10] ∧ PenOk o' := by
  obtain ⟨w1, o1, e1, hw1, v1⟩ := s_checks o ho 60 (by omega) (by omega)
  obtain ⟨w2, o2, e2, hw2, v2⟩ := s_checks o1 v1 20 (by omega) (by omega)
  have hw1 : w1.length ≤ 60 := by omega
  have hw2 : w2.length ≤ 60 := by omega
  have hl : (By.pkL w1).length ≤ 10 := by rw [By.pk_len]; unfold By.nb; omega
  have l1 := len_bt (By.pkL w1) (by omega)
  obtain ⟨t, o3, e3, t0, t1, v3⟩ := s_draw o2 (((By.pkL w1).length : Nat) + 1 : Int) v2 (by omega) (by omega)
  have GA := gd_pk w1 hw1
  have GB := gd_pk w2 hw2
  have p1 := s_pack w1 hw1
  have p2 := s_pack w2 hw2
  have a1 := sl1_pk w1 hw1
  have GA1 : Gd 2 (bt [(w1.length : Int)]) := ⟨_, rfl, fun x hx => by rw [List.mem_singleton] at hx; subst hx; omega, by simp⟩
  have v8 := mul2 (w1.length : Int) (by omega)
  have GV8 : Gd 20 (bt [(w1.length : Int), (w1.length : Int)]) := ⟨_, rfl, fun x hx => by simp at hx; subst hx; omega, by simp⟩
  have m9 : gMulA (.str "+") (.int 9) = some (.str (chk (List.replicate 9 true))) := by kernel_rfl
  have m8 : gMulA (.str "+") (.int 8) = some (.str (chk (List.replicate 8 true))) := by kernel_rfl
  have n8 : gMulA (.str "-") (.int 8) = some (.str (chk (List.replicate 8 false))) := by kernel_rfl
  have m60 : gMulA (.str "+") (.int 60) = some (.str (chk (List.replicate 60 true))) := by kernel_rfl
  have n60 : gMulA (.str "-") (.int 60) = some (.str (chk (List.replicate 60 false))) := by kernel_rfl
  have Em : ("-" : Str) = chk [false] := by decide
  have Ex : ("--++++-+" : Str) = chk [false, false, true, true, true, true, false, true] := by decide
  have Ey : ("+-+-+-++" : Str) = chk [true, false, true, false, true, false, true, true] := by decide
  have p9 := s_pack (List.replicate 9 true) (by decide)
  have p8 := s_pack (List.replicate 8 true) (by decide)
  have r8 := s_pack (List.replicate 8 false) (by decide)
  have p60 := s_pack (List.replicate 60 true) (by decide)
  have r60 := s_pack (List.replicate 60 false) (by decide)
  have pm := s_pack [false] (by decide)
  have px := s_pack [false, false, true, true, true, true, false, true] (by decide)
  have py := s_pack [true, false, true, false, true, false, true, true] (by decide)
  rw [← Em] at pm
  rw [← Ex] at px
  rw [← Ey] at py
  have G9 := gd_pk (List.replicate 9 true) (by decide)
  have G8 := gd_pk (List.replicate 8 true) (by decide)
  have GR8 := gd_pk (List.replicate 8 false) (by decide)
  have G60 := gd_pk (List.replicate 60 true) (by decide)
  have GR60 := gd_pk (List.replicate 60 false) (by decide)
  have GM := gd_pk [false] (by decide)
  have GX := gd_pk [false, false, true, true, true, true, false, true] (by decide)
  have GY := gd_pk [true, false, true, false, true, false, true, true] (by decide)
  generalize bt [(w1.length : Int), (w1.length : Int)] = V8 at *
  generalize bt [(w1.length : Int)] = A1 at *
  generalize (((By.pkL w1).length : Nat) : Int) = n at *
  generalize bt (By.pkL w1) = A at *
  generalize bt (By.pkL w2) = B at *
  generalize bt (By.pkL (List.replicate 9 true)) = P9 at *
  generalize bt (By.pkL (List.replicate 8 true)) = P8 at *
  generalize bt (By.pkL (List.replicate 8 false)) = R8 at *
  generalize bt (By.pkL (List.replicate 60 true)) = P60 at *
  generalize bt (By.pkL (List.replicate 60 false)) = R60 at *
  generalize bt (By.pkL [false]) = PM at *
  generalize bt (By.pkL [false, false, true, true, true, true, false, true]) = PX at *
  generalize bt (By.pkL [true, false, true, false, true, false, true, true]) = PY at *
  obtain ⟨V1, v1', GV1⟩ := gd_sl GA (by decide) none (some t)
  obtain ⟨V2, v2', GV2⟩ := gd_sl GA (by decide) (some t) none
  obtain ⟨V3, v3', GV3⟩ := gd_add GA GB (by decide)
  obtain ⟨V4, v4, GV4⟩ := gd_add GB GA (by decide)
  obtain ⟨AR, ar, GAR⟩ := gd_sl GA (by decide) (some 1) none
  obtain ⟨B1, b1, GB1⟩ := gd_sl GB (by decide) none (some 1)
  obtain ⟨BR, br, GBR⟩ := gd_sl GB (by decide) (some 1) none
  obtain ⟨V5, v5, GV5⟩ := gd_add GA1 GBR (by decide)
  obtain ⟨V6, v6, GV6⟩ := gd_add GB1 GAR (by decide)
  obtain ⟨V7, v7, GV7⟩ := gd_back GA (by decide)
  obtain ⟨V9, v9, GV9⟩ := gd_sl GA (by decide) none (some 0)
  obtain ⟨V10, v10, GV10⟩ := gd_add GA GA1 (by decide)
  obtain ⟨AM, am, GAM⟩ := gd_sl GA (by decide) none (some (-1))
  obtain ⟨V11, v11, GV11⟩ := gd_add GAM GB1 (by decide)
  obtain ⟨V12, v12, GV12⟩ := gd_sl G9 (by decide) (some 1) none
  obtain ⟨Q, q, GQ⟩ := gd_sl GM (by decide) none (some 1)
  obtain ⟨E8, e8, GE8⟩ := gd_sl G8 (by decide) (some 1) none
  obtain ⟨V13, v13, GV13⟩ := gd_add GQ GE8 (by decide)
  obtain ⟨F8, f8, GF8⟩ := gd_sl GR8 (by decide) (some 1) none
  obtain ⟨V14, v14, GV14⟩ := gd_add GQ GF8 (by decide)
  obtain ⟨V15, v15, GV15⟩ := gd_sl G60 (by decide) (some 1) none
  obtain ⟨X1, x1, GX1⟩ := gd_sl GX (by decide) (some 1) none
  obtain ⟨X2, x2, GX2⟩ := gd_sl GR60 (by decide) (some 1) none
  obtain ⟨V16, v16, GV16⟩ := gd_add GX1 GX2 (by decide)
  obtain ⟨R1, r1, GR1⟩ := gd_sl GR8 (by decide) none (some 1)
  obtain ⟨Y1, y1, GY1⟩ := gd_sl GY (by decide) (some 1) none
  obtain ⟨V17, v17, GV17⟩ := gd_add GR1 GY1 (by decide)
  have all : ∀ x ∈ [A, B, V1, V2, V3, V4, V5, V6, V7, V8, V9, V10, V11, V12, V13, V14, V15, V16, V17], Gd 20 x := by
    intro x hx
    simp only [List.mem_cons, List.not_mem_nil, or_false] at hx
    rcases hx with rfl | rfl | rfl | rfl | rfl | rfl | rfl | rfl | rfl | rfl | rfl | rfl | rfl | rfl | rfl | rfl | rfl | rfl | rfl
    · exact gd_up GA (by decide)
    · exact gd_up GB (by decide)
    · exact gd_up GV1 (by decide)
    · exact gd_up GV2 (by decide)
    · exact gd_up GV3 (by decide)
    · exact gd_up GV4 (by decide)
    · exact gd_up GV5 (by decide)
    · exact gd_up GV6 (by decide)
    · exact gd_up GV7 (by decide)
    · exact gd_up GV8 (by decide)
    · exact gd_up GV9 (by decide)
    · exact gd_up GV10 (by decide)
    · exact gd_up GV11 (by decide)
    · exact gd_up GV12 (by decide)
    · exact gd_up GV13 (by decide)
    · exact gd_up GV14 (by decide)
    · exact gd_up GV15 (by decide)
    · exact gd_up GV16 (by decide)
    · exact gd_up GV17 (by decide)
  obtain ⟨E1, f, k8, k9, k10, rfl⟩ := forL_inv (w := gN 8) (b := l_law_1) (fun e => ∃ i8 i9 i10, e = [s0, s1, .own o3, .val d, .val A, .val B, .val (.int t), .val (.lst [A, B, V1, V2, V3, V4, V5, V6, V7, V8, V9, V10, V11, V12, V13, V14, V15, V16, V17]), i8, i9, i10]) (ds := [A, B, V1, V2, V3, V4, V5, V6, V7, V8, V9, V10, V11, V12, V13, V14, V15, V16, V17]) (e := [s0, s1, .own o3, .val d, .val A, .val B, .val (.int t), .val (.lst [A, B, V1, V2, V3, V4, V5, V6, V7, V8, V9, V10, V11, V12, V13, V14, V15, V16, V17]), j8, j9, j10]) (fun x hx e h => by
    obtain ⟨i8, i9, i10, rfl⟩ := h
    obtain ⟨ns, rfl, g1, g2⟩ := all x hx
    obtain ⟨m10, tt⟩ := t_l1 s0 s1 (.own o3) (.val d) (.val A) (.val B) (.val (.int t)) (.val (.lst [A, B, V1, V2, V3, V4, V5, V6, V7, V8, V9, V10, V11, V12, V13, V14, V15, V16, V17])) i8 i9 i10 ns g1 (by omega)
    exact ⟨_, tt, _, _, _, rfl⟩) ⟨_, _, _, rfl⟩
  exact ⟨o3, _, _, _, _, _, _, _, _, b_l2 s0 s1 j3 j4 j5 j6 j7 j8 j9 j10 k8 k9 k10 d o o1 o2 o3 _ _ A B V1 V2 V3 V4 V5 V6 V7 V8 V9 V10 V11 V12 V13 V14 V15 V16 V17 A1 AR B1 BR AM _ P9 PM Q _ P8 E8 _ R8 F8 _ P60 PX X1 _ R60 X2 R1 PY Y1 _ _ n t e1 p1 e2 p2 l1 rfl e3 v1' v2' v3' v4 a1 ar b1 br v5 v6 v7 v8 v9 v10 am v11 m9 p9 v12 pm q m8 p8 e8 v13 n8 r8 f8 v14 m60 p60 v15 px x1 n60 r60 x2 v16 r1 py y1 v17 (addL (by simp)) (addL (by simp)) (addL (by simp)) rfl _ rfl f, v3⟩
def badsD : List D := [.non, .str "", .str "+", .int 0, .bl true, .lst [.int 0], .tup [.int 0], .dk [], .lst [.int 1, .int 128], .str "\n"]
theorem badD (d : D) (h : d ∈ badsD) : isB_bytes d = some false := by
  simp only [badsD, List.mem_cons, List.not_mem_nil, or_false] at h
  rcases h with rfl | rfl | rfl | rfl | rfl | rfl | rfl | rfl | rfl | rfl <;> rfl
theorem oddB (d : D) (h : d ∈ oddL) : isB_bytes d = some false := by
  simp only [oddL, List.mem_cons, List.not_mem_nil, or_false] at h
  rcases h with rfl | rfl | rfl | rfl | rfl | rfl | rfl | rfl | rfl | rfl | rfl | rfl | rfl | rfl | rfl | rfl | rfl | rfl | rfl | rfl | rfl | rfl | rfl | rfl | rfl | rfl | rfl | rfl | rfl | rfl <;> rfl
theorem t_l3 (s0 s1 s2 s3 s4 s5 s6 s7 s8 j9 j10 : Sl) (V : D) (h : isB_bytes V = some false) : turn (gN 9) l_law_3 V [s0, s1, s2, s3, s4, s5, s6, s7, s8, j9, j10] = .ok .nx [s0, s1, s2, s3, s4, s5, s6, s7, s8, .val V, j10] := by
  have h1 := b_unN V h
  have ne : gNe (.tup [.str "data"]) (.tup [.str "data"]) = some (.bl false) := by kernel_rfl
  have hz1 : (1 : Nat) ≤ sizeLine := by decide
  simp [l_law_3, mSaid, h1, ct_data, k_data, ne, hz1, mkF0, mkF1, fin0, fin1, st0, st1, bnd, Sr.ret, opt, mN, mNB, mB, der, m1, m2, m2b, m2r, mT, asB, mChain, mAnd, mOr, mNot, mAndV, mOrV, mNotV, mIf, mNil, mCons, mTup, mLst, mIsN, mNotN, Sr.isNon, mCal, mCal1, mIsi, mFldB, gFld, mC0, mC1, ap0, ap1, chkO, chkL, putL, mMk, apM, skp, sq, sDrop, sRet, sRetO, sIf, sSet, sSetO, sAsg, sPar, gN, gsN, gsC, gT, gA, sApp, sPutI, sNever, mItems, dItems, mRng, mRng2, gRng, gRng2, sFor, turn, gI, gI0, gLt, gLe, gGt, gGe, gAdd, gAddI, gAddS, gAddT, gAddL, Sr.gSub, gMul, gMulI, gDiv, gMod, gPow, gNeg, gEq, dEq, eqS, gLen, gInt1, gMax2, gMin2, gAbs, gIx, gLtT, dInts, putD, gIsi, dKind, tInt, tOnly, List.map_cons, List.map_nil, List.length_cons, List.length_nil, List.cons_append, List.nil_append, List.getElem?_cons_zero, List.getElem?_cons_succ, List.set_cons_zero, List.set_cons_succ, List.replicate, Option.some_or, Option.none_or, Option.map_some, Option.map_none, Option.bind_some, Option.bind_none]
theorem b_l4 (S' cv d1 : D) (k : Int) (o o1 o2 : D) (xs : List D) (hr : gRng [.int 3] = some xs) (j1 j2 j3 j4 j5 j6 j7 j8 j9 j10 k3 k4 k5 k6 k7 k8 k9 k10 m9 : Sl) (c1 : f__law_cell_at .non [S', .int k] = .ok cv .non) (c2 : f__law_pen .non [cv] = .ok o .non) (X1 : List D → M Fl) (hX1 : forL (gN 3) l_law_2 = X1) (X2 : List D → M Fl) (hX2 : forL (gN 9) l_law_3 = X2)
    (f1 : X1 xs [.val S', .val (.int k), .own o, j3, j4, j5, j6, j7, j8, j9, j10] = .ok .nx [.val S', .val (.int k), .own o1, k3, k4, k5, k6, k7, k8, k9, k10]) (e2 : f__law_odd o1 [] = .ok d1 o2)
    (f2 : X2 (d1 :: badsD) [.val S', .val (.int k), .own o2, k3, k4, k5, k6, k7, k8, k9, k10] = .ok .nx [.val S', .val (.int k), .own o2, k3, k4, k5, k6, k7, k8, m9, k10]) :
    turn (gN 1) l_law_4 (.int k) [.val S', j1, j2, j3, j4, j5, j6, j7, j8, j9, j10] = .ok .nx [.val S', .val (.int k), .own o2, k3, k4, k5, k6, k7, k8, m9, k10] := by
  have hz1 : (1 : Nat) ≤ sizeLine := by decide
  have hz2 : (2 : Nat) ≤ sizeLine := by decide
  have hz11 : (11 : Nat) ≤ sizeLine := by decide
  simp only [badsD] at f2
  unfold l_law_4
  simp only [sFor, hX1, hX2]
  simp [c1, c2, hr, f1, e2, f2, hz1, hz2, hz11, mkF0, mkF1, fin0, fin1, st0, st1, bnd, Sr.ret, opt, mN, mNB, mB, der, m1, m2, m2b, m2r, mT, asB, mChain, mAnd, mOr, mNot, mAndV, mOrV, mNotV, mIf, mNil, mCons, mTup, mLst, mIsN, mNotN, Sr.isNon, mCal, mCal1, mIsi, mFldB, gFld, mC0, mC1, ap0, ap1, chkO, chkL, putL, mMk, apM, skp, sq, sDrop, sRet, sRetO, sIf, sSet, sSetO, sAsg, sPar, gN, gsN, gsC, gT, gA, sApp, sPutI, sNever, mItems, dItems, mRng, mRng2, gRng2, turn, gI, gI0, gLt, gLe, gGt, gGe, gAdd, gAddI, gAddS, gAddT, gAddL, Sr.gSub, gMul, gMulI, gDiv, gMod, gPow, gNeg, gEq, gNe, dEq, eqS, gLen, gInt1, gMax2, gMin2, gAbs, gIx, gLtT, dInts, putD, gIsi, dKind, tInt, tOnly, List.map_cons, List.map_nil, List.length_cons, List.length_nil, List.cons_append, List.nil_append, List.getElem?_cons_zero, List.getElem?_cons_succ, List.set_cons_zero, List.set_cons_succ, List.replicate, Option.some_or, Option.none_or, Option.map_some, Option.map_none, Option.bind_some, Option.bind_none]
def InB (ns : List Int) (e : En) : Prop := ∃ j1 j2 j3 j4 j5 j6 j7 j8 j9 j10, e = [.val (.scr ns), j1, j2, j3, j4, j5, j6, j7, j8, j9, j10]
theorem s_outer (ns : List Int) (k : Int) (hk : 0 ≤ k) (e : En) (h : InB ns e) : ∃ e', turn (gN 1) l_law_4 (.int k) e = .ok .nx e' ∧ InB ns e' := by
  obtain ⟨j1, j2, j3, j4, j5, j6, j7, j8, j9, j10, rfl⟩ := h
  obtain ⟨c, c1⟩ := s_cell ns k hk
  obtain ⟨o, c2, ho⟩ := s_pen c
  obtain ⟨E1, f1, o1, k3, k4, k5, k6, k7, k8, k9, k10, rfl, v1⟩ := forL_inv (w := gN 3) (b := l_law_2) (fun e => ∃ o' i3 i4 i5 i6 i7 i8 i9 i10, e = [.val (.scr ns), .val (.int k), .own o', i3, i4, i5, i6, i7, i8, i9, i10] ∧ PenOk o') (ds := (irng 0 3).map D.int) (e := [.val (.scr ns), .val (.int k), .own o, j3, j4, j5, j6, j7, j8, j9, j10]) (fun d hd e h => by
    obtain ⟨o', i3, i4, i5, i6, i7, i8, i9, i10, rfl, vo⟩ := h
    obtain ⟨o2, m3, m4, m5, m6, m7, m8, m9, m10, t, v2⟩ := s_l2 (.val (.scr ns)) (.val (.int k)) i3 i4 i5 i6 i7 i8 i9 i10 d o' vo
    exact ⟨_, t, _, _, _, _, _, _, _, _, _, rfl, v2⟩) ⟨_, _, _, _, _, _, _, _, _, rfl, ho⟩
  obtain ⟨d1, o2, e2, w1, v2⟩ := s_odd o1 v1
  obtain ⟨E2, f2, m9, rfl⟩ := forL_inv (w := gN 9) (b := l_law_3) (fun e => ∃ i9, e = [.val (.scr ns), .val (.int k), .own o2, k3, k4, k5, k6, k7, k8, i9, k10]) (ds := d1 :: badsD) (e := [.val (.scr ns), .val (.int k), .own o2, k3, k4, k5, k6, k7, k8, k9, k10]) (fun d hd e h => by
    obtain ⟨i9, rfl⟩ := h
    have hb : isB_bytes d = some false := by
      rw [List.mem_cons] at hd
      rcases hd with rfl | hd
      · exact oddB _ w1
      · exact badD d hd
    exact ⟨_, t_l3 _ _ _ _ _ _ _ _ _ i9 _ d hb, _, rfl⟩) ⟨_, rfl⟩
  exact ⟨_, b_l4 (.scr ns) _ d1 k o o1 o2 _ (rngI 3 (by decide) (by decide)) j1 j2 j3 j4 j5 j6 j7 j8 j9 j10 k3 k4 k5 k6 k7 k8 k9 k10 m9 c1 c2 _ rfl _ rfl f1 e2 f2, _, _, _, _, _, _, _, _, _, _, rfl⟩
theorem law_holds (ns : List Int) (hl : ns.length ≤ 63) : f_law .non [.scr ns] = .ok (.bl true) .non := by
  have hm : ∃ m : Int, m = (if (1 : Int) < (if 3 < (ns.length : Int) then 3 else (ns.length : Int)) then (if 3 < (ns.length : Int) then 3 else (ns.length : Int)) else 1) ∧ m ≤ 4 ∧ 0 ≤ m := ⟨_, rfl, by split <;> (try split) <;> omega, by split <;> (try split) <;> omega⟩
  obtain ⟨m, hm, hm1, hm2⟩ := hm
  have h0 : okR m = true := by unfold okR; simp; omega
  obtain ⟨e', h1, k1, k2, k3, k4, k5, k6, k7, k8, k9, k10, rfl⟩ := forL_inv (w := gN 1) (b := l_law_4) (InB ns) (ds := rngL 0 m) (e := [.val (.scr ns), .no, .no, .no, .no, .no, .no, .no, .no, .no, .no]) (fun d hd e h => by
    rw [rngL_eq, List.mem_map] at hd
    obtain ⟨k, hk, rfl⟩ := hd
    exact s_outer ns k (irng_mem hk).1 e h) ⟨_, _, _, _, _, _, _, _, _, _, rfl⟩
  simp [f_law, b_law, ← hm, h0, h1, mkF0, mkF1, fin0, fin1, st0, st1, bnd, Sr.ret, opt, mN, mNB, mB, der, m1, m2, m2b, m2r, mT, asB, mChain, mAnd, mOr, mNot, mAndV, mOrV, mNotV, mIf, mNil, mCons, mTup, mLst, mIsN, mNotN, Sr.isNon, mCal, mCal1, mIsi, mFldB, gFld, mC0, mC1, ap0, ap1, chkO, chkL, putL, mMk, apM, skp, sq, sDrop, sRet, sRetO, sIf, sSet, sSetO, sAsg, sPar, gN, gsN, gsC, gT, gA, sApp, sPutI, sNever, mItems, dItems, mRng, mRng2, gRng, gRng2, sFor, turn, gI, gI0, gLt, gLe, gGt, gGe, gAdd, gAddI, gAddS, gAddT, gAddL, Sr.gSub, gMul, gMulI, gDiv, gMod, gPow, gNeg, gEq, gNe, dEq, eqS, gLen, gInt1, gMax2, gMin2, gAbs, gIx, gLtT, dInts, putD, gIsi, dKind, tInt, tOnly, List.map_cons, List.map_nil, List.length_cons, List.length_nil, List.cons_append, List.nil_append, List.getElem?_cons_zero, List.getElem?_cons_succ, List.set_cons_zero, List.set_cons_succ, List.replicate, Option.some_or, Option.none_or, Option.map_some, Option.map_none, Option.bind_some, Option.bind_none]
end Lw
open PySem PySem.W PySem.Calls PyProof.Rows
theorem PySem.Challenge.cw_statusrules_k74_bytes_unpacked_holds : PySem.Challenge.rw_statusrules_k74_bytes_unpacked.Holds := by
  w_on; o_law
  refine HandSHeadRun.head_any (r := OpenLaw.row PySem.Challenge.rw_statusrules_k74_bytes_unpacked) (q := view (OpenLaw.row PySem.Challenge.rw_statusrules_k74_bytes_unpacked).prog [43]) (H := Lw.hk) (ob := Lw.ob) (M := 20000) (loose := Lw.lo) (d := HandSHeadRun.topDef (OpenLaw.row PySem.Challenge.rw_statusrules_k74_bytes_unpacked).prog 43) (kwd := []) Lw.ob_eq
    (by kernel_rfl) (fun s => by kernel_rfl) Lw.run (by kernel_rfl) (by kernel_rfl) (by kernel_rfl) (by rfl) (by first | assumption | decide +kernel) (by decide +kernel) ⟨rfl, rfl, rfl, rfl, rfl, by decide +kernel⟩ ?hw ?hc
  case hw => w_witness2
  case hc =>
    refine Sr.walk_gT (l := PySem.Challenge.rw_statusrules_k74_bytes_unpacked) (n := 63) (k := 5) (x := "_law_script") rfl (by decide) (by kernel_rfl) ⟨rfl, by decide, by decide⟩ ?F
    intro w mg fa h Y G hm0
    obtain ⟨K, KX, c, t⟩ := Y
    letI : Sr.TabL := ⟨Sr.tlZ K Lw.tf, (PySem.Challenge.rw_statusrules_k74_bytes_unpacked).prog, w⟩
    have hm : mg ("law" : PySem.Str) = some (.ref fa) := by
      have e : (HandSHeadRun.topDef (OpenLaw.row PySem.Challenge.rw_statusrules_k74_bytes_unpacked).prog 43).name = ("law" : PySem.Str) := by kernel_rfl
      rw [← e]
      exact hm0
    obtain ⟨fd, hb, hF⟩ := Lw.all_mk (P := (PySem.Challenge.rw_statusrules_k74_bytes_unpacked).prog) (w := w) KX G hm c ⟨rfl, rfl⟩ t rfl
    refine ⟨K, Lw.tf, fd, _, KX, t, hb, fun H a ns hl hO hS => ?_, hF⟩
    exact Sr.law_trueT (Lw.law_holds ns hl) rfl hO hS
