import PyProof.Rows.All
import Wide.All
import OpenK.AllK
import Wide.FinOn
import HandS.ForMost
import HandS.Walk
import HandS.HotCalls
import KE.KeyNested
import KE.KDictKeyed
import PyProof.DictRoadsH
import HandS.Exc
import HandS.CallSlots
import HandS.WordsExc
import HandS.Lambda
import HandS.TupAny
import HandS.IsInst
import HandS.Deep
import HandS.TupLe
import HandS.Style
import HandS.Defaults
import HandS.MakeKwOnly
import HandS.Property
import HandS.HeadEnd
import HandS.Ends
import Lean
import HandS.Head0
import HandS.Head1
import HandS.Head2
import HandS.HeadHook1
import HandS.HeadHook2
import HandS.Comp
import HandS.ExcOwn
import HandS.ExcIs
import HandS.TryOnly
import HandS.ExcField
import KE.KExcIs
import HandS.Text
import HandS.List
import HandS.StrMore
import HandS.RaiseMore
import HandS.FStr
import HandS.Dict
import HandS.Zip
import HandS.TupMul
import HandS.RevRange
import HandS.TupLen
import HandS.ClsMeth
import KE.KCallOwn
import KE.KOpsOwn
import KE.GoesEnum
import PyProof.ListStr
import PyProof.ListMulRight
import PyProof.Rows.ListMulR
import PyProof.Rows.StrIntSpec
import OpenK.KOwn
import KE.GoesMore
import HandS.More
import HandS.Strs
import HandS.Hot
import HandS.HeadHook4
import HandS.EndTab
import KE.OsSortAny
import PyProof.Rows.SortShellAny
import PyProof.Rows.StrMeet
import HandS.DictComp
import KE.KDictList
import HandS.Conv
import HandS.Sort
import HandS.Bytes
import HandS.BytesMake
import HandS.ToBytes
import HandS.Iter
import KE.BytesMulAny
import KE.KBytesStep
import HandS.ExcInit
import HandS.ReplaceLit
import PyProof.StrLawsRepr
import PySem.Challenge.RW_statusrules_k12_operators_refuse
set_option Elab.async false
set_option autoImplicit false
set_option linter.all false
set_option maxHeartbeats 4000000
set_option maxRecDepth 100000
namespace Sr
open PySem PySem.Spec L2
inductive D where
  | non
  | bl (b : Bool)
  | int (i : Int)
  | str (x : Str)
  | byt (b : Array UInt8)
  | lst (xs : List D)
  | tup (xs : List D)
  | dk (kvs : List (Key × D))
  | dt (kvs : List (List Key × D))
  | obj (c : Str) (fs : List (Str × D))
  | scr (ns : List Int)
  | ct (xs : List D)
  | dl (ks : List (List Key))
  | dq (kvs : List (List Key × Int))
  | dn (kvs : List (List (List Int) × D))
instance : Inhabited D := ⟨.non⟩
abbrev NKy := List (List Int)
class TabL where
  l : List (Addr × Str)
  P : Program
  w : World
def nkP (k : NKy) : NestedKey := .tup (k.map fun r => .tup (r.map .num))
abbrev LPn (x : NKy × Addr × V) (y : NestedKey × Addr × Value) : Prop := y.1 = nkP x.1 ∧ y.2.1 = x.2.1 ∧ RelV x.2.2 y.2.2
def LKn (P : Program) (w : World) (a : Addr) (xs : List (NKy × Addr × V)) : HO := .ext fun h => xs.length ≤ sizeLine ∧ (a == sysModules) = false ∧
  ∃ ys : List (NestedKey × Addr × Value), Paired LPn xs ys ∧
  ∃ o es ep, h.get? a = some o ∧ o.ExactDict ∧ o.data = .dict es ep ∧ es.toList = ys.map (entryOfKey (nestedKind P w)) ∧ (ys.map (·.1)).Nodup
def RwAt (F : Hp) (r : List Int) (v : V) : Prop := ∃ c, v = .ref c ∧ F c = some (.tup (r.map V.int))
def PkAt (F : Hp) (k : NKy) (b : Addr) : Prop := ∃ vs, F b = some (.tup vs) ∧ Paired (RwAt F) k vs
theorem pkAt_mono {F F' : Hp} (s : Same F F') {k : NKy} {b : Addr} (h : PkAt F k b) : PkAt F' k b := by
  obtain ⟨vs, h1, h2⟩ := h
  exact ⟨vs, s _ _ h1, Paired.mapP h2 fun _ _ ⟨c, e, q⟩ => ⟨c, e, s _ _ q⟩⟩
variable [TabL]
def Fz (H : Hp) (a : Addr) (u : HO) : Prop := ∃ o, H a = some (.frz o u)
section
variable (K : PySem.W.Frag) (mg : Str → Option Value) (F : Hp)
mutual
def Rp : D → V → Prop
  | .non, v => v = .non
  | .bl b, v => v = .bl b
  | .int i, v => v = .int i
  | .str x, v => v = .str x
  | .byt b, v => v = .byt b
  | .lst ds, v => ∃ a xs, v = .ref a ∧ F a = some (.lst xs) ∧ RpL ds xs
  | .tup ds, v => ∃ a xs, v = .ref a ∧ F a = some (.tup xs) ∧ RpL ds xs
  | .ct ds, v => ∃ a xs, v = .ref a ∧ SqT K F a xs ∧ RpL ds xs
  | .dk kvs, v => ∃ a ys, v = .ref a ∧ Fz F a (.dK ys) ∧ RpK kvs ys
  | .dt kvs, v => ∃ a ys, v = .ref a ∧ F a = some (.dT ys) ∧ RpT kvs ys
  | .obj c fs, v => ∃ a C dx gs, v = .ref a ∧ mg c = some (.ref C) ∧ F a = some (.ins C dx gs) ∧ RpF fs gs
  | .scr ns, v => ∃ a, v = .ref a ∧ SqL K F a (ns.map V.int)
  | .dl _, v => ∃ a φ, v = .ref a ∧ F a = some (.ext φ)
  | .dq _, v => ∃ a φ, v = .ref a ∧ F a = some (.ext φ)
  | .dn kvs, v => ∃ a xs, v = .ref a ∧ F a = some (LKn TabL.P TabL.w a xs) ∧ RpN kvs xs
def RpL : List D → List V → Prop
  | [], xs => xs = []
  | d :: ds, xs => ∃ v vs, xs = v :: vs ∧ Rp d v ∧ RpL ds vs
def RpK : List (Key × D) → List (Key × V) → Prop
  | [], xs => xs = []
  | (k, d) :: ds, xs => ∃ v vs, xs = (k, v) :: vs ∧ Rp d v ∧ RpK ds vs
def RpT : List (List Key × D) → List (List Key × V) → Prop
  | [], xs => xs = []
  | (k, d) :: ds, xs => ∃ v vs, xs = (k, v) :: vs ∧ Rp d v ∧ RpT ds vs
def RpN : List (List (List Int) × D) → List (NKy × Addr × V) → Prop
  | [], xs => xs = []
  | (k, d) :: ds, xs => ∃ b v vs, xs = (k, b, v) :: vs ∧ PkAt F k b ∧ Rp d v ∧ RpN ds vs
def RpF : List (Str × D) → List (Str × V) → Prop
  | [], xs => xs = []
  | (k, d) :: ds, xs => ∃ v vs, xs = (k, v) :: vs ∧ Rp d v ∧ RpF ds vs
end
end
theorem seqC_mono {K : PySem.W.Frag} {H H' : Hp} {a : Addr} {xs : List V} (e : Same H H') (h : SqT K H a xs) : SqT K H' a xs := by
  rcases h with (h | ⟨o, h⟩) | h
  · exact .inl (.inl (e _ _ h))
  · exact .inl (.inr ⟨o, e _ _ h⟩)
  · exact .inr h
theorem fz_mono {H H' : Hp} {a : Addr} {u : HO} (e : Same H H') (h : Fz H a u) : Fz H' a u := h.elim fun o h => ⟨o, e _ _ h⟩
section
variable {K : PySem.W.Frag} {mg : Str → Option Value} {F F' : Hp}
mutual
theorem Rp.mono (s : Same F F') : ∀ (d : D) (v : V), Rp K mg F d v → Rp K mg F' d v
  | .non, v, h => h
  | .bl b, v, h => h
  | .int i, v, h => h
  | .str x, v, h => h
  | .byt b, v, h => h
  | .lst ds, v, h => by
    unfold Rp at h ⊢
    obtain ⟨a, xs, e, q, r⟩ := h
    exact ⟨a, xs, e, s _ _ q, RpL.mono s ds xs r⟩
  | .tup ds, v, h => by
    unfold Rp at h ⊢
    obtain ⟨a, xs, e, q, r⟩ := h
    exact ⟨a, xs, e, s _ _ q, RpL.mono s ds xs r⟩
  | .ct ds, v, h => by
    unfold Rp at h ⊢
    obtain ⟨a, xs, e, q, r⟩ := h
    exact ⟨a, xs, e, seqC_mono s q, RpL.mono s ds xs r⟩
  | .dk ds, v, h => by
    unfold Rp at h ⊢
    obtain ⟨a, xs, e, q, r⟩ := h
    exact ⟨a, xs, e, fz_mono s q, RpK.mono s ds xs r⟩
  | .dt ds, v, h => by
    unfold Rp at h ⊢
    obtain ⟨a, xs, e, q, r⟩ := h
    exact ⟨a, xs, e, s _ _ q, RpT.mono s ds xs r⟩
  | .obj c fs, v, h => by
    unfold Rp at h ⊢
    obtain ⟨a, C, dx, gs, e, m, q, r⟩ := h
    exact ⟨a, C, dx, gs, e, m, s _ _ q, RpF.mono s fs gs r⟩
  | .scr ns, v, h => by
    unfold Rp at h ⊢
    obtain ⟨a, e, q⟩ := h
    exact ⟨a, e, s.seq q⟩
  | .dl ks, v, h => by
    unfold Rp at h ⊢
    obtain ⟨a, φ, e, q⟩ := h
    exact ⟨a, φ, e, s _ _ q⟩
  | .dq ks, v, h => by
    unfold Rp at h ⊢
    obtain ⟨a, φ, e, q⟩ := h
    exact ⟨a, φ, e, s _ _ q⟩
  | .dn ks, v, h => by
    unfold Rp at h ⊢
    obtain ⟨a, xs, e, q, r⟩ := h
    exact ⟨a, xs, e, s _ _ q, RpN.mono s ks xs r⟩
theorem RpN.mono (s : Same F F') : ∀ (ds : List (List (List Int) × D)) (xs : List (NKy × Addr × V)), RpN K mg F ds xs → RpN K mg F' ds xs
  | [], xs, h => h
  | (k, d) :: ds, xs, h => by
    unfold RpN at h ⊢
    obtain ⟨b, v, vs, e, p, r, q⟩ := h
    exact ⟨b, v, vs, e, pkAt_mono s p, Rp.mono s d v r, RpN.mono s ds vs q⟩
theorem RpL.mono (s : Same F F') : ∀ (ds : List D) (xs : List V), RpL K mg F ds xs → RpL K mg F' ds xs
  | [], xs, h => h
  | d :: ds, xs, h => by
    unfold RpL at h ⊢
    obtain ⟨v, vs, e, r, q⟩ := h
    exact ⟨v, vs, e, Rp.mono s d v r, RpL.mono s ds vs q⟩
theorem RpK.mono (s : Same F F') : ∀ (ds : List (Key × D)) (xs : List (Key × V)), RpK K mg F ds xs → RpK K mg F' ds xs
  | [], xs, h => h
  | (k, d) :: ds, xs, h => by
    unfold RpK at h ⊢
    obtain ⟨v, vs, e, r, q⟩ := h
    exact ⟨v, vs, e, Rp.mono s d v r, RpK.mono s ds vs q⟩
theorem RpT.mono (s : Same F F') : ∀ (ds : List (List Key × D)) (xs : List (List Key × V)), RpT K mg F ds xs → RpT K mg F' ds xs
  | [], xs, h => h
  | (k, d) :: ds, xs, h => by
    unfold RpT at h ⊢
    obtain ⟨v, vs, e, r, q⟩ := h
    exact ⟨v, vs, e, Rp.mono s d v r, RpT.mono s ds vs q⟩
theorem RpF.mono (s : Same F F') : ∀ (ds : List (Str × D)) (xs : List (Str × V)), RpF K mg F ds xs → RpF K mg F' ds xs
  | [], xs, h => h
  | (k, d) :: ds, xs, h => by
    unfold RpF at h ⊢
    obtain ⟨v, vs, e, r, q⟩ := h
    exact ⟨v, vs, e, Rp.mono s d v r, RpF.mono s ds vs q⟩
end
end
end Sr
namespace Sr
open PySem PySem.Spec L2
def kL : Key → Leaf
  | .inl i => .num i
  | .inr x => .text x
def LKy (P : Program) (w : World) (a : Addr) (xs : List (List Key × Addr)) : HO := .ext fun h => xs.length ≤ sizeLine ∧ (a == sysModules) = false ∧
  ∃ o es ep, h.get? a = some o ∧ o.ExactDict ∧ o.data = .dict es ep ∧ es.toList = (xs.map fun x => (x.1.map kL, x.2, Value.bool true)).map (entryOfKey (tupleKind (leafKind P w))) ∧ ((xs.map fun x => (x.1.map kL, x.2, Value.bool true)).map (·.1)).Nodup
def LKi (P : Program) (w : World) (a : Addr) (xs : List (List Key × Addr × Int)) : HO := .ext fun h => xs.length ≤ sizeLine ∧ (a == sysModules) = false ∧
  ∃ ys : List (List Leaf × Addr × Value), Paired (fun (x : List Key × Addr × Int) (y : List Leaf × Addr × Value) => y.1 = x.1.map kL ∧ y.2.1 = x.2.1 ∧ ∃ t, y.2.2 = Value.int x.2.2 t) xs ys ∧
  ∃ o es ep, h.get? a = some o ∧ o.ExactDict ∧ o.data = .dict es ep ∧ es.toList = ys.map (entryOfKey (tupleKind (leafKind P w))) ∧ (ys.map (·.1)).Nodup
def kOf : V → Option Key
  | .int i => some (.inl i)
  | .bl b => some (.inl (if b then 1 else 0))
  | .str x => some (.inr x)
  | _ => none
abbrev NTb (o : HO) : Prop := ∀ ps, o ≠ .tbl ps
structure TbOk [TabL] (H F : Hp) : Prop where
  tabs : LamX.Tabs TabL.l H
  nt : ∀ a o, F a = some o → NTb o
  all : ∀ a ps, H a = some (.tbl ps) → ∃ q ∈ TabL.l, q.1 = a
variable [TabL]
inductive Sl where
  | no
  | val (d : D)
  | own (d : D)
abbrev En := List Sl
structure Ex where
  c : Str
  fs : List (Str × D)
inductive Out (A : Type) where
  | ok (a : A) (e : En)
  | exc (x : Ex) (e : En)
  | bad
abbrev M (A : Type) := En → Out A
def bnd {A B : Type} (m : M A) (f : A → M B) : M B := fun e => match m e with
  | .ok a e1 => f a e1
  | .exc x e1 => .exc x e1
  | .bad => .bad
def ret {A : Type} (a : A) : M A := fun e => .ok a e
def opt {A : Type} (o : Option A) : M A := fun e => match o with
  | some a => .ok a e
  | none => .bad
section
variable (K : PySem.W.Frag) (mg : Str → Option Value)
def OwnAt (H F : Hp) (p : Addr) : D → Prop
  | .lst ds => ∃ xs, H p = some (.lst xs) ∧ RpL K mg F ds xs
  | .dk ds => ∃ xs, H p = some (.dK xs) ∧ RpK K mg F ds xs
  | .dt ds => ∃ xs, H p = some (.dT xs) ∧ RpT K mg F ds xs
  | .obj c fs => ∃ C dx gs, mg c = some (.ref C) ∧ H p = some (.ins C dx gs) ∧ RpF K mg F fs gs
  | .dl ks => ∃ xs : List (List Key × Addr), H p = some (LKy TabL.P TabL.w p xs) ∧ xs.map (·.1) = ks ∧ ∀ x ∈ xs, ∃ vs, F x.2 = some (.tup vs) ∧ vs.map kOf = x.1.map some
  | .dn kvs => ∃ xs : List (NKy × Addr × V), H p = some (LKn TabL.P TabL.w p xs) ∧ RpN K mg F kvs xs
  | .dq kvs => ∃ xs : List (List Key × Addr × Int), H p = some (LKi TabL.P TabL.w p xs) ∧ xs.map (fun x => (x.1, x.2.2)) = kvs ∧ ∀ x ∈ xs, ∃ vs, F x.2.1 = some (.tup vs) ∧ vs.map kOf = x.1.map some
  | _ => False
end
def Ow (e : En) (σ : St) (a : Addr) : Prop := ∃ (i : Nat) (d : D), e[i]? = some (Sl.own d) ∧ σ[i]? = some (some (V.ref a))
structure Pa where
  a : Addr
  x : Option (Addr × List (Str × V) × List (Str × D))
instance paCoe : Coe Addr Pa := ⟨fun a => ⟨a, none⟩⟩
abbrev Pn := List (Nat × Pa)
def PnOk (K : PySem.W.Frag) (mg : Str → Option Value) (σ : St) (F : Hp) (q : Nat × Pa) : Prop := σ[q.1]? = some (some (.ref q.2.a)) ∧ ∀ y, q.2.x = some y → F y.1 = some (.xd y.2.1) ∧ RpF K mg F y.2.2 y.2.1
structure ER (K : PySem.W.Frag) (mg : Str → Option Value) (T : Pn) (e : En) (σ : St) (H F : Hp) : Prop where
  sub : Same F H
  val : ∀ (i : Nat) (d : D), e[i]? = some (.val d) → ∃ v, σ[i]? = some (some v) ∧ Rp K mg F d v
  own : ∀ (i : Nat) (d : D), e[i]? = some (.own d) → ∃ p, σ[i]? = some (some (.ref p)) ∧ F p = none ∧ OwnAt K mg H F p d
  inj : ∀ (i j : Nat) (p : Addr) (d d' : D), e[i]? = some (.own d) → e[j]? = some (.own d') → σ[i]? = some (some (.ref p)) → σ[j]? = some (some (.ref p)) → i = j
  len : e.length = σ.length
  pin : ∀ q ∈ T, PnOk K mg σ F q
  tb : TbOk H F
theorem PnOk.mono {K : PySem.W.Frag} {mg : Str → Option Value} {σ : St} {F F' : Hp} {q : Nat × Pa} (h : PnOk K mg σ F q) (s : Same F F') : PnOk K mg σ F' q := ⟨h.1, fun y hy => ⟨s _ _ (h.2 y hy).1, RpF.mono s _ _ (h.2 y hy).2⟩⟩
theorem PnOk.slot {K : PySem.W.Frag} {mg : Str → Option Value} {σ σ' : St} {F : Hp} {q : Nat × Pa} (h : PnOk K mg σ F q) (e : σ'[q.1]? = σ[q.1]?) : PnOk K mg σ' F q := ⟨e.trans h.1, h.2⟩
theorem PnOk.of {K : PySem.W.Frag} {mg : Str → Option Value} {σ : St} {F : Hp} {i : Nat} {a : Addr} (h : σ[i]? = some (some (.ref a))) : PnOk K mg σ F (i, a) := ⟨h, fun _ z => nomatch z⟩
theorem ER.pinM {K : PySem.W.Frag} {mg : Str → Option Value} {T : Pn} {e : En} {σ : St} {H F F' : Hp} (er : ER K mg T e σ H F) (s : Same F F') : ∀ q ∈ T, PnOk K mg σ F' q := fun q hq => (er.pin q hq).mono s
structure Mv (e : En) (σ : St) (H F : Hp) (e' : En) (σ' : St) (H' F' : Hp) : Prop where
  sub : Same F F'
  keep : ∀ a o, H a = some o → ¬ Ow e σ a → (NTb o → H' a = some o) ∧ ¬ Ow e' σ' a
  new : ∀ a o, F' a = some o → F a = some o ∨ H a = none ∨ Ow e σ a
  there : ∀ a, H' a = none → H a = none
theorem Mv.refl {e : En} {σ : St} {H F : Hp} : Mv e σ H F e σ H F := ⟨Same.refl _, fun _ _ h n => ⟨fun _ => h, n⟩, fun _ _ h => .inl h, fun _ h => h⟩
theorem Mv.trans {e e1 e2 : En} {σ σ1 σ2 : St} {H F H1 F1 H2 F2 : Hp} (a : Mv e σ H F e1 σ1 H1 F1) (b : Mv e1 σ1 H1 F1 e2 σ2 H2 F2) : Mv e σ H F e2 σ2 H2 F2 := by
  refine ⟨a.sub.trans b.sub, fun c o h n => ?_, fun c o h => ?_, fun c h => a.there c (b.there c h)⟩
  · obtain ⟨h1, n1⟩ := a.keep c o h n
    refine ⟨fun z => (b.keep c o (h1 z) n1).1 z, ?_⟩
    cases q : H1 c with
    | none => rw [a.there c q] at h; cases h
    | some u => exact (b.keep c u q n1).2
  · rcases b.new c o h with h1 | h1 | h1
    · exact a.new c o h1
    · exact .inr (.inl (a.there c h1))
    · cases q : H c with
      | none => exact .inr (.inl rfl)
      | some u =>
        by_cases w : Ow e σ c
        · exact .inr (.inr w)
        · exact absurd h1 (a.keep c u q w).2
def Al (H F H' F' : Hp) : Prop := (H' = H ∧ F' = F) ∨ ∃ p o, H p = none ∧ H' = upd H p o ∧ F' = upd F p o ∧ NTb o
theorem Al.refl {H F : Hp} : Al H F H F := .inl ⟨rfl, rfl⟩
theorem Al.one {H F : Hp} {p : Addr} {o : HO} (h : H p = none) (n : NTb o := by first | assumption | (intro _ z; exact nomatch z) | (intro _ z; cases z)) : Al H F (upd H p o) (upd F p o) := .inr ⟨p, o, h, rfl, rfl, n⟩
theorem same_upd {H : Hp} {p : Addr} {o : HO} (h : H p = none) : Same H (upd H p o) := fun b u e => by
  rw [upd_ne (ne_of_none e h)]; exact e
theorem Al.same {H F H' F' : Hp} (s : Same F H) (a : Al H F H' F') : Same F F' ∧ Same H H' ∧ Same F' H' := by
  rcases a with ⟨rfl, rfl⟩ | ⟨p, o, h, rfl, rfl, _⟩
  · exact ⟨Same.refl _, Same.refl _, s⟩
  · refine ⟨same_upd (s.free h), same_upd h, fun b u e => ?_⟩
    by_cases hb : b = p
    · subst hb; rw [upd_same] at e ⊢; exact e
    · rw [upd_ne hb] at e ⊢; exact s b u e
theorem TbOk.updF {H F : Hp} (t : TbOk H F) {p : Addr} {o : HO} (n : NTb o) : TbOk H (upd F p o) := ⟨t.tabs, fun a u h => by
  by_cases hb : a = p
  · subst hb; rw [upd_same] at h; cases h; exact n
  · rw [upd_ne hb] at h; exact t.nt a u h, t.all⟩
theorem TbOk.push {H F : Hp} (t : TbOk H F) {p : Addr} {o : HO} (h : H p = none) (n : NTb o) : TbOk (upd H p o) F := ⟨t.tabs.ext (same_upd h), t.nt, fun a ps z => by
  by_cases hb : a = p
  · subst hb; rw [upd_same] at z; cases z; exact (n ps rfl).elim
  · rw [upd_ne hb] at z; exact t.all a ps z⟩
theorem TbOk.al {H F H' F' : Hp} (t : TbOk H F) (a : Al H F H' F') : TbOk H' F' := by
  rcases a with ⟨rfl, rfl⟩ | ⟨p, o, h, rfl, rfl, n⟩
  · exact t
  · exact (t.push h n).updF n
section
variable {K : PySem.W.Frag} {mg : Str → Option Value} {T : Pn} {e e' : En} {σ σ' : St} {H F H' F' : Hp} {p a : Addr} {d : D} {v : V}
theorem OwnAt.nt (h : OwnAt K mg H F p d) {o : HO} (ho : H p = some o) : NTb o := by
  cases d <;> try (exact h.elim)
  · obtain ⟨xs, h1, h2⟩ := h; rw [h1] at ho; cases ho; exact fun _ z => nomatch z
  · obtain ⟨xs, h1, h2⟩ := h; rw [h1] at ho; cases ho; exact fun _ z => nomatch z
  · obtain ⟨xs, h1, h2⟩ := h; rw [h1] at ho; cases ho; exact fun _ z => nomatch z
  · obtain ⟨C, dx, xs, m, h1, h2⟩ := h; rw [h1] at ho; cases ho; exact fun _ z => nomatch z
  · obtain ⟨xs, h1, h2⟩ := h; rw [h1] at ho; cases ho; exact fun _ z => nomatch z
  · obtain ⟨xs, h1, h2⟩ := h; rw [h1] at ho; cases ho; exact fun _ z => nomatch z
  · obtain ⟨xs, h1, h2⟩ := h; rw [h1] at ho; cases ho; exact fun _ z => nomatch z
theorem OwnAt.keep (h : OwnAt K mg H F p d) (s : Same F F') (q : ∀ o, H p = some o → H' p = some o) : OwnAt K mg H' F' p d := by
  cases d <;> try (exact h.elim)
  · obtain ⟨xs, h1, h2⟩ := h
    exact ⟨xs, q _ h1, RpL.mono s _ _ h2⟩
  · obtain ⟨xs, h1, h2⟩ := h
    exact ⟨xs, q _ h1, RpK.mono s _ _ h2⟩
  · obtain ⟨xs, h1, h2⟩ := h
    exact ⟨xs, q _ h1, RpT.mono s _ _ h2⟩
  · obtain ⟨C, dx, xs, m, h1, h2⟩ := h
    exact ⟨C, dx, xs, m, q _ h1, RpF.mono s _ _ h2⟩
  · obtain ⟨xs, h1, h2, h3⟩ := h
    exact ⟨xs, q _ h1, h2, fun x hx => let ⟨vs, a, b⟩ := h3 x hx; ⟨vs, s _ _ a, b⟩⟩
  · obtain ⟨xs, h1, h2, h3⟩ := h
    exact ⟨xs, q _ h1, h2, fun x hx => let ⟨vs, a, b⟩ := h3 x hx; ⟨vs, s _ _ a, b⟩⟩
  · obtain ⟨xs, h1, h2⟩ := h
    exact ⟨xs, q _ h1, RpN.mono s _ _ h2⟩
theorem OwnAt.there (h : OwnAt K mg H F p d) : ∃ o, H p = some o := by
  cases d <;> try (exact h.elim)
  · obtain ⟨xs, h1, h2⟩ := h; exact ⟨_, h1⟩
  · obtain ⟨xs, h1, h2⟩ := h; exact ⟨_, h1⟩
  · obtain ⟨xs, h1, h2⟩ := h; exact ⟨_, h1⟩
  · obtain ⟨C, dx, xs, m, h1, h2⟩ := h; exact ⟨_, h1⟩
  · obtain ⟨xs, h1, h2⟩ := h; exact ⟨_, h1⟩
  · obtain ⟨xs, h1, h2⟩ := h; exact ⟨_, h1⟩
  · obtain ⟨xs, h1, h2⟩ := h; exact ⟨_, h1⟩
theorem ER.al (r : ER K mg T e σ H F) (a : Al H F H' F') : ER K mg T e σ H' F' := by
  obtain ⟨s1, s2, s3⟩ := a.same r.sub
  refine ⟨s3, fun i d h => ?_, fun i d h => ?_, r.inj, r.len, r.pinM s1, r.tb.al a⟩
  · obtain ⟨v, h1, h2⟩ := r.val i d h
    exact ⟨v, h1, Rp.mono s1 _ _ h2⟩
  · obtain ⟨p, h1, h2, h3⟩ := r.own i d h
    refine ⟨p, h1, ?_, h3.keep s1 (s2 p)⟩
    obtain ⟨o, ho⟩ := h3.there
    rcases a with ⟨rfl, rfl⟩ | ⟨q, u, hq, rfl, rfl, nu⟩
    · exact h2
    · rw [upd_ne (ne_of_none ho hq)]; exact h2
theorem Mv.al (r : ER K mg T e σ H F) (a : Al H F H' F') : Mv e σ H F e σ H' F' := by
  obtain ⟨s1, s2, s3⟩ := a.same r.sub
  refine ⟨s1, fun b o h n => ⟨fun _ => s2 b o h, n⟩, fun b o h => ?_, fun b h => s2.free h⟩
  rcases a with ⟨rfl, rfl⟩ | ⟨q, u, hq, rfl, rfl, nu⟩
  · exact .inl h
  · by_cases hb : b = q
    · subst hb; exact .inr (.inl hq)
    · rw [upd_ne hb] at h; exact .inl h
end
def XaOk (K : PySem.W.Frag) (mg : Str → Option Value) (F : Hp) (dd : Option Addr) (x : Ex) : Prop := (x.fs = [] ∧ dd = none) ∨ (∃ a gs, dd = some a ∧ F a = some (.xd gs) ∧ RpF K mg F x.fs gs)
def XR (K : PySem.W.Frag) (mg : Str → Option Value) (x : Ex) (cl : Value) (dd : Option Addr) (H F : Hp) : Prop :=
  mg x.c = some cl ∧ XaOk K mg F dd x
def PaX (pa : Pa) (a : Addr) (d : Option Addr) (ex : Ex) : Prop := pa.a = a ∧ ((pa.x = none ∧ ex.fs = [] ∧ d = none) ∨ ∃ dd gs, pa.x = some (dd, gs, ex.fs) ∧ d = some dd)
theorem XaOk.pa {K : PySem.W.Frag} {mg : Str → Option Value} {F : Hp} {d : Option Addr} {ex : Ex} (h : XaOk K mg F d ex) (a : Addr) : ∃ pa : Pa, PaX pa a d ex ∧ ∀ y, pa.x = some y → F y.1 = some (.xd y.2.1) ∧ RpF K mg F y.2.2 y.2.1 := by
  rcases h with ⟨g1, g2⟩ | ⟨b, gs, g2, g3, g4⟩
  · exact ⟨⟨a, none⟩, ⟨rfl, .inl ⟨rfl, g1, g2⟩⟩, fun y hy => nomatch hy⟩
  · exact ⟨⟨a, some (b, gs, ex.fs)⟩, ⟨rfl, .inr ⟨b, gs, rfl, g2⟩⟩, fun y hy => by cases hy; exact ⟨g3, g4⟩⟩
section
variable (K : PySem.W.Frag) (mg : Str → Option Value) (T : Pn) (W : WX)
def RunAt {A : Type} (e : En) (F : Hp) (m : M A) (σ : St) (H : Hp) (P : A → En → Hp → Hp → Prop) : Prop :=
  match m e with
  | .ok a e' => ∀ H' F', ER K mg T e' σ H' F' → Mv e σ H F e' σ H' F' → P a e' H' F'
  | .exc x e' => ∀ H' F' cl dd, ER K mg T e' σ H' F' → Mv e σ H F e' σ H' F' → XR K mg x cl dd H' F' → W cl dd σ H'
  | .bad => False
end
section
variable {K : PySem.W.Frag} {mg : Str → Option Value} {T : Pn} {W : WX} {A B : Type} {e : En} {σ : St} {H F : Hp}
theorem RunAt.mono {m : M A} {P P' : A → En → Hp → Hp → Prop} (h : RunAt K mg T W e F m σ H P) (hp : ∀ a e' H' F', ER K mg T e' σ H' F' → Mv e σ H F e' σ H' F' → P a e' H' F' → P' a e' H' F') : RunAt K mg T W e F m σ H P' := by
  unfold RunAt at h ⊢
  cases q : m e with
  | ok a e' =>
    rw [q] at h
    exact fun H' F' er mv => hp _ _ _ _ er mv (h H' F' er mv)
  | exc x e' => rw [q] at h; exact h
  | bad => rw [q] at h; exact h
theorem RunAt.fin {o : Option A} {P : A → En → Hp → Hp → Prop} (h : RunAt K mg T W e F (opt o) σ H P) (er : ER K mg T e σ H F) : ∃ a, o = some a ∧ ∀ H' F', Al H F H' F' → P a e H' F' := by
  unfold RunAt opt at h
  cases o with
  | none => exact h.elim
  | some a => exact ⟨a, rfl, fun H' F' al => h H' F' (er.al al) (Mv.al er al)⟩
end
end Sr
namespace Sr
variable [TabL]
open PySem PySem.Spec L2
open PyProof.Rows hiding St
inductive Bv where
  | val (d : D)
  | slot (i : Nat)
def BwR (K : PySem.W.Frag) (mg : Str → Option Value) (σ : St) (F : Hp) : Bv → V → Prop
  | .val d, v => Rp K mg F d v
  | .slot i, v => σ[i]? = some (some v)
section
variable {K : PySem.W.Frag} {mg : Str → Option Value} {T : Pn} {W : WX} {e : En} {σ : St} {H F F' : Hp} {b : Bv} {v : V}
theorem BwR.mono (s : Same F F') (h : BwR K mg σ F b v) : BwR K mg σ F' b v := by
  cases b with
  | val d => exact Rp.mono s _ _ h
  | slot i => exact h
end
section
variable {X : Cx} {T : Pn} {W : WX} {pos : Pos} {a b c : Expr} {ma mb mc : M D}
def m2 (g : D → D → Option D) (ma mb : M D) : M D := bnd ma fun d1 => bnd mb fun d2 => opt (g d1 d2)
variable {rest : List Expr} {n n' : M Bool}
theorem RpL.isEmpty {K : PySem.W.Frag} {mg : Str → Option Value} {F : Hp} {ds : List D} {xs : List V} (h : RpL K mg F ds xs) : ds.isEmpty = xs.isEmpty := by
  cases ds with
  | nil => unfold RpL at h; subst h; rfl
  | cons d ds => unfold RpL at h; obtain ⟨v, vs, rfl, _⟩ := h; rfl
theorem RpK.isEmpty {K : PySem.W.Frag} {mg : Str → Option Value} {F : Hp} {ds : List (Key × D)} {xs : List (Key × V)} (h : RpK K mg F ds xs) : ds.isEmpty = xs.isEmpty := by
  cases ds with
  | nil => unfold RpK at h; subst h; rfl
  | cons d ds => obtain ⟨k, d⟩ := d; unfold RpK at h; obtain ⟨v, vs, rfl, _⟩ := h; rfl
theorem RpL.len {K : PySem.W.Frag} {mg : Str → Option Value} {F : Hp} : ∀ {ds : List D} {xs : List V}, RpL K mg F ds xs → ds.length = xs.length
  | [], xs, h => by unfold RpL at h; subst h; rfl
  | d :: ds, xs, h => by unfold RpL at h; obtain ⟨v, vs, rfl, _, q⟩ := h; rw [List.length_cons, List.length_cons, q.len]
end
theorem RunAt.new {K : PySem.W.Frag} {mg : Str → Option Value} {T : Pn} {W : WX} {e : En} {σ : St} {H F : Hp} {d : D} {P : D → En → Hp → Hp → Prop} {p : Addr} {o : HO} (h : RunAt K mg T W e F (ret d) σ H P) (er : ER K mg T e σ H F) (hp : H p = none) (nt : NTb o := by first | assumption | (intro _ z; exact nomatch z) | (intro _ z; cases z)) : P d e (upd H p o) F := by
  have s : Same H (upd H p o) := same_upd hp
  refine h _ F ⟨er.sub.trans s, er.val, fun i d q => ?_, er.inj, er.len, er.pin, er.tb.push hp nt⟩ ⟨Same.refl _, fun a u q n => ⟨fun _ => s a u q, n⟩, fun a u q => .inl q, fun a q => s.free q⟩
  obtain ⟨p', h1, h2, h3⟩ := er.own i d q
  exact ⟨p', h1, h2, h3.keep (Same.refl _) (s p')⟩
end Sr
namespace Sr
variable [TabL]
open PySem PySem.Spec L2
open PyProof.Rows hiding St
section
variable {K : PySem.W.Frag} {mg : Str → Option Value} {F H : Hp}
theorem rl_nil {xs : List V} : RpL K mg F [] xs ↔ xs = [] := by rw [RpL]
theorem rl_cons {d : D} {ds : List D} {xs : List V} : RpL K mg F (d :: ds) xs ↔ ∃ v vs, xs = v :: vs ∧ Rp K mg F d v ∧ RpL K mg F ds vs := by rw [RpL]
theorem RpL.append : ∀ {ds es : List D} {xs ys : List V}, RpL K mg F ds xs → RpL K mg F es ys → RpL K mg F (ds ++ es) (xs ++ ys)
  | [], es, xs, ys, h, q => by rw [rl_nil] at h; subst h; exact q
  | d :: ds, es, xs, ys, h, q => by
    rw [rl_cons] at h
    obtain ⟨v, vs, rfl, r, h⟩ := h
    rw [List.cons_append, rl_cons]
    exact ⟨v, vs ++ ys, rfl, r, RpL.append h q⟩
theorem RpL.take : ∀ (n : Nat) {ds : List D} {xs : List V}, RpL K mg F ds xs → RpL K mg F (ds.take n) (xs.take n)
  | 0, ds, xs, h => by simp [rl_nil]
  | n + 1, [], xs, h => by rw [rl_nil] at h; subst h; simp [rl_nil]
  | n + 1, d :: ds, xs, h => by
    rw [rl_cons] at h
    obtain ⟨v, vs, rfl, r, h⟩ := h
    rw [List.take_succ_cons, rl_cons]
    exact ⟨v, vs.take n, by simp, r, RpL.take n h⟩
theorem RpL.drop : ∀ (n : Nat) {ds : List D} {xs : List V}, RpL K mg F ds xs → RpL K mg F (ds.drop n) (xs.drop n)
  | 0, ds, xs, h => h
  | n + 1, [], xs, h => by rw [rl_nil] at h; subst h; simp [rl_nil]
  | n + 1, d :: ds, xs, h => by
    rw [rl_cons] at h
    obtain ⟨v, vs, rfl, r, h⟩ := h
    simp only [List.drop_succ_cons]
    exact RpL.drop n h
theorem RpL.set {d : D} {v : V} (r : Rp K mg F d v) : ∀ (i : Nat) {ds : List D} {xs : List V}, RpL K mg F ds xs → RpL K mg F (ds.set i d) (xs.set i v)
  | _, [], xs, h => by rw [rl_nil] at h; subst h; simp [rl_nil]
  | 0, d' :: ds, xs, h => by
    rw [rl_cons] at h
    obtain ⟨w, vs, rfl, _, h⟩ := h
    rw [List.set_cons_zero, List.set_cons_zero, rl_cons]
    exact ⟨v, vs, rfl, r, h⟩
  | i + 1, d' :: ds, xs, h => by
    rw [rl_cons] at h
    obtain ⟨w, vs, rfl, r', h⟩ := h
    rw [List.set_cons_succ, List.set_cons_succ, rl_cons]
    exact ⟨w, vs.set i v, rfl, r', RpL.set r i h⟩
end
section
variable {X : Cx} {T : Pn} {W : WX} {pos : Pos} {a b c : Expr} {ma mb mc : M D}
def m1 (g : D → Option D) (m : M D) : M D := bnd m fun d => opt (g d)
theorem RpK.len {K : PySem.W.Frag} {mg : Str → Option Value} {F : Hp} : ∀ {ds : List (Key × D)} {xs : List (Key × V)}, RpK K mg F ds xs → ds.length = xs.length
  | [], xs, h => by unfold RpK at h; subst h; rfl
  | (k, d) :: ds, xs, h => by unfold RpK at h; obtain ⟨v, vs, rfl, _, q⟩ := h; rw [List.length_cons, List.length_cons, q.len]
end
end Sr
namespace Sr
variable [TabL]
open PySem PySem.Spec L2
open PyProof.Rows hiding St
inductive Fl where
  | nx
  | rt (d : D)
  | ro (d : D)
  | bk
  | ct
section
variable (K : PySem.W.Frag) (mg : Str → Option Value) (T : Pn) (W : WX)
def RunS (e : En) (F : Hp) (s : M Fl) (σ : St) (H : Hp) (Dn : Ends) : Prop :=
  match s e with
  | .ok .nx e' => ∀ σ' H' F', ER K mg T e' σ' H' F' → Mv e σ H F e' σ' H' F' → Dn.nx σ' H'
  | .ok (.rt d) e' => ∀ σ' H' F' v, ER K mg T e' σ' H' F' → Mv e σ H F e' σ' H' F' → Rp K mg F' d v → Dn.rt v H'
  | .ok (.ro d) e' => ∀ σ' H' F' p, ER K mg T e' σ' H' F' → Mv e σ H F e' σ' H' F' → (H p = none ∨ Ow e σ p) → F' p = none → ¬ Ow e' σ' p → OwnAt K mg H' F' p d → Dn.rt (.ref p) H'
  | .ok .bk e' => ∀ σ' H' F', ER K mg T e' σ' H' F' → Mv e σ H F e' σ' H' F' → Dn.bk σ' H'
  | .ok .ct e' => ∀ σ' H' F', ER K mg T e' σ' H' F' → Mv e σ H F e' σ' H' F' → Dn.ct σ' H'
  | .exc x e' => ∀ σ' H' F' cl dd, ER K mg T e' σ' H' F' → Mv e σ H F e' σ' H' F' → XR K mg x cl dd H' F' → W cl dd σ' H'
  | .bad => False
end
end Sr
namespace Sr
variable [TabL]
open PySem hiding start
open PySem.Spec L2
open PyProof.Rows hiding St
inductive Rs where
  | ok (d o : D)
  | exc (x : Ex) (o : D)
  | bad
abbrev Fnc := D → List D → Rs
structure Fr (p : Option Addr) (H F H' F' : Hp) : Prop where
  sub : Same F F'
  fin : Same F' H'
  keep : ∀ a o, H a = some o → NTb o → p ≠ some a → H' a = some o
  new : ∀ a o, F' a = some o → F a = some o ∨ H a = none
  there : ∀ a, H' a = none → H a = none
  tb : TbOk H' F'
section
variable (K : PySem.W.Frag) (mg : Str → Option Value)
def Res (ro : Bool) (p : Option Addr) (d : D) (H : Hp) (Q : VK) (H' F' : Hp) : Prop :=
  if ro = true then ∀ q, H q = none → F' q = none → OwnAt K mg H' F' q d → Q (.ref q) H' else ∀ v, Rp K mg F' d v → Q v H'
def spF0 (ro : Bool) (n : Nat) (f : Fnc) : Sp := fun vs H Q E => ∃ (ds : List D) (F : Hp), Same F H ∧ TbOk H F ∧ RpL K mg F ds vs ∧ ds.length = n ∧
  match f .non ds with
  | .ok d _ => ∀ H' F', Fr none H F H' F' → Res K mg ro none d H Q H' F'
  | .exc x _ => ∀ H' F' cl dd, Fr none H F H' F' → XR K mg x cl dd H' F' → E cl dd H'
  | .bad => False
end
section
variable {P : Program} {w : World} {K : PySem.W.Frag} {mg : Str → Option Value} {base : Heap} {x qual : Str} {params : Arguments} {body : List Stmt} {scope : Scope} {dvs : List V} {kws : List (Str × V)} {f : Addr} {fd : FuncData}
structure FnG (P : Program) (w : World) (K : PySem.W.Frag) (mg : Str → Option Value) (base : Heap) (k : Nat) (f : Addr) (fd : FuncData) (ps : List Str) (sp : Sp) : Prop where
  len : ∀ vs H Q E, sp vs H Q E → vs.length = ps.length
  run : ∀ (A : Around) (outer : List Env) (s : Shared) (H : Hp) (args : Args) (us : List Value) (vs : List V) (Q : VK) (E : XK),
    Room k A → A.guards = some [] → Env0 P w K mg base A outer s H → BindsTo s fd args (ps.zip us) → Vals vs us → sp vs H Q E →
    codeAny (model P w) A (.call (.ref f) args) (CR (L2N.CX P w) outer P w H s Q E) s
theorem FnG.mono {P : Program} {w : World} {K : PySem.W.Frag} {mg : Str → Option Value} {base : Heap} {j k : Nat} {f : Addr} {fd : FuncData} {ps : List Str} {sp : Sp} (F : FnG P w K mg base j f fd ps sp) (h : j ≤ k) : FnG P w K mg base k f fd ps sp :=
  ⟨F.len, fun A outer s H args us vs Q E hr => F.run A outer s H args us vs Q E (hr.mono h)⟩
end
end Sr
namespace Sr
variable [TabL]
open PySem hiding start
open PySem.Spec L2
open PyProof.Rows hiding St
section
variable {K : PySem.W.Frag} {mg : Str → Option Value} {F : Hp}
theorem rf_nil {xs : List (Str × V)} : RpF K mg F [] xs ↔ xs = [] := by rw [RpF]
theorem rf_cons {k : Str} {d : D} {ds : List (Str × D)} {xs : List (Str × V)} : RpF K mg F ((k, d) :: ds) xs ↔ ∃ v vs, xs = (k, v) :: vs ∧ Rp K mg F d v ∧ RpF K mg F ds vs := by rw [RpF]
theorem RpF.len : ∀ {fs : List (Str × D)} {gs : List (Str × V)}, RpF K mg F fs gs → fs.length = gs.length
  | [], gs, h => by rw [rf_nil] at h; subst h; rfl
  | (k, x) :: fs, gs, h => by rw [rf_cons] at h; obtain ⟨v, vs, rfl, r, h⟩ := h; rw [List.length_cons, List.length_cons, h.len]
end
structure ClK (K : PySem.W.Frag) (mg : Str → Option Value) (c : Str) (C : Addr) : Prop where
  mg : mg c = some (.ref C)
  cl : Cls K C
abbrev Cl (X : Cx) (c : Str) (C : Addr) : Prop := ClK X.K X.mg c C
end Sr
namespace Sr
variable [TabL]
open PySem hiding start
open PySem.Spec L2
open PyProof.Rows hiding St
section
variable {X : Cx} {T : Pn} {W : WX} {pos : Pos} {a : Expr} {ma : M D}
inductive Kd where
  | non | bool | int | str | bytes | list | tuple | dict
  deriving DecidableEq
def Kd.nm : Kd → String
  | .non => "NoneType"
  | .bool => "bool"
  | .int => "int"
  | .str => "str"
  | .bytes => "bytes"
  | .list => "list"
  | .tuple => "tuple"
  | .dict => "dict"
end
end Sr
namespace Sr
open PySem hiding start
open PySem.Spec L2
open PyProof.Rows hiding St
structure DefZ where
  ad : PySem.W.Frag → Addr
  name : Str
  qual : Str
  st : Stmt
  kwd : List (Str × V) := []
def fnZ (K : PySem.W.Frag) (a : Addr) : He.FnW := match K.lookup a with
  | some ⟨_, _, .func fd, _⟩ => some (fd.name, fd.qualname, fd.params, fd.body, fd.scope, fd.globals, fd.closure, fd.builtins)
  | _ => none
def DefZ.val (d : DefZ) : He.FnW := some (d.name, d.qual, defArgs d.st, .stmts (defBody d.st), defScope d.st, mainGlobals, [], builtinsNs)
def DefZ.ok (K : PySem.W.Frag) (d : DefZ) : Bool := PySem.W.keepIn K (.ref (d.ad K)) && (match K.lookup (d.ad K) with
  | some ⟨_, _, .func fd, _⟩ => PySem.W.codeIn K fd.code d.qual && (He.dflB K fd.defaults [] && He.kwdB K fd.kwdefaults d.kwd)
  | _ => false)
abbrev AlZ : Type := Bool × List He.FnW
def obsK (fa : List He.Fa) (fn : List DefZ) (ex : PySem.W.Frag → Bool) (K : PySem.W.Frag) : AlZ := ((fa.all fun f => f.ok K) && ((fn.all fun d => d.ok K) && ex K), fn.map fun d => fnZ K (d.ad K))
def valZ (fn : List DefZ) : AlZ := (true, fn.map DefZ.val)
def SaysZ (fa : List He.Fa) (fn : List DefZ) (ex : PySem.W.Frag → Bool) (K : PySem.W.Frag) : Prop := obsK fa fn ex K = valZ fn
section
variable {fa : List He.Fa} {fn : List DefZ} {ex : PySem.W.Frag → Bool} {K : PySem.W.Frag}
theorem SaysZ.all (c : SaysZ fa fn ex K) : (fa.all fun f => f.ok K) = true ∧ (fn.all fun d => d.ok K) = true ∧ ex K = true := by
  obtain ⟨h1, h2⟩ := He.ba (show ((fa.all fun f => f.ok K) && ((fn.all fun d => d.ok K) && ex K)) = true from congrArg (fun z : AlZ => z.1) c)
  exact ⟨h1, He.ba h2⟩
end
def prG (K : PySem.W.Frag) (c f : Str) : Addr × Addr := match PySem.W.findIn K (.ref (He.ga K c)) f with
  | some (some (.ref p)) => (p, match PySem.W.recIn K p "property" with
    | some (.ref g :: _) => g
    | _ => 0)
  | _ => (0, 0)
def propB (K : PySem.W.Frag) (c f : Str) : Bool :=
  decide (PySem.W.findIn K (.ref (He.ga K c)) f = some (some (.ref (prG K c f).1))) && (decide (PySem.W.specialIn K (.ref (prG K c f).1) "__get__" = some (some (.builtin "property.__get__"))) && (decide (PySem.W.takesIn K (.ref (prG K c f).1) = some true) &&
    match PySem.W.recIn K (prG K c f).1 "property" with
    | some (.ref g :: _) => decide (g = (prG K c f).2)
    | _ => false))
def cliB (K : PySem.W.Frag) (c : Str) : Bool :=
  decide (PySem.W.findIn K (.ref (He.ga K c)) "__class__" = some (some (.builtin "object.__class__"))) && (decide (PySem.W.specialIn K (.builtin "object.__class__") "__get__" = some (some (.builtin "getset_descriptor.__get__"))) &&
    (decide (PySem.W.takesIn K (.builtin "object.__class__") = some true) && decide (PySem.W.mroIn K (He.ga K c) (.type "object") = some true)))
def allKd : List Kd := [.non, .bool, .int, .str, .bytes, .list, .tuple, .dict]
def noKd (K : PySem.W.Frag) (c : Str) : Bool := allKd.all fun k => decide (PySem.W.kitOne K (.type k.nm) (.ref (He.ga K c)) = some false)
def ownB (K : PySem.W.Frag) (u : Value) (l : List (Str × Bool)) : Bool := l.all fun q => decide (PySem.W.kitOne K (.ref (He.ga K q.1)) u = some q.2)
end Sr
namespace Sr
open PySem hiding start
open L2
section
variable {A B : Type}
@[simp] theorem bnd_ret {a : A} {f : A → M B} {e : En} : bnd (ret a) f e = f a e := rfl
@[simp] theorem bnd_opt {a : A} {f : A → M B} {e : En} : bnd (opt (some a)) f e = f a e := rfl
end
end Sr
namespace Sr
variable [TabL]
open PySem hiding start
open PySem.Spec L2
open PyProof.Rows hiding St
theorem RunAt.of {K : PySem.W.Frag} {mg : Str → Option Value} {T : Pn} {W : WX} {A : Type} {m : M A} {e e1 : En} {σ : St} {H F : Hp} {x : A} {P : A → En → Hp → Hp → Prop} (q : m e = .ok x e1) (h : ∀ H' F', ER K mg T e1 σ H' F' → Mv e σ H F e1 σ H' F' → P x e1 H' F') : RunAt K mg T W e F m σ H P := by
  unfold RunAt
  rw [q]
  exact h
end Sr
namespace Sr
variable [TabL]
open PySem hiding start
open PySem.Spec L2
open PyProof.Rows hiding St
section
variable {K : PySem.W.Frag} {mg : Str → Option Value} {T : Pn} {e : En} {σ : St} {H F : Hp} {i : Nat}
theorem ER.unpin {q : Nat × Pa} (er : ER K mg (q :: T) e σ H F) : ER K mg T e σ H F := ⟨er.sub, er.val, er.own, er.inj, er.len, fun z hz => er.pin z (List.mem_cons_of_mem _ hz), er.tb⟩
end
section
variable {X : Cx} {T : Pn} {W : WX} {pos : Pos} {k : Nat}
theorem PaX.dd {pa : Pa} {a : Addr} {d : Option Addr} {ex : Ex} {K : PySem.W.Frag} {mg : Str → Option Value} {T : Pn} {e : En} {σ : St} {H F : Hp} {i : Nat} (h : PaX pa a d ex) (er : ER K mg ((i, pa) :: T) e σ H F) : ∀ dd, d = some dd → ∃ gs, H dd = some (.xd gs) := fun dd e => by
  rcases h.2 with ⟨_, _, z⟩ | ⟨d2, gs, h1, h2⟩
  · rw [z] at e; cases e
  · rw [h2] at e; cases e
    exact ⟨gs, er.sub _ _ ((er.pin (i, pa) List.mem_cons_self).2 _ h1).1⟩
end
def excB (K : PySem.W.Frag) (x : Str) : Bool :=
  decide (PySem.W.findIn K (.ref (He.ga K x)) "__getattribute__" = some (some (.builtin "BaseException.__getattribute__"))) && (decide (PySem.W.findIn K (.ref (He.ga K x)) "__getattr__" = some none) &&
    (decide (PySem.W.subIn K (.ref (He.ga K x)) (.type "BaseException") = some true) && (PySem.W.hasDictIn K (He.ga K x) && cliB K x)))
def catB (K : PySem.W.Frag) (u : Value) (l : List (Str × Bool)) : Bool := l.all fun q => decide (PySem.W.exmOne K (.ref (He.ga K q.1)) u = some q.2)
def exsB (K : PySem.W.Frag) (u : Value) (l : List (Str × Bool)) : Bool := l.all fun q => excB K q.1 && decide (PySem.W.kitOne K (.ref (He.ga K q.1)) u = some q.2)
end Sr
namespace Sr
variable [TabL]
open PySem hiding start
open PySem.Spec L2
open PyProof.Rows hiding St
structure OwnM (X : Cx) (k : Nat) (c : Str) (C : Addr) (m : Str) (n : Nat) (ps : List Str) (f : Fnc) : Prop where
  cl : Cl X c C
  ex : ∃ fa fd, PySem.W.findIn X.K (.ref C) m = some (some (.ref fa)) ∧ PySem.W.isFn X.K (.ref fa) = true ∧ FnG X.prog X.w X.K X.mg X.base k fa fd ps (spF0 X.K X.mg false n f) ∧ Binds X.K fd ps []
end Sr
namespace Sr
variable [TabL]
open PySem hiding start
open PySem.Spec L2
open PyProof.Rows hiding St
theorem RpF.none {K : PySem.W.Frag} {mg : Str → Option Value} {F : Hp} {m : Str} : ∀ {fs : List (Str × D)} {gs : List (Str × V)}, RpF K mg F fs gs → fs.lookup m = none → gs.lookup m = none
  | [], gs, h, _ => by unfold RpF at h; subst h; rfl
  | (g, d) :: fs, gs, h, n => by
    unfold RpF at h
    obtain ⟨v, vs, rfl, _, h⟩ := h
    rw [List.lookup_cons] at n ⊢
    cases q : m == g with
    | true => rw [q] at n; cases n
    | false => rw [q] at n; exact RpF.none h n
structure OwnK (X : Cx) (k : Nat) (c : Str) (C : Addr) (m : Str) (n : Nat) (ps : List Str) (f : Fnc) : Prop where
  cl : Cl X c C
  ex : ∃ fa fd, Meth X.K C m fa ∧ FnG X.prog X.w X.K X.mg X.base k fa fd ps (spF0 X.K X.mg false n f) ∧ Binds X.K fd ps []
theorem OwnK.m {X : Cx} {k : Nat} {c : Str} {C : Addr} {m : Str} {n : Nat} {ps : List Str} {f : Fnc} (h : OwnK X k c C m n ps f) : OwnM X k c C m n ps f := by
  obtain ⟨fa, fd, h1, h2, h3⟩ := h.ex
  exact ⟨h.cl, fa, fd, h1.at_, h1.fn, h2, h3⟩
end Sr
namespace Sr
variable [TabL]
open PySem hiding start
open PySem.Spec L2
open PyProof.Rows hiding St
section
variable {X : Cx} {T : Pn} {W : WX} {pos : Pos}
theorem RpK.any {K : PySem.W.Frag} {mg : Str → Option Value} {F : Hp} {k : Key} : ∀ {ds : List (Key × D)} {vs : List (Key × V)}, RpK K mg F ds vs → (ds.any fun kv => decide (kv.1 = k)) = (vs.any fun kv => decide (kv.1 = k))
  | [], vs, h => by unfold RpK at h; subst h; rfl
  | (q, d) :: ds, vs, h => by
    unfold RpK at h
    obtain ⟨v, r, rfl, _, h⟩ := h
    rw [List.any_cons, List.any_cons, RpK.any h]
theorem RpK.map {K : PySem.W.Frag} {mg : Str → Option Value} {F : Hp} {k : Key} {d : D} {v : V} (hv : Rp K mg F d v) : ∀ {ds : List (Key × D)} {vs : List (Key × V)}, RpK K mg F ds vs → RpK K mg F (ds.map fun kv => if kv.1 = k then (kv.1, d) else kv) (vs.map fun kv => if kv.1 = k then (kv.1, v) else kv)
  | [], vs, h => by unfold RpK at h; subst h; unfold RpK; rfl
  | (q, x) :: ds, vs, h => by
    unfold RpK at h
    obtain ⟨w, r, rfl, hw, h⟩ := h
    rw [List.map_cons, List.map_cons]
    by_cases hq : q = k
    · simp only [hq, if_true]
      unfold RpK
      exact ⟨v, _, rfl, hv, RpK.map hv h⟩
    · simp only [hq, if_false]
      unfold RpK
      exact ⟨w, _, rfl, hw, RpK.map hv h⟩
theorem RpK.snoc {K : PySem.W.Frag} {mg : Str → Option Value} {F : Hp} {k : Key} {d : D} {v : V} (hv : Rp K mg F d v) : ∀ {ds : List (Key × D)} {vs : List (Key × V)}, RpK K mg F ds vs → RpK K mg F (ds ++ [(k, d)]) (vs ++ [(k, v)])
  | [], vs, h => by unfold RpK at h; subst h; unfold RpK; exact ⟨v, [], rfl, hv, by unfold RpK; rfl⟩
  | (q, x) :: ds, vs, h => by
    unfold RpK at h
    obtain ⟨w, r, rfl, hw, h⟩ := h
    rw [List.cons_append, List.cons_append]
    unfold RpK
    exact ⟨w, _, rfl, hw, RpK.snoc hv h⟩
end
end Sr
namespace Sr
variable [TabL]
open PySem hiding start
open PySem.Spec L2
open PyProof.Rows hiding St
theorem RpL.rep {K : PySem.W.Frag} {mg : Str → Option Value} {F : Hp} {ds : List D} {xs : List V} (l : RpL K mg F ds xs) : ∀ n : Nat, RpL K mg F (List.replicate n ds).flatten (List.replicate n xs).flatten
  | 0 => by simp [rl_nil]
  | n + 1 => by rw [List.replicate_succ, List.replicate_succ, List.flatten_cons, List.flatten_cons]; exact l.append (RpL.rep l n)
end Sr
namespace Sr
variable [TabL]
open PySem hiding start
open PySem.Spec L2
open PyProof.Rows hiding St
section
variable {κ : Type} [DecidableEq κ]
def valD (kvs : List (κ × D)) (k : κ) : Option D := (kvs.find? fun kv => decide (kv.1 = k)).map (·.2)
end
section
variable {K : PySem.W.Frag} {mg : Str → Option Value} {F H : Hp}
def opR (K : PySem.W.Frag) (mg : Str → Option Value) (F : Hp) : Option D → Option V → Prop
  | none, none => True
  | some d, some v => Rp K mg F d v
  | _, _ => False
theorem RpK.val {k : Key} : ∀ {ds : List (Key × D)} {vs : List (Key × V)}, RpK K mg F ds vs → opR K mg F (valD ds k) (valV vs k)
  | [], vs, h => by unfold RpK at h; subst h; exact trivial
  | (q, d) :: ds, vs, h => by
    unfold RpK at h
    obtain ⟨v, r, rfl, hv, h⟩ := h
    have ih := RpK.val (k := k) h
    unfold valD valV at ih ⊢
    rw [List.find?_cons, List.find?_cons]
    by_cases hq : q = k
    · simp only [hq, decide_true]; exact hv
    · simp only [hq, decide_false]; exact ih
theorem RpT.val {k : List Key} : ∀ {ds : List (List Key × D)} {vs : List (List Key × V)}, RpT K mg F ds vs → opR K mg F (valD ds k) (valV vs k)
  | [], vs, h => by unfold RpT at h; subst h; exact trivial
  | (q, d) :: ds, vs, h => by
    unfold RpT at h
    obtain ⟨v, r, rfl, hv, h⟩ := h
    have ih := RpT.val (k := k) h
    unfold valD valV at ih ⊢
    rw [List.find?_cons, List.find?_cons]
    by_cases hq : q = k
    · simp only [hq, decide_true]; exact hv
    · simp only [hq, decide_false]; exact ih
theorem RpT.any {k : List Key} : ∀ {ds : List (List Key × D)} {vs : List (List Key × V)}, RpT K mg F ds vs → (ds.any fun kv => decide (kv.1 = k)) = (vs.any fun kv => decide (kv.1 = k))
  | [], vs, h => by unfold RpT at h; subst h; rfl
  | (q, d) :: ds, vs, h => by
    unfold RpT at h
    obtain ⟨v, r, rfl, _, h⟩ := h
    rw [List.any_cons, List.any_cons, RpT.any h]
theorem RpT.map {k : List Key} {d : D} {v : V} (hv : Rp K mg F d v) : ∀ {ds : List (List Key × D)} {vs : List (List Key × V)}, RpT K mg F ds vs → RpT K mg F (ds.map fun kv => if kv.1 = k then (kv.1, d) else kv) (vs.map fun kv => if kv.1 = k then (kv.1, v) else kv)
  | [], vs, h => by unfold RpT at h; subst h; unfold RpT; rfl
  | (q, x) :: ds, vs, h => by
    unfold RpT at h
    obtain ⟨w, r, rfl, hw, h⟩ := h
    rw [List.map_cons, List.map_cons]
    by_cases hq : q = k
    · simp only [hq, if_true]
      unfold RpT
      exact ⟨v, _, rfl, hv, RpT.map hv h⟩
    · simp only [hq, if_false]
      unfold RpT
      exact ⟨w, _, rfl, hw, RpT.map hv h⟩
theorem RpT.snoc {k : List Key} {d : D} {v : V} (hv : Rp K mg F d v) : ∀ {ds : List (List Key × D)} {vs : List (List Key × V)}, RpT K mg F ds vs → RpT K mg F (ds ++ [(k, d)]) (vs ++ [(k, v)])
  | [], vs, h => by unfold RpT at h; subst h; unfold RpT; exact ⟨v, [], rfl, hv, by unfold RpT; rfl⟩
  | (q, x) :: ds, vs, h => by
    unfold RpT at h
    obtain ⟨w, r, rfl, hw, h⟩ := h
    rw [List.cons_append, List.cons_append]
    unfold RpT
    exact ⟨w, _, rfl, hw, RpT.snoc hv h⟩
theorem RpT.len : ∀ {ds : List (List Key × D)} {xs : List (List Key × V)}, RpT K mg F ds xs → ds.length = xs.length
  | [], xs, h => by unfold RpT at h; subst h; rfl
  | (k, d) :: ds, xs, h => by unfold RpT at h; obtain ⟨v, vs, rfl, _, q⟩ := h; rw [List.length_cons, List.length_cons, q.len]
end
end Sr
namespace Sr
variable [TabL]
open PySem hiding start
open PySem.Spec L2
open PyProof.Rows hiding St
def NoOwn (p : Addr) : List (Bool × D) → List V → Prop
  | (true, _) :: l, v :: r => v ≠ .ref p ∧ NoOwn p l r
  | (false, _) :: l, _ :: r => NoOwn p l r
  | _, _ => True
def RpM (K : PySem.W.Frag) (mg : Str → Option Value) (H0 : Hp) (e : En) (σ : St) (H F : Hp) : List (Bool × D) → List V → Prop
  | [], vs => vs = []
  | (false, d) :: l, vs => ∃ v r, vs = v :: r ∧ Rp K mg F d v ∧ RpM K mg H0 e σ H F l r
  | (true, d) :: l, vs => ∃ p r, vs = .ref p :: r ∧ H0 p = none ∧ F p = none ∧ ¬ Ow e σ p ∧ OwnAt K mg H F p d ∧ NoOwn p l r ∧ RpM K mg H0 e σ H F l r
end Sr
namespace Sr
variable [TabL]
open PySem hiding start
open PySem.Spec L2
open PyProof.Rows hiding St
section
variable {K : PySem.W.Frag} {mg : Str → Option Value} {H0 : Hp} {e : En} {σ : St} {H F : Hp} {p : Addr} {o : HO}
theorem RpM.upd (hp : H p = none) : ∀ {l : List (Bool × D)} {vs : List V}, RpM K mg H0 e σ H F l vs → RpM K mg H0 e σ (L2.upd H p o) F l vs
  | [], vs, r => r
  | (false, d) :: l, vs, ⟨v, r, e1, h1, h2⟩ => ⟨v, r, e1, h1, RpM.upd hp h2⟩
  | (true, d) :: l, vs, ⟨q, r, e1, h1, h2, h3, h4, h5, h6⟩ => ⟨q, r, e1, h1, h2, h3, h4.keep (Same.refl _) (fun u hu => by
      rw [upd_ne]
      · exact hu
      · rintro rfl; rw [hp] at hu; cases hu), h5, RpM.upd hp h6⟩
theorem RpM.one {b : Bool} {d : Sr.D} {l : List (Bool × Sr.D)} {vs : List V} (h : RpM K mg H0 e σ H F ((b, d) :: l) vs) : ∃ v r, vs = v :: r ∧ RpM K mg H0 e σ H F l r := by
  cases b with
  | false => obtain ⟨v, r, e1, _, h2⟩ := h; exact ⟨v, r, e1, h2⟩
  | true => obtain ⟨p, r, e1, _, _, _, _, _, h2⟩ := h; exact ⟨_, r, e1, h2⟩
end
end Sr
namespace Sr
variable [TabL]
open PySem hiding start
open PySem.Spec L2
open PyProof.Rows hiding St
def isR : Option (Option Value) → Bool
  | some none => true
  | some (some (.ref _)) => true
  | _ => false
def isRs : Option (Option Value) → Bool
  | some (some (.ref _)) => true
  | _ => false
end Sr
namespace Sr
variable [TabL]
open PySem hiding start
open PySem.Spec L2
open PyProof.Rows hiding St
open LamX (LamS lamEnv lamCx CodeO ExtN Tabs TabS TabB lam_make2 lam_start2)
open L2H (RoomH HotC Hot1 PinOk cxH)
def cOf (K : PySem.W.Frag) : Value → Addr × Addr
  | .ref c => (c, match K.lookup c with
    | some ⟨_, _, .fields vs, _⟩ => (match (vs[11]? : Option Value) with
      | some (.ref P) => P
      | _ => 0)
    | _ => 0)
  | _ => (0, 0)
def cTz (K : PySem.W.Frag) (a : Addr) : Addr × Addr := match K.lookup a with
  | some ⟨_, _, .func fd, _⟩ => cOf K fd.code
  | _ => (0, 0)
end Sr
namespace Sr
open PySem hiding start
open PySem.Spec L2
open PyProof.Rows hiding St
open LamX (LamS lamEnv lamCx CodeO ExtN Tabs TabS TabB)
def lamQ (d : DefZ) : Str := (d.qual ++ ".<locals>.") ++ "<lambda>"
structure TabsZ (tf : List DefZ) (h : Heap) (K : PySem.W.Frag) : Prop where
  hd : ∀ d ∈ tf, PySem.W.codeHdIn K (cTz K (d.ad K)).1 (cTz K (d.ad K)).2 = true
  out : ∀ d ∈ tf, K.lookup (cTz K (d.ad K)).2 = none
  empty : ∀ d ∈ tf, h.get? (cTz K (d.ad K)).2 = some { cls := .none, data := .fields #[] }
  one : ∀ d ∈ tf, ∀ d' ∈ tf, (cTz K (d.ad K)).2 = (cTz K (d'.ad K)).2 → lamQ d = lamQ d'
def tabOkB (g : Addr → Option Obj) (tf : List DefZ) (K : PySem.W.Frag) : Bool :=
  (tf.all fun d => PySem.W.codeHdIn K (cTz K (d.ad K)).1 (cTz K (d.ad K)).2 && (match g (cTz K (d.ad K)).2 with
    | some o => He.emptyTab o
    | none => false)) && (tf.all fun d => tf.all fun d' => !decide ((cTz K (d.ad K)).2 = (cTz K (d'.ad K)).2) || decide (lamQ d = lamQ d'))
def obsM (as : List Addr) (fa : List He.Fa) (fn : List DefZ) (ex : PySem.W.Frag → Bool) (tf : List DefZ) (g : Addr → Option Obj) : AlZ × Bool := (obsK fa fn ex (He.frT g as), tabOkB g tf (He.frT g as))
theorem tabsZ_of {as : List Addr} {tf : List DefZ} {h : Heap} (e : tabOkB h.get? tf (He.frT h.get? as) = true) : TabsZ tf h (He.frT h.get? as) := by
  obtain ⟨h1, h2⟩ := He.ba e
  have key : ∀ d ∈ tf, PySem.W.codeHdIn (He.frT h.get? as) (cTz (He.frT h.get? as) (d.ad (He.frT h.get? as))).1 (cTz (He.frT h.get? as) (d.ad (He.frT h.get? as))).2 = true ∧ ∃ o, h.get? (cTz (He.frT h.get? as) (d.ad (He.frT h.get? as))).2 = some o ∧ He.emptyTab o = true := fun d hp => by
    obtain ⟨h3, h4⟩ := He.ba (List.all_eq_true.mp h1 d hp)
    refine ⟨h3, ?_⟩
    cases q : h.get? (cTz (He.frT h.get? as) (d.ad (He.frT h.get? as))).2 with
    | none => rw [q] at h4; cases h4
    | some o => rw [q] at h4; exact ⟨o, rfl, h4⟩
  refine ⟨fun d hp => (key d hp).1, fun d hp => ?_, fun d hp => ?_, fun d hp d' hp' z => ?_⟩
  · obtain ⟨_, o, q, z⟩ := key d hp
    exact He.frT_none q z
  · obtain ⟨_, o, q, z⟩ := key d hp
    rw [q, He.emptyTab_eq z]
  · have := List.all_eq_true.mp (List.all_eq_true.mp h2 d hp) d' hp'
    rw [Bool.or_eq_true, Bool.not_eq_true', decide_eq_false_iff_not, decide_eq_true_eq] at this
    rcases this with n | n
    · exact absurd z n
    · exact n
def hookM (as : List Addr) (fa : List He.Fa) (fn : List DefZ) (ex : PySem.W.Frag → Bool) (tf : List DefZ) : PySem.W.Hook where
  α := AlZ × Bool
  obs := fun s => obsM as fa fn ex tf s.heap.get?
  val := fun _ => (valZ fn, true)
  says := fun _ h => ∃ K : PySem.W.Frag, K.In h ∧ SaysZ fa fn ex K ∧ TabsZ tf h K
  of := fun _ _ e => ⟨_, He.frT_in, congrArg (fun z : AlZ × Bool => z.1) e, tabsZ_of (congrArg (fun z : AlZ × Bool => z.2) e)⟩
  keeps := fun _ _ _ ⟨K, hK, c, t⟩ k => ⟨K, PySem.W.Frag.In.keeps hK k, c, t.hd, t.out, fun d hd => k _ _ (t.empty d hd), t.one⟩
end Sr
namespace Sr
variable [TabL]
open PySem hiding start
open PySem.Spec L2
open PyProof.Rows hiding St
section
variable {K : PySem.W.Frag} {mg : Str → Option Value} {T : Pn} {W : WX} {e : En} {σ : St} {H F : Hp}
theorem RunS.pin {s : M Fl} {Dn : Ends} (h : RunS K mg T W e F s σ H Dn) (q : Nat × Pa) : RunS K mg (q :: T) W e F s σ H Dn := by
  unfold RunS at h ⊢
  cases z : s e with
  | ok fl e1 =>
    rw [z] at h
    cases fl with
    | nx => exact fun σ' H' F' er mv => h σ' H' F' er.unpin mv
    | rt d => exact fun σ' H' F' v er mv r => h σ' H' F' v er.unpin mv r
    | ro d => exact fun σ' H' F' p er mv hp fp np ow => h σ' H' F' p er.unpin mv hp fp np ow
    | bk => exact fun σ' H' F' er mv => h σ' H' F' er.unpin mv
    | ct => exact fun σ' H' F' er mv => h σ' H' F' er.unpin mv
  | exc x e1 =>
    rw [z] at h
    exact fun σ' H' F' cl dd er mv xr => h σ' H' F' cl dd er.unpin mv xr
  | bad => rw [z] at h; exact h
end
end Sr
namespace Sr
variable [TabL]
open PySem hiding start
open PySem.Spec L2
open PyProof.Rows hiding St
instance decMemK : (k : List Key) → (l : List (List Key)) → Decidable (k ∈ l)
  | k, [] => .isFalse (fun h => nomatch h)
  | k, x :: l => if e : k = x then .isTrue (by rw [e]; exact List.mem_cons_self) else match decMemK k l with
    | .isTrue h => .isTrue (List.mem_cons_of_mem _ h)
    | .isFalse h => .isFalse fun z => (List.mem_cons.1 z).elim e h
end Sr
namespace Sr
variable [TabL]
open PySem hiding start
open PySem.Spec L2
open PyProof.Rows hiding St
open LamX (lamEnv lamCx CodeO ExtN Tabs TabS TabB)
section
variable {K : PySem.W.Frag} {mg : Str → Option Value} {T : Pn} {e e2 : En} {σ : St} {H F : Hp} {d : D} {v : V}
theorem psh_get (er : ER K mg T e σ H F) {i : Nat} {s : Sl} (h : (e ++ [.val d])[i]? = some s) : (e[i]? = some s ∧ (σ ++ [some v])[i]? = σ[i]?) ∨ (i = σ.length ∧ s = .val d) := by
  by_cases hi : i < e.length
  · rw [List.getElem?_append_left hi] at h
    exact .inl ⟨h, List.getElem?_append_left (by rw [← er.len]; exact hi)⟩
  · rw [List.getElem?_append_right (Nat.le_of_not_lt hi)] at h
    have hz : i - e.length = 0 := by
      have := (List.getElem?_eq_some_iff.mp h).1
      simp at this
      omega
    rw [hz] at h
    cases h
    exact .inr ⟨by rw [← er.len]; omega, rfl⟩
theorem ER.push (er : ER K mg T e σ H F) (r : Rp K mg F d v) : ER K mg T (e ++ [.val d]) (σ ++ [some v]) H F ∧ Mv e σ H F (e ++ [.val d]) (σ ++ [some v]) H F := by
  refine ⟨⟨er.sub, fun i x h => ?_, fun i x h => ?_, fun i j p x y h1 h2 h3 h4 => ?_, by rw [List.length_append, List.length_append, er.len]; rfl, fun q hq => ?_, er.tb⟩, Same.refl _, fun a o h n => ⟨fun _ => h, fun ⟨i, x, h1, h2⟩ => ?_⟩, fun a o h => .inl h, fun a h => h⟩
  · rcases psh_get (v := v) er h with ⟨h1, h2⟩ | ⟨rfl, h1⟩
    · rw [h2]; exact er.val i x h1
    · cases h1
      exact ⟨v, by simp, r⟩
  · rcases psh_get (v := v) er h with ⟨h1, h2⟩ | ⟨_, h1⟩
    · rw [h2]; exact er.own i x h1
    · cases h1
  · rcases psh_get (v := v) er h1 with ⟨g1, g2⟩ | ⟨_, g1⟩
    · rcases psh_get (v := v) er h2 with ⟨g3, g4⟩ | ⟨_, g3⟩
      · rw [g2] at h3
        rw [g4] at h4
        exact er.inj i j p x y g1 g3 h3 h4
      · cases g3
    · cases g1
  · exact (er.pin q hq).slot (List.getElem?_append_left (List.getElem?_eq_some_iff.mp (er.pin q hq).1).1)
  · rcases psh_get (v := v) er h1 with ⟨g1, g2⟩ | ⟨_, g1⟩
    · rw [g2] at h2
      exact n ⟨i, x, g1, h2⟩
    · cases g1
end
end Sr
namespace Sr
variable [TabL]
open PySem hiding start
open PySem.Spec L2
open PyProof.Rows hiding St
def oexB (K : PySem.W.Frag) (C : Addr) : Bool := (match K.lookup C with
  | some ⟨.type "type", _, .cls cd, sl⟩ => (match cd.mro, sl.toList with
    | .ref C' :: bm, [_, _, _, _, some (.builtin n), _] => C' == C && n == "ValueError.__new__" && !cd.hasDel && cd.hasDict && PySem.HandSPX.refsVE bm
    | _, _ => false)
  | _ => false) && (decide (PySem.W.findIn K (.ref C) "__setattr__" = some (some (.builtin "object.__setattr__"))) && (decide (PySem.W.subIn K (.ref C) (.type "BaseException") = some true) && (decide (PySem.W.typeIn K (.ref C) = some (.type "type")) && PySem.W.keepIn K (.ref C))))
def xcB (K : PySem.W.Frag) (x : Str) (ns : List Str) : Bool := oexB K (He.ga K x) && (decide (PySem.W.findIn K (.ref (He.ga K x)) "__init__" = some (some (.ref (He.ma K (He.ga K x) "__init__")))) && (decide (PySem.W.typeIn K (.ref (He.ma K (He.ga K x) "__init__")) = some (.type "function")) && (xfB K (He.ga K x) && ns.all fun f => decide (PySem.W.findIn K (.ref (He.ga K x)) f = some none))))
end Sr
namespace Sr
variable [TabL]
open PySem hiding start
open PySem.Spec L2
open PyProof.Rows hiding St
section
variable {P : Program} {w : World} {H : Hp} {h : Heap} {a b : Addr}
def LnOk (H : Hp) (xs : List (NKy × Addr × V)) : Prop := ∀ x ∈ xs, PkAt H x.1 x.2.1
def valX (xs : List (NKy × Addr × V)) (k : NKy) : Option V := (xs.find? fun kv => decide (kv.1 = k)).map (·.2.2)
end
section
variable {K : PySem.W.Frag} {mg : Str → Option Value} {F : Hp}
theorem RpN.val {k : NKy} : ∀ {ds : List (NKy × D)} {xs : List (NKy × Addr × V)}, RpN K mg F ds xs → opR K mg F (valD ds k) (valX xs k)
  | [], xs, h => by unfold RpN at h; subst h; exact trivial
  | (q, d) :: ds, xs, h => by
    unfold RpN at h
    obtain ⟨b, v, r, rfl, _, hv, h⟩ := h
    have ih := RpN.val (k := k) h
    unfold valD valX at ih ⊢
    rw [List.find?_cons, List.find?_cons]
    by_cases hq : q = k
    · simp only [hq, decide_true]; exact hv
    · simp only [hq, decide_false]; exact ih
theorem RpN.any {k : NKy} : ∀ {ds : List (NKy × D)} {xs : List (NKy × Addr × V)}, RpN K mg F ds xs → (ds.any fun kv => decide (kv.1 = k)) = (xs.any fun kv => decide (kv.1 = k))
  | [], xs, h => by unfold RpN at h; subst h; rfl
  | (q, d) :: ds, xs, h => by
    unfold RpN at h
    obtain ⟨b, v, r, rfl, _, _, h⟩ := h
    rw [List.any_cons, List.any_cons, RpN.any h]
theorem RpN.map {k : NKy} {d : D} {v : V} (hv : Rp K mg F d v) : ∀ {ds : List (NKy × D)} {xs : List (NKy × Addr × V)}, RpN K mg F ds xs → RpN K mg F (ds.map fun kv => if kv.1 = k then (kv.1, d) else kv) (xs.map fun x => if x.1 = k then (x.1, x.2.1, v) else x)
  | [], xs, h => by unfold RpN at h; subst h; unfold RpN; rfl
  | (q, x) :: ds, xs, h => by
    unfold RpN at h
    obtain ⟨b, w, r, rfl, hb, hw, h⟩ := h
    rw [List.map_cons, List.map_cons]
    by_cases hq : q = k
    · simp only [hq, if_true]
      unfold RpN
      exact ⟨b, v, _, rfl, hq ▸ hb, hv, RpN.map hv h⟩
    · simp only [hq, if_false]
      unfold RpN
      exact ⟨b, w, _, rfl, hb, hw, RpN.map hv h⟩
theorem RpN.snoc {k : NKy} {d : D} {b : Addr} {v : V} (hb : PkAt F k b) (hv : Rp K mg F d v) : ∀ {ds : List (NKy × D)} {xs : List (NKy × Addr × V)}, RpN K mg F ds xs → RpN K mg F (ds ++ [(k, d)]) (xs ++ [(k, b, v)])
  | [], xs, h => by unfold RpN at h; subst h; unfold RpN; exact ⟨b, v, [], rfl, hb, hv, by unfold RpN; rfl⟩
  | (q, x) :: ds, xs, h => by
    unfold RpN at h
    obtain ⟨c, w, r, rfl, hc, hw, h⟩ := h
    rw [List.cons_append, List.cons_append]
    unfold RpN
    exact ⟨c, w, _, rfl, hc, hw, RpN.snoc hb hv h⟩
theorem RpN.len : ∀ {ds : List (NKy × D)} {xs : List (NKy × Addr × V)}, RpN K mg F ds xs → ds.length = xs.length
  | [], xs, h => by unfold RpN at h; subst h; rfl
  | (k, d) :: ds, xs, h => by unfold RpN at h; obtain ⟨b, v, vs, rfl, _, _, q⟩ := h; rw [List.length_cons, List.length_cons, q.len]
theorem RpN.ok {H : Hp} (s : Same F H) : ∀ {ds : List (NKy × D)} {xs : List (NKy × Addr × V)}, RpN K mg F ds xs → LnOk H xs
  | [], xs, h => by unfold RpN at h; subst h; exact fun x hx => nomatch hx
  | (k, d) :: ds, xs, h => by
    unfold RpN at h
    obtain ⟨b, v, vs, rfl, hb, _, q⟩ := h
    intro x hx
    rcases List.mem_cons.mp hx with rfl | hx
    · exact pkAt_mono s hb
    · exact RpN.ok s q x hx
end
end Sr
namespace Sr
variable [TabL]
open PySem hiding start
open PySem.Spec L2
open PyProof.Rows hiding St
def kdX : List Kd := [.non, .bool, .int, .str, .bytes, .list, .tuple, .dict]
def numXB (K : PySem.W.Frag) (c : Str) : Bool :=
  PySem.W.selfFirst K (He.ga K c) && kdX.all fun n => decide (PySem.W.subIn K (.type n.nm) (.ref (He.ga K c)) = some false) && decide (PySem.W.subIn K (.ref (He.ga K c)) (.type n.nm) = some false)
end Sr
namespace Tb
abbrev Row := Bool × Nat × Nat
abbrev Tab := List Row
def row (t : Tab) (i : Nat) : Row := t.getD i (false, 0, 0)
def nx (t : Tab) (i : Nat) (b : Bool) : Nat := if b then (row t i).2.1 else (row t i).2.2
def run (t : Tab) (i : Nat) : List Bool → Nat
  | [] => i
  | b :: w => run t (nx t i b) w
def Ok (t : Tab) : Prop := ∀ r ∈ t, r.2.1 < t.length ∧ r.2.2 < t.length
def addN {A : Type} [DecidableEq A] (l : List A) (x : A) : List A := if x ∈ l then l else l ++ [x]
section
variable {t : Tab} {i s : Nat}
theorem row_eq (h : i < t.length) : row t i = t[i] := by unfold row; simp [List.getD_eq_getElem?_getD, h]
theorem row_mem (h : i < t.length) : row t i ∈ t := by rw [row_eq h]; exact List.getElem_mem h
theorem nx_lt (ok : Ok t) (h : i < t.length) (b : Bool) : nx t i b < t.length := by
  have := ok _ (row_mem h)
  unfold nx
  cases b
  · exact this.2
  · exact this.1
end
section
variable {A : Type} [DecidableEq A]
theorem mem_addN {l : List A} {x y : A} : y ∈ addN l x ↔ y ∈ l ∨ y = x := by
  unfold addN
  split
  · rename_i h
    exact ⟨.inl, fun z => z.elim id fun e => by rw [e]; exact h⟩
  · simp
theorem nodup_addN {l : List A} {x : A} (h : l.Nodup) : (addN l x).Nodup := by
  unfold addN
  split
  · exact h
  · rename_i hx
    rw [List.nodup_append]
    exact ⟨h, by simp, fun a ha b hb => by simp at hb; subst hb; intro e; subst e; exact hx ha⟩
theorem addN_pre {l : List A} {x : A} : ∃ r, addN l x = l ++ r := by
  unfold addN
  split
  · exact ⟨[], by simp⟩
  · exact ⟨[x], rfl⟩
theorem fold_pre : ∀ (ks : List A) (l : List A), ∃ r, ks.foldl addN l = l ++ r
  | [], l => ⟨[], by simp⟩
  | k :: ks, l => by
    obtain ⟨r1, h1⟩ := addN_pre (l := l) (x := k)
    obtain ⟨r2, h2⟩ := fold_pre ks (addN l k)
    exact ⟨r1 ++ r2, by rw [List.foldl_cons, h2, h1, List.append_assoc]⟩
theorem mem_fold : ∀ (ks : List A) (l : List A) {y : A}, y ∈ ks.foldl addN l ↔ y ∈ l ∨ y ∈ ks
  | [], l, y => by simp
  | k :: ks, l, y => by rw [List.foldl_cons, mem_fold ks, mem_addN, List.mem_cons, or_assoc]
theorem nodup_fold : ∀ (ks : List A) {l : List A}, l.Nodup → (ks.foldl addN l).Nodup
  | [], l, h => h
  | k :: ks, l, h => nodup_fold ks (nodup_addN h)
def ded (ks : List A) : List A := ks.foldl addN []
end
def iter {A : Type} (f : A → Option A) : Nat → A → A
  | 0, a => a
  | n + 1, a => match f a with
    | none => a
    | some b => iter f n b
section
variable {A : Type} {f : A → Option A}
theorem iter_inv (I : A → Prop) (h : ∀ a b, I a → f a = some b → I b) : ∀ (n : Nat) {a : A}, I a → I (iter f n a)
  | 0, a, ha => ha
  | n + 1, a, ha => by
    unfold iter
    cases q : f a with
    | none => exact ha
    | some b => exact iter_inv I h n (h a b ha q)
theorem iter_done (I : A → Prop) (μ : A → Nat) (h : ∀ a b, I a → f a = some b → I b ∧ μ b < μ a) : ∀ (n : Nat) {a : A}, I a → μ a ≤ n → f (iter f n a) = none
  | 0, a, ha, hm => by
    unfold iter
    cases q : f a with
    | none => rfl
    | some b => have := (h a b ha q).2; omega
  | n + 1, a, ha, hm => by
    unfold iter
    cases q : f a with
    | none => exact q
    | some b =>
      obtain ⟨h1, h2⟩ := h a b ha q
      exact iter_done I μ h n h1 (by omega)
end
theorem pigeon : ∀ (n : Nat) (l : List Nat), l.Nodup → (∀ x ∈ l, x < n) → l.length ≤ n
  | 0, l, _, h => by
    cases l with
    | nil => simp
    | cons x l => have := h x (by simp); omega
  | n + 1, l, hd, h => by
    by_cases hn : n ∈ l
    · have h1 : (l.erase n).length = l.length - 1 := List.length_erase_of_mem hn
      have h2 : (l.erase n).length ≤ n := pigeon n _ (hd.erase n) fun x hx => by
        have h3 := (List.Nodup.mem_erase_iff hd).mp hx
        have := h x h3.2
        have := h3.1
        omega
      omega
    · have := pigeon n l hd fun x hx => by
        have := h x hx
        have : x ≠ n := fun e => hn (e ▸ hx)
        omega
      omega
def f0 (t : Tab) : List Nat := t.map fun r => if r.1 then 1 else 0
abbrev K3 := Nat × Nat × Nat
def keys (t : Tab) (f : List Nat) : List K3 := t.zipIdx.map fun q => (f.getD q.2 0, f.getD q.1.2.1 0, f.getD q.1.2.2 0)
def renum (ks : List K3) : List Nat := ks.map fun k => (ded ks).idxOf k
def dist (f : List Nat) : Nat := (ded f).length
abbrev CS := List Nat × Nat
def cStep (t : Tab) : CS → Option CS := fun q => if q.2 < dist q.1 then some (renum (keys t q.1), dist q.1) else none
def cls (t : Tab) : List Nat := (iter (cStep t) t.length (f0 t, 0)).1
def Alike (t : Tab) (i j : Nat) : Prop := ∀ w, (row t (run t i w)).1 = (row t (run t j w)).1
theorem Alike.nx {t : Tab} {i j : Nat} (h : Alike t i j) (b : Bool) : Alike t (Tb.nx t i b) (Tb.nx t j b) := fun w => h (b :: w)
end Tb
namespace Tb
def cl (t : Tab) (x : Nat) : Nat := (cls t).getD x 0
end Tb
namespace Tb
open Classical in
noncomputable instance langDec : DecidableEq (List Bool → Bool) := fun a b => Classical.propDecidable (a = b)
end Tb
namespace Tb
section
variable {rise fall : Nat}
abbrev SS := Bool × Nat
def sStep (rise fall : Nat) (q : SS) (b : Bool) : SS :=
  let c := if b = !q.1 then q.2 + 1 else 0
  if c = (if q.1 then fall else rise) then (!q.1, 0) else (q.1, c)
end
end Tb
namespace Tb
abbrev PW := List Bool × Nat × Nat
def bad (ab : Bool) (a b : Tab) (i j : Nat) : Bool := ((row a i).1 != (row b j).1) && ((row a i).1 || !ab)
abbrev KL := List (Nat × Nat) × List PW
def exp1 (a b : Tab) (p : PW) (c : Bool) (q : KL) : KL := if (nx a p.2.1 c, nx b p.2.2 c) ∈ q.1 then q else (q.1 ++ [(nx a p.2.1 c, nx b p.2.2 c)], q.2 ++ [(p.1 ++ [c], nx a p.2.1 c, nx b p.2.2 c)])
def exp2 (a b : Tab) (p : PW) (q : KL) : KL := exp1 a b p false (exp1 a b p true q)
def lev (ab : Bool) (a b : Tab) : List PW → KL → Sum (List Bool) KL
  | [], q => .inr q
  | p :: l, q => if bad ab a b p.2.1 p.2.2 then .inl p.1 else lev ab a b l (exp2 a b p q)
end Tb
namespace Tb
def sl (r f : Nat) (u : Bool) (w : List Bool) : Bool := (w.foldl (sStep r f) (u, 0)).1
end Tb
namespace Tb
def codeR : List Bool → Nat
  | [] => 1
  | c :: w => 2 * codeR w + (if c then 0 else 1)
def code (w : List Bool) : Nat := codeR w.reverse
end Tb
namespace Hi
def fpL (s c : List Bool) : List Bool := List.zipWith (fun s c => !s && c) s c
def ffL (s c : List Bool) : List Bool := List.zipWith (fun s c => s && !c) s c
def letB (a b : Nat) (p f : List Bool) : Bool := decide (p.countP id ≤ a) && decide (f.countP id ≤ b)
def wnd (l : List Bool) (i n : Nat) : List Bool := (l.drop i).take n
def okW (a b n : Nat) (s c : List Bool) : Bool := (List.range c.length).all fun i => letB a b (wnd (fpL s c) i n) (wnd (ffL s c) i n)
def starts (s : List Bool) : List Nat := (List.range' 1 (s.length - 1)).filter fun i => s.getD i false != s.getD (i - 1) false
def okS (k : Nat) (s : List Bool) : Bool := (List.range' 1 ((starts s).length - 1)).all fun j => !decide ((((starts s).getD j 0 : Nat) : Int) - (((starts s).getD (j - 1) 0 : Nat) : Int) < (k : Int))
def alw (a b n k : Nat) (s c : List Bool) : Bool := okW a b n s c && okS k s
def per (p n size : Nat) : List Bool := (List.range size).map fun i => decide (i % n < p)
end Hi
namespace Hi
def rep (n : Nat) (u : Bool) : List Bool := List.replicate n u
def cl (a b n u d : Nat) : Option (List Bool × List Bool × List Bool) :=
  if n ≤ a + b then some (per (min a n) n (max u d), rep (max u d) true, rep (max u d) false)
  else if a + b < min u d then none
  else if u ≤ d then some (rep (d - u) false ++ rep (min u a) true ++ rep (u - min u a) false, rep (d - u) false ++ rep u true, rep d false)
  else some (rep (u - d) true ++ rep (min d b) false ++ rep (d - min d b) true, rep u true, rep (u - d) true ++ rep d false)
end Hi
namespace Hi
def gaps (k : Nat) (l : List Nat) : Bool := (List.range' 1 (l.length - 1)).all fun j => !decide (((l.getD j 0 : Nat) : Int) - ((l.getD (j - 1) 0 : Nat) : Int) < (k : Int))
structure Gr (a b n k : Nat) (s c : List Bool) (age : Nat) (cur : Bool) : Prop where
  len : s.length = c.length
  w : okW a b n s c = true
  st : gaps k (starts s) = true
  last : s ≠ [] → s.getLastD false = cur
  age : starts s = [] ∨ (starts s).getLastD 0 + age = s.length
theorem Gr.alw {a b n k : Nat} {s c : List Bool} {age : Nat} {cur : Bool} (h : Gr a b n k s c age cur) : alw a b n k s c = true := by
  unfold Hi.alw
  rw [h.w, Bool.true_and]
  exact h.st
theorem Gr.nil {a b n k age : Nat} {cur : Bool} : Gr a b n k [] [] age cur := ⟨rfl, rfl, rfl, fun h => absurd rfl h, .inl rfl⟩
end Hi
namespace Hi
structure Sit where
  row : Nat
  st : Bool
  age : Nat
  fl : List Nat
deriving DecidableEq
def fcd (s c : Bool) : Nat := if s == c then 46 else if c then 112 else 102
def lets (a b : Nat) (l : List Nat) : Bool := letB a b (l.map (· == 112)) (l.map (· == 102))
def step1 (a b k : Nat) (x : Sit) (row : Nat) (s c : Bool) : Option Sit :=
  if lets a b (x.fl ++ [fcd s c]) && (s == x.st || x.age == k) then some ⟨row, s, if s == x.st then x.age + (if x.age < k then 1 else 0) else 1, (x.fl ++ [fcd s c]).tail⟩ else none
def steps (a b k : Nat) (x : Sit) (p f : Nat) : List (Bool × Bool × Sit) :=
  [(false, true), (false, false), (true, true), (true, false)].filterMap fun q => (step1 a b k x (if q.2 then p else f) q.1 q.2).map fun y => (q.1, q.2, y)
structure SitOk (a b n k rows : Nat) (x : Sit) : Prop where
  row : x.row < rows
  age : 1 ≤ x.age ∧ x.age ≤ k
  len : x.fl.length + 1 = n
  fl : ∀ c ∈ x.fl, c = 46 ∨ c = 112 ∨ c = 102
  lt : lets a b x.fl = true
theorem lets_tail {a b : Nat} {l : List Nat} (h : lets a b l = true) : lets a b l.tail = true := by
  unfold lets letB at h ⊢
  rw [Bool.and_eq_true, decide_eq_true_eq, decide_eq_true_eq] at h ⊢
  have h1 : (l.tail.map (· == 112)).countP id ≤ (l.map (· == 112)).countP id := ((List.tail_sublist l).map _).countP_le
  have h2 : (l.tail.map (· == 102)).countP id ≤ (l.map (· == 102)).countP id := ((List.tail_sublist l).map _).countP_le
  omega
theorem fcd_ok (s c : Bool) : fcd s c = 46 ∨ fcd s c = 112 ∨ fcd s c = 102 := by cases s <;> cases c <;> decide
theorem step1_ok {a b n k rows : Nat} {x y : Sit} {row : Nat} {s c : Bool} (h : SitOk a b n k rows x) (hr : row < rows) (e : step1 a b k x row s c = some y) : SitOk a b n k rows y := by
  unfold step1 at e
  split at e
  · rename_i q
    cases e
    rw [Bool.and_eq_true] at q
    have hk := h.age
    refine ⟨hr, ?_, ?_, fun z hz => ?_, lets_tail q.1⟩
    · dsimp only
      split
      · split <;> omega
      · omega
    · show (x.fl ++ [fcd s c]).tail.length + 1 = n
      rw [List.length_tail, List.length_append, List.length_singleton]
      have := h.len
      omega
    · have hz := List.mem_of_mem_tail hz
      rw [List.mem_append, List.mem_singleton] at hz
      rcases hz with hz | rfl
      · exact h.fl z hz
      · exact fcd_ok s c
  · cases e
theorem steps_ok {a b n k rows : Nat} {x : Sit} {p f : Nat} (h : SitOk a b n k rows x) (hp : p < rows) (hf : f < rows) : ∀ y ∈ steps a b k x p f, SitOk a b n k rows y.2.2 := by
  intro y hy
  unfold steps at hy
  rw [List.mem_filterMap] at hy
  obtain ⟨q, _, e⟩ := hy
  rw [Option.map_eq_some_iff] at e
  obtain ⟨z, e, rfl⟩ := e
  exact step1_ok h (by split <;> assumption) e
def begS (n k : Nat) (s : Bool) : Sit := ⟨0, s, k, List.replicate (n - 1) 46⟩
theorem begS_ok {a b n k rows : Nat} (hn : 1 ≤ n) (hk : 1 ≤ k) (hr : 1 ≤ rows) (s : Bool) : SitOk a b n k rows (begS n k s) := by
  refine ⟨hr, ⟨hk, Nat.le_refl _⟩, by unfold begS; simp; omega, fun c hc => ?_, ?_⟩
  · unfold begS at hc
    exact .inl (List.eq_of_mem_replicate hc)
  · unfold lets letB begS
    simp [List.countP_replicate]
end Hi
namespace Hi
def once (l : List Sit) : List Sit := l.foldl (fun acc y => if y ∈ acc then acc else acc ++ [y]) []
def nexts (a b k : Nat) (x : Sit) (c first : Bool) : List (Bool × Sit) := ((steps a b k x 0 0).filter fun q => q.2.1 == c && (q.1 == x.st || !first)).map fun q => (q.1, q.2.2)
def level (a b k : Nat) (l : List Sit) (c first : Bool) : List Sit := once (l.flatMap fun x => (nexts a b k x c first).map (·.2))
def levs (a b n k : Nat) : List Bool → List Sit
  | [] => [begS n k false, begS n k true]
  | c :: cs => level a b k (levs a b n k cs) c (cs.isEmpty)
end Hi
namespace Hi
theorem nodup_len {A : Type} [DecidableEq A] : ∀ (l m : List A), l.Nodup → (∀ x ∈ l, x ∈ m) → l.length ≤ m.length
  | [], m, _, _ => Nat.zero_le _
  | x :: l, m, hn, hs => by
    rw [List.nodup_cons] at hn
    have hx : x ∈ m := hs x (by simp)
    have h := nodup_len l (m.erase x) hn.2 fun y hy => (List.mem_erase_of_ne (fun z => hn.1 (by rw [← z]; exact hy))).2 (hs y (by simp [hy]))
    have h2 := List.length_erase_of_mem hx
    have h3 := List.length_pos_of_mem hx
    rw [List.length_cons]
    omega
def allFl : Nat → List (List Nat)
  | 0 => [[]]
  | m + 1 => (allFl m).flatMap fun l => [46 :: l, 112 :: l, 102 :: l]
def allS (n k : Nat) : List Sit := [false, true].flatMap fun s => (List.range (k + 1)).flatMap fun g => (allFl (n - 1)).map fun f => ⟨0, s, g, f⟩
theorem allFl_mem : ∀ (l : List Nat), (∀ c ∈ l, c = 46 ∨ c = 112 ∨ c = 102) → l ∈ allFl l.length
  | [], _ => by simp [allFl]
  | c :: l, h => by
    rw [List.length_cons]
    unfold allFl
    rw [List.mem_flatMap]
    refine ⟨l, allFl_mem l fun x hx => h x (by simp [hx]), ?_⟩
    rcases h c (by simp) with rfl | rfl | rfl <;> simp
theorem allS_mem {a b n k : Nat} {x : Sit} (h : SitOk a b n k 1 x) : x ∈ allS n k := by
  have hr := h.row
  have ha := h.age
  have hl := h.len
  have hf := allFl_mem x.fl h.fl
  obtain ⟨r, s, g, f⟩ := x
  dsimp only at *
  have hr0 : r = 0 := by omega
  subst hr0
  unfold allS
  rw [List.mem_flatMap]
  refine ⟨s, by cases s <;> simp, ?_⟩
  rw [List.mem_flatMap]
  refine ⟨g, List.mem_range.2 (by omega), ?_⟩
  rw [List.mem_map]
  refine ⟨f, ?_, rfl⟩
  have e : n - 1 = f.length := by omega
  rw [e]
  exact hf
theorem allS_len (n k : Nat) (hn : n ≤ 5) (hk : k ≤ 4) : (allS n k).length ≤ 1000 := by
  have H : ∀ n : Fin 6, ∀ k : Fin 5, (allS n.val k.val).length ≤ 1000 := by decide +kernel
  exact H ⟨n, by omega⟩ ⟨k, by omega⟩
end Hi
namespace Hi
def kept (a b n k : Nat) : List Bool → List Bool → List Sit
  | P, [] => levs a b n k P
  | P, c :: q => (levs a b n k P).filter fun x => (nexts a b k x c P.isEmpty).any fun y => decide (y.2 ∈ kept a b n k (c :: P) q)
end Hi
namespace Bf
open Tb
section
variable {A : Type} [DecidableEq A] (g : A → List A)
def bStep : List A × Nat → Option (List A × Nat) := fun q => match q.1[q.2]? with
  | some x => some ((g x).foldl addN q.1, q.2 + 1)
  | none => none
def bfs (N : Nat) (s : List A) : List A := (iter (bStep g) N (s, 0)).1
structure BI (s : List A) (q : List A × Nat) : Prop where
  nd : q.1.Nodup
  pre : ∃ r, q.1 = s ++ r
  le : q.2 ≤ q.1.length
  cl : ∀ i x, i < q.2 → q.1[i]? = some x → ∀ y ∈ g x, y ∈ q.1
  snd : ∀ P : A → Prop, (∀ x ∈ s, P x) → (∀ x, P x → ∀ y ∈ g x, P y) → ∀ x ∈ q.1, P x
variable {g}
theorem bi_start {s : List A} (hs : s.Nodup) : BI g s (s, 0) := ⟨hs, ⟨[], by simp⟩, Nat.zero_le _, fun i x h => by omega, fun P h _ => h⟩
theorem bi_step {s : List A} {q q' : List A × Nat} (I : BI g s q) (h : bStep g q = some q') : BI g s q' ∧ q.2 < q.1.length ∧ q'.2 = q.2 + 1 := by
  obtain ⟨l, at'⟩ := q
  unfold bStep at h
  dsimp only at h
  cases q : l[at']? with
  | none => rw [q] at h; cases h
  | some x =>
    rw [q] at h
    cases h
    have hlt : at' < l.length := (List.getElem?_eq_some_iff.1 q).1
    obtain ⟨r, hr⟩ := fold_pre (g x) l
    obtain ⟨r0, hr0⟩ := I.pre
    dsimp only at hr0
    refine ⟨⟨nodup_fold _ I.nd, ⟨r0 ++ r, by show (g x).foldl addN l = _; rw [hr, hr0, List.append_assoc]⟩, ?_, ?_, ?_⟩, hlt, rfl⟩
    · show at' + 1 ≤ ((g x).foldl addN l).length
      rw [hr, List.length_append]; omega
    · intro i y hi hy z hz
      show z ∈ (g x).foldl addN l
      rw [mem_fold]
      replace hy : ((g x).foldl addN l)[i]? = some y := hy
      replace hi : i < at' + 1 := hi
      rw [hr, List.getElem?_append_left (by omega)] at hy
      by_cases e : i = at'
      · rw [e, q] at hy
        cases hy
        exact .inr hz
      · exact .inl (I.cl i y (by show i < at'; omega) hy z hz)
    · intro P h1 h2 y hy
      have hy : y ∈ (g x).foldl addN l := hy
      rw [mem_fold] at hy
      rcases hy with hy | hy
      · exact I.snd P h1 h2 y hy
      · exact h2 x (I.snd P h1 h2 x (List.mem_of_getElem? q)) y hy
structure BSpec (g : A → List A) (s l : List A) : Prop where
  nd : l.Nodup
  pre : ∃ r, l = s ++ r
  cl : ∀ x ∈ l, ∀ y ∈ g x, y ∈ l
  snd : ∀ P : A → Prop, (∀ x ∈ s, P x) → (∀ x, P x → ∀ y ∈ g x, P y) → ∀ x ∈ l, P x
theorem bfs_bi {s : List A} (hs : s.Nodup) (N : Nat) : BI g s (iter (bStep g) N (s, 0)) := iter_inv (BI g s) (fun a b I h => (bi_step I h).1) N (bi_start hs)
theorem bfs_done {s : List A} (hs : s.Nodup) {N : Nat} {P : A → Prop} (hP : ∀ l : List A, l.Nodup → (∀ x ∈ l, P x) → l.length ≤ N) (h1 : ∀ x ∈ s, P x) (h2 : ∀ x, P x → ∀ y ∈ g x, P y) : bStep g (iter (bStep g) N (s, 0)) = none := by
  refine iter_done (BI g s) (fun q => N - q.2) (fun a b I h => ?_) N (bi_start hs) (by show N - 0 ≤ N; omega)
  obtain ⟨I', hl, e⟩ := bi_step I h
  refine ⟨I', ?_⟩
  have hle : a.1.length ≤ N := hP a.1 I.nd (I.snd P h1 h2)
  show N - b.2 < N - a.2
  omega
theorem bfs_spec {s : List A} (hs : s.Nodup) {N : Nat} {P : A → Prop} (hP : ∀ l : List A, l.Nodup → (∀ x ∈ l, P x) → l.length ≤ N) (h1 : ∀ x ∈ s, P x) (h2 : ∀ x, P x → ∀ y ∈ g x, P y) : BSpec g s (bfs g N s) := by
  have I := bfs_bi (g := g) hs N
  have hd := bfs_done (g := g) hs hP h1 h2
  refine ⟨I.nd, I.pre, fun x hx y hy => ?_, I.snd⟩
  unfold bfs at hx ⊢
  generalize iter (bStep g) N (s, 0) = Z at *
  unfold bStep at hd
  cases q : Z.1[Z.2]? with
  | some z => rw [q] at hd; cases hd
  | none =>
    rw [List.getElem?_eq_none_iff] at q
    obtain ⟨i, hi, e⟩ := List.getElem_of_mem hx
    have hi2 : i < Z.2 := Nat.lt_of_lt_of_le hi q
    exact I.cl i x hi2 (by
      rw [List.getElem?_eq_some_iff]
      exact ⟨hi, e⟩) y hy
end
end Bf
namespace Ly
open Hi Tb
abbrev Stp := Sit → List (Bool × Bool × Sit)
def stp (t : Tab) (a b k : Nat) : Stp := fun x => steps a b k x (row t x.row).2.1 (row t x.row).2.2
def succ (g : Stp) (x : Sit) : List Sit := (g x).map (·.2.2)
def begs (n k : Nat) : List Sit := [begS n k false, begS n k true]
structure So (so : List Sit → List Sit) : Prop where
  perm : ∀ l, (so l).Perm l
  can : ∀ l m, l.Perm m → so l = so m
theorem So.mem {so : List Sit → List Sit} (S : So so) {l : List Sit} {x : Sit} : x ∈ so l ↔ x ∈ l := (S.perm l).mem_iff
theorem So.idem {so : List Sit → List Sit} (S : So so) (l : List Sit) : so (so l) = so l := S.can _ _ (S.perm l)
theorem So.nodup {so : List Sit → List Sit} (S : So so) {l : List Sit} : (so l).Nodup ↔ l.Nodup := (S.perm l).nodup_iff
theorem So.len {so : List Sit → List Sit} (S : So so) (l : List Sit) : (so l).length = l.length := (S.perm l).length_eq
def nexL (so : List Sit → List Sit) (g : Stp) (s : Bool) (l : List Sit) : List Sit := so (ded (l.flatMap fun x => ((g x).filter fun q => q.1 == s).map (·.2.2)))
def layer (so : List Sit → List Sit) (g : Stp) (s : Bool) (l0 : List Sit) : Nat → List Sit
  | 0 => l0
  | i + 1 => nexL so g s (layer so g s l0 i)
def right (t : Tab) (s : Bool) (l : List Sit) : Bool := l.all fun x => (row t x.row).1 == s
structure First (so : List Sit → List Sit) (g : Stp) (l0 : List Sit) : Prop where
  nd : l0.Nodup
  so : so l0 = l0
  cl : ∀ x ∈ l0, ∀ y ∈ succ g x, y ∈ l0
section
variable {so : List Sit → List Sit} {g : Stp} {s : Bool} {l0 : List Sit}
variable {t : Tab}
def bnd (so : List Sit → List Sit) (g : Stp) (s : Bool) (l0 : List Sit) (t : Tab) : Option Nat := (List.range (l0.length + 1)).find? fun i => right t s (layer so g s l0 i)
end
def allR (n k rows : Nat) : List Sit := (List.range rows).flatMap fun r => (allS n k).map fun x => { x with row := r }
theorem allR_len {n k : Nat} (hn : n ≤ 5) (hk : k ≤ 4) (rows : Nat) : (allR n k rows).length ≤ 1000 * rows := by
  unfold allR
  rw [List.length_flatMap]
  have h := allS_len n k hn hk
  induction rows with
  | zero => simp
  | succ r ih =>
    rw [List.range_succ, List.map_append, List.sum_append, List.map_singleton, List.length_map, List.sum_singleton]
    omega
theorem allR_mem {a b n k rows : Nat} {x : Sit} (h : SitOk a b n k rows x) : x ∈ allR n k rows := by
  unfold allR
  rw [List.mem_flatMap]
  refine ⟨x.row, List.mem_range.2 h.row, List.mem_map.2 ⟨{ x with row := 0 }, allS_mem (a := a) (b := b) ⟨by show (0:Nat) < 1; omega, h.age, h.len, h.fl, h.lt⟩, rfl⟩⟩
theorem sits_lenR {a b n k rows : Nat} (hn : n ≤ 5) (hk : k ≤ 4) {l : List Sit} (h : l.Nodup) (ho : ∀ x ∈ l, SitOk a b n k rows x) : l.length ≤ 1000 * rows :=
  Nat.le_trans (nodup_len l _ h fun x hx => allR_mem (ho x hx)) (allR_len hn hk rows)
section
variable {t : Tab} (ok : Ok t) {a b n k : Nat}
include ok
theorem stp_ok {x : Sit} (h : SitOk a b n k t.length x) : ∀ y ∈ succ (stp t a b k) x, SitOk a b n k t.length y := by
  intro y hy
  unfold succ at hy
  rw [List.mem_map] at hy
  obtain ⟨q, hq, rfl⟩ := hy
  have hr := ok _ (row_mem h.row)
  exact steps_ok h hr.1 hr.2 q hq
theorem begs_ok (hn : 1 ≤ n) (hk : 1 ≤ k) (hr : 1 ≤ t.length) : ∀ x ∈ begs n k, SitOk a b n k t.length x := by
  intro x hx
  unfold begs at hx
  rw [List.mem_cons, List.mem_singleton] at hx
  rcases hx with rfl | rfl <;> exact begS_ok hn hk hr _
omit ok in
theorem begs_nodup : (begs n k).Nodup := by
  unfold begs begS
  simp
theorem all_spec (hn : 1 ≤ n) (hk : 1 ≤ k) (hr : 1 ≤ t.length) (hn5 : n ≤ 5) (hk4 : k ≤ 4) : Bf.BSpec (succ (stp t a b k)) (begs n k) (Bf.bfs (succ (stp t a b k)) (1000 * t.length) (begs n k)) := by
  exact Bf.bfs_spec begs_nodup (P := SitOk a b n k t.length) (fun l nd h => sits_lenR hn5 hk4 nd h) (begs_ok ok hn hk hr) (fun x h => stp_ok ok h)
end
def alls (t : Tab) (a b n k : Nat) : List Sit := Bf.bfs (succ (stp t a b k)) (1000 * t.length) (begs n k)
section
variable {t : Tab} (ok : Ok t) {a b n k : Nat} (hn : 1 ≤ n) (hk : 1 ≤ k) (hr : 1 ≤ t.length) (hn5 : n ≤ 5) (hk4 : k ≤ 4)
include ok hn hk hr hn5 hk4
theorem alls_spec : Bf.BSpec (succ (stp t a b k)) (begs n k) (alls t a b n k) := all_spec ok hn hk hr hn5 hk4
theorem first {so : List Sit → List Sit} (S : So so) : First so (stp t a b k) (so (alls t a b n k)) := by
  have sp := alls_spec (a := a) (b := b) ok hn hk hr hn5 hk4
  refine ⟨S.nodup.2 sp.nd, S.idem _, fun x hx y hy => ?_⟩
  rw [S.mem] at hx ⊢
  exact sp.cl x hx y hy
end
end Ly
namespace Ly
open Hi Tb
abbrev Wd := List (Bool × Bool)
def cOf (w : Wd) : List Bool := w.map (·.2)
section
variable {t : Tab} (ok : Ok t) {a b n k : Nat} (hn : 1 ≤ n) (hk : 1 ≤ k) (hr : 1 ≤ t.length) (hn5 : n ≤ 5) (hk4 : k ≤ 4)
include ok hn hk hr hn5 hk4
variable {so : List Sit → List Sit} (S : So so)
include S
def RtL (f : List Bool → Bool) (a b n k : Nat) (s : Bool) (i : Nat) : Prop := ∀ st ck : List Bool, alw a b n k (st ++ List.replicate i s) ck = true → ck.length = st.length + i → f ck = s
end
end Ly
namespace Ly
open Hi Tb
open Classical in
theorem RtL.mono {f : List Bool → Bool} {a b n k : Nat} {s : Bool} {i j : Nat} (h : i ≤ j) (r : RtL f a b n k s i) : RtL f a b n k s j := by
  intro st ck ha hl
  refine r (st ++ List.replicate (j - i) s) ck ?_ (by simp; omega)
  rw [List.append_assoc, List.replicate_append_replicate]
  have : j - i + i = j := by omega
  rw [this]
  exact ha
theorem RtL.imp {f g : List Bool → Bool} {a b n k : Nat} {s : Bool} (h : ∀ w, f w = s → g w = s) {i : Nat} (r : RtL f a b n k s i) : RtL g a b n k s i := fun st ck ha hl => h _ (r st ck ha hl)
end Ly
namespace Sh
section
variable {A Q : Type} [DecidableEq A] (st : List A) (g : A → List (Q × A)) (good : A → Bool)
inductive Pth : List Q → A → Prop
  | nil {x : A} : x ∈ st → Pth [] x
  | snoc {w : List Q} {x : A} {q : Q} {y : A} : Pth w x → (q, y) ∈ g x → Pth (w ++ [q]) y
abbrev Pt (A Q : Type) := List Q × A
variable {st g good}
def first (Q : Type) (st : List A) : List (Pt A Q) := st.map fun x => ([], x)
end
end Sh
namespace Sh
section
variable {A Q : Type} [DecidableEq A]
abbrev Qs (A : Type) := List (A × Nat) × List A
structure Ex (d : Nat) (ys : List A) (s s' : Qs A) : Prop where
  pre : ∃ r : List A, s'.1 = s.1 ++ r.map (fun y => (y, d)) ∧ s'.2 = s.2 ++ r ∧ ∀ y ∈ r, y ∈ ys
  all : ∀ y ∈ ys, y ∈ s'.2
  nd : s.2.Nodup → s'.2.Nodup
variable {st : List A} {g : A → List (Q × A)} {good : A → Bool}
end
end Sh
namespace Ly
open Hi Tb Sh
abbrev Back := List (Sit × Bool × Sit)
def addB (acc : Back) (p : Sit × Bool × Sit) : Back := if p.1 ∈ acc.map (·.1) then acc else acc ++ [p]
end Ly
namespace Hi
open List in
abbrev CL := List (Sit × Int)
def ws (g : Sit → Int) (l : CL) : Int := (l.map fun p => p.2 * g p.1).sum
end Hi
namespace Hi
def ud (b : Bool) : Nat := if b then 85 else 68
abbrev Fw := Nat × List Bool
def ltv (p q : Fw) : Bool := if p.1 = q.1 then decide (p.2.map ud < q.2.map ud) else decide (p.1 < q.1)
def lev (p q : Fw) : Prop := ltv q p = false
def minv (p q : Fw) : Fw := if ltv p q = true then p else q
abbrev BL := List (Sit × Fw)
def addB (l : BL) (r : Sit × Fw) : BL := if (l.any fun p => decide (p.1 = r.1)) = true then l.map fun p => if p.1 = r.1 then (p.1, minv r.2 p.2) else p else l ++ [r]
structure Rp4 (l : BL) (S : Sit × Fw → Prop) : Prop where
  nd4 : (l.map (·.1)).Nodup
  in4 : ∀ p ∈ l, S p
  le4 : ∀ z, S z → ∃ p ∈ l, p.1 = z.1 ∧ lev p.2 z.2
theorem Rp4.imp {l : BL} {S T : Sit × Fw → Prop} (h : Rp4 l S) (e : ∀ z, S z ↔ T z) : Rp4 l T := ⟨h.nd4, fun p hp => (e p).1 (h.in4 p hp), fun z hz => h.le4 z ((e z).2 hz)⟩
def dif (b c : Bool) : Nat := if (b == c) = true then 0 else 1
def ext (a b k : Nat) (p : Sit × Fw) (c f : Bool) : BL := (nexts a b k p.1 c f).map fun q => (q.2, (p.2.1 + dif q.1 c, p.2.2 ++ [q.1]))
def stepB (a b k : Nat) (l : BL) (c f : Bool) : BL := l.foldl (fun acc p => (ext a b k p c f).foldl addB acc) []
def er (s w : List Bool) : Nat := ((s.zip w).map fun p => dif p.1 p.2).sum
def lstep (o : Option Fw) (v : Fw) : Option Fw := match o with
  | none => some v
  | some u => some (minv v u)
def lst (l : List Fw) : Option Fw := l.foldl lstep none
end Hi
namespace Cy
variable {α : Type} [DecidableEq α]
structure Sw (α : Type) where
  w : α → Int
  p : α → Option (α × Int)
def look (s : Sw α) (e : α × α × Int) : Sw α :=
  if s.w e.1 + e.2.2 > s.w e.2.1 then ⟨fun z => if z = e.2.1 then s.w e.1 + e.2.2 else s.w z, fun z => if z = e.2.1 then some (e.1, e.2.2) else s.p z⟩ else s
end Cy
namespace Fp
variable {α L : Type} [DecidableEq α]
abbrev Kn (α : Type) := List ((α × Bool) × Nat)
def getK (kn : Kn α) (k : α × Bool) : Int := ((kn.find? fun q => decide (q.1 = k)).map fun q => ((q.2 : Nat) : Int)).getD (-1)
def amt (kn : Kn α) : Nat := (kn.map fun q => q.2 + 1).sum
structure Pth (α L : Type) where
  w : List L
  x : α
  f : Nat
def Pth.k (p : Pth α L) : α × Bool := (p.x, p.w.isEmpty)
structure Rs (num : Nat) (ps : List (Pth α L)) (kn : Kn α) (kept0 : List (Pth α L)) (kn' : Kn α) (kept : List (Pth α L)) : Prop where
  up : ∀ k, getK kn k ≤ getK kn' k
  dom : ∀ p ∈ ps, (p.f : Int) ≤ getK kn' p.k
  new : ∀ k, getK kn' k = getK kn k ∨ ∃ p ∈ kept, p.k = k ∧ getK kn' k = (p.f : Int)
  sub : ∀ p ∈ kept, p ∈ kept0 ∨ p ∈ ps
  old : ∀ p ∈ kept0, p ∈ kept
  few : ∀ p ∈ ps, p.f < num
  lt : (∀ k, getK kn k < (num : Int)) → ∀ k, getK kn' k < (num : Int)
  nd : (kn.map (·.1)).Nodup → (kn'.map (·.1)).Nodup
  ks : ∀ k ∈ kn'.map (·.1), k ∈ kn.map (·.1) ∨ ∃ p ∈ ps, p.k = k
  am : (kn.map (·.1)).Nodup → amt kn + kept.length ≤ amt kn' + kept0.length
end Fp
namespace Fp
variable {α L : Type} [DecidableEq α]
abbrev En3 (α : Type) := α × Nat × Nat
structure Qs (α : Type) where
  ln : List (En3 α)
  kn : List (α × Nat)
end Fp
namespace Tb
def chg (F : List Bool) (k : Nat) : Prop := 1 ≤ k ∧ k < F.length ∧ F.getD k false ≠ F.getD (k - 1) false
structure HInv (m : Nat) (F : List Bool) (l : Nat) : Prop where
  le : l ≤ m
  pos : 0 < F.length
  no : ∀ k, chg F k → k + (m - l) ≤ F.length - 1
  ex : 0 < l → ∃ k, chg F k ∧ k + (m - l) = F.length - 1
theorem HInv.kept {m l : Nat} {F : List Bool} (I : HInv m F l) : (∃ k, chg F k ∧ F.length ≤ k + m) ↔ 0 < l := by
  constructor
  · rintro ⟨k, h1, h2⟩
    have := I.no k h1
    have := I.pos
    have := I.le
    omega
  · intro h
    obtain ⟨k, h1, h2⟩ := I.ex h
    have := I.le
    have := I.pos
    exact ⟨k, h1, by omega⟩
end Tb
set_option maxHeartbeats 1000000
namespace Tel
open Tb
abbrev Pos := List (Nat × Nat)
section
variable (R : List Tab)
def tb (n : Nat) : Tab := R.getD n []
def st (x : Nat × Nat) : Bool := (row (tb R x.1) x.2).1
def ws (p : Pos) (b : Bool) : Pos := p.filter fun x => st R x == b
def nxp (p : Pos) (s : Bool) : Pos := p.map fun x => (x.1, nx (tb R x.1) x.2 s)
def bh (p : Pos) (s : Bool) : List Pos := [ws R (nxp R p s) true, ws R (nxp R p s) false]
def lv : Nat → Pos → Bool
  | 0, _ => false
  | j + 1, p => [true, false].any fun s => (bh R p s).all fun g => decide (g.length < 2) || lv j g
def okg (j : Nat) (g : Pos) : Bool := decide (g.length < 2) || lv R j g
def sd (j : Nat) (p : Pos) : Option Bool := [true, false].find? fun s => (bh R p s).all (okg R j)
structure Wf (p : Pos) : Prop where
  inc : p.Pairwise fun x y => x.1 < y.1
  num : ∀ x ∈ p, x.1 < R.length ∧ x.2 < (tb R x.1).length
def Oks : Prop := ∀ t ∈ R, Ok t ∧ 0 < t.length
end
section
variable {R : List Tab}
theorem Oks.at (h : Oks R) {n : Nat} (hn : n < R.length) : Ok (tb R n) ∧ 0 < (tb R n).length := by
  unfold tb
  rw [List.getD_eq_getElem?_getD, List.getElem?_eq_getElem hn]
  exact h _ (List.getElem_mem hn)
theorem lv_sd (j : Nat) (p : Pos) : lv R (j + 1) p = (sd R j p).isSome := by
  unfold lv sd
  simp only [List.any_cons, List.any_nil, Bool.or_false, List.find?_cons, List.find?_nil]
  show ((bh R p true).all (okg R j) || (bh R p false).all (okg R j)) = _
  cases (bh R p true).all (okg R j) <;> cases (bh R p false).all (okg R j) <;> rfl
theorem lv_iff (j : Nat) (p : Pos) : lv R (j + 1) p = true ↔ ∃ s, ∀ g ∈ bh R p s, okg R j g = true := by
  constructor
  · intro h
    unfold lv at h
    rw [List.any_eq_true] at h
    obtain ⟨s, _, h⟩ := h
    exact ⟨s, List.all_eq_true.1 h⟩
  · rintro ⟨s, h⟩
    unfold lv
    rw [List.any_eq_true]
    exact ⟨s, by cases s <;> simp, List.all_eq_true.2 h⟩
theorem lv_mono : ∀ (j : Nat) (p : Pos), lv R j p = true → lv R (j + 1) p = true
  | 0, p, h => by cases h
  | j + 1, p, h => by
    rw [lv_iff] at h ⊢
    obtain ⟨s, h⟩ := h
    refine ⟨s, fun g hg => ?_⟩
    have := h g hg
    unfold okg at this ⊢
    rw [Bool.or_eq_true] at this ⊢
    exact this.imp id (lv_mono j g)
theorem lv_le {i j : Nat} (h : i ≤ j) {p : Pos} (k : lv R i p = true) : lv R j p = true := by
  induction j with
  | zero => obtain rfl : i = 0 := by omega
            exact k
  | succ j ih =>
    rcases Nat.lt_or_ge i (j + 1) with q | q
    · exact lv_mono j p (ih (by omega))
    · obtain rfl : i = j + 1 := by omega
      exact k
theorem ws_sub {p : Pos} {b : Bool} {x : Nat × Nat} : x ∈ ws R p b ↔ x ∈ p ∧ st R x = b := by unfold ws; rw [List.mem_filter]; simp
theorem nxp_mem {p : Pos} {s : Bool} {y : Nat × Nat} : y ∈ nxp R p s ↔ ∃ x ∈ p, (x.1, nx (tb R x.1) x.2 s) = y := by unfold nxp; rw [List.mem_map]
theorem Wf.ws {p : Pos} (h : Wf R p) (b : Bool) : Wf R (ws R p b) := ⟨h.inc.sublist List.filter_sublist, fun x hx => h.num x (List.mem_filter.1 hx).1⟩
theorem Wf.nxp (ok : Oks R) {p : Pos} (h : Wf R p) (s : Bool) : Wf R (nxp R p s) := by
  refine ⟨?_, fun y hy => ?_⟩
  · unfold Tel.nxp
    rw [List.pairwise_map]
    exact h.inc
  · obtain ⟨x, hx, rfl⟩ := nxp_mem.1 hy
    exact ⟨(h.num x hx).1, nx_lt (ok.at (h.num x hx).1).1 (h.num x hx).2 s⟩
theorem Wf.bh (ok : Oks R) {p : Pos} (h : Wf R p) {s : Bool} {g : Pos} (hg : g ∈ bh R p s) : Wf R g := by
  unfold Tel.bh at hg
  simp only [List.mem_cons, List.not_mem_nil, or_false] at hg
  rcases hg with rfl | rfl
  · exact (h.nxp ok s).ws true
  · exact (h.nxp ok s).ws false
theorem Wf.nd {p : Pos} (h : Wf R p) : p.Nodup := h.inc.imp fun {a b} h => by rintro rfl; exact Nat.lt_irrefl _ h
end
section
variable (R : List Tab) (q : Pos → Bool)
def news (p : Pos) (s : Bool) (L : List Pos) : List Pos := ((bh R p s).filter q).foldl addN L
def stepB (a : List Pos × Nat) : Option (List Pos × Nat) :=
  if a.2 < a.1.length then some (news R q (a.1.getD a.2 []) false (news R q (a.1.getD a.2 []) true a.1), a.2 + 1) else none
end
section
variable {R : List Tab} {q : Pos → Bool}
structure BI (R : List Tab) (q : Pos → Bool) (S : List Pos) (a : List Pos × Nat) : Prop where
  nd : a.1.Nodup
  pre : ∃ r, a.1 = S ++ r
  wf : ∀ p ∈ a.1, Wf R p ∧ 2 ≤ p.length ∧ q p = true
  cl : ∀ i, i < a.2 → ∀ s, ∀ g ∈ bh R (a.1.getD i []) s, q g = true → g ∈ a.1
  le : a.2 ≤ a.1.length
theorem news_pre (p : Pos) (s : Bool) (L : List Pos) : ∃ r, news R q p s L = L ++ r := fold_pre _ _
theorem news_mem {p : Pos} {s : Bool} {L : List Pos} {g : Pos} : g ∈ news R q p s L ↔ g ∈ L ∨ (g ∈ bh R p s ∧ q g = true) := by
  unfold news; rw [mem_fold, List.mem_filter]
theorem getD_pre {L : List Pos} {r : List Pos} {i : Nat} (h : i < L.length) : (L ++ r).getD i [] = L.getD i [] := by
  simp only [List.getD_eq_getElem?_getD, List.getElem?_append_left h]
theorem bi_step (ok : Oks R) (hq : ∀ g, q g = true → 2 ≤ g.length) {S : List Pos} {a b : List Pos × Nat} (I : BI R q S a) (h : stepB R q a = some b) : BI R q S b ∧ a.2 < a.1.length ∧ b.2 = a.2 + 1 := by
  unfold stepB at h
  split at h
  · rename_i hl
    cases h
    refine ⟨?_, hl, rfl⟩
    have hp : a.1.getD a.2 [] ∈ a.1 := by
      rw [List.getD_eq_getElem?_getD, List.getElem?_eq_getElem hl]
      exact List.getElem_mem hl
    have hw := I.wf _ hp
    generalize hP : a.1.getD a.2 [] = P at hw hp
    obtain ⟨r1, e1⟩ := news_pre (R := R) (q := q) P true a.1
    obtain ⟨r2, e2⟩ := news_pre (R := R) (q := q) P false (news R q P true a.1)
    have e3 : news R q P false (news R q P true a.1) = a.1 ++ (r1 ++ r2) := by rw [e2, e1, List.append_assoc]
    refine ⟨nodup_fold _ (nodup_fold _ I.nd), ?_, ?_, ?_, ?_⟩
    · obtain ⟨r, e⟩ := I.pre
      exact ⟨r ++ (r1 ++ r2), by show news R q P false (news R q P true a.1) = _; rw [e3, e, List.append_assoc]⟩
    · intro p hp
      have hp : p ∈ news R q P false (news R q P true a.1) := hp
      rw [news_mem, news_mem] at hp
      rcases hp with (hp | ⟨hp, hq'⟩) | ⟨hp, hq'⟩
      · exact I.wf p hp
      · exact ⟨hw.1.bh ok hp, hq _ hq', hq'⟩
      · exact ⟨hw.1.bh ok hp, hq _ hq', hq'⟩
    · intro i hi s g hg hqg
      show g ∈ news R q P false (news R q P true a.1)
      have hi : i < a.2 + 1 := hi
      have hg : g ∈ bh R ((news R q P false (news R q P true a.1)).getD i []) s := hg
      rw [e3, getD_pre (by omega)] at hg
      rcases Nat.lt_or_ge i a.2 with h | h
      · rw [e3]; exact List.mem_append_left _ (I.cl i h s g hg hqg)
      · obtain rfl : i = a.2 := by omega
        rw [hP] at hg
        rw [news_mem, news_mem]
        cases s
        · exact .inr ⟨hg, hqg⟩
        · exact .inl (.inr ⟨hg, hqg⟩)
    · show a.2 + 1 ≤ (news R q P false (news R q P true a.1)).length
      rw [e3, List.length_append]; omega
  · cases h
def bfs (R : List Tab) (q : Pos → Bool) (S : List Pos) (n : Nat) : List Pos := (iter (stepB R q) n (S, 0)).1
theorem bi_start {S : List Pos} (nd : S.Nodup) (wf : ∀ p ∈ S, Wf R p ∧ 2 ≤ p.length ∧ q p = true) : BI R q S (S, 0) := ⟨nd, ⟨[], by simp⟩, wf, fun i h => by dsimp only at h; omega, Nat.zero_le _⟩
theorem bfs_done (ok : Oks R) (hq : ∀ g, q g = true → 2 ≤ g.length) {S : List Pos} {n : Nat} (nd : S.Nodup) (wf : ∀ p ∈ S, Wf R p ∧ 2 ≤ p.length ∧ q p = true) (hn : ∀ L : List Pos, L.Nodup → (∀ p ∈ L, Wf R p ∧ 2 ≤ p.length) → L.length ≤ n) :
    stepB R q (iter (stepB R q) n (S, 0)) = none ∧ BI R q S (iter (stepB R q) n (S, 0)) := by
  refine ⟨iter_done (BI R q S) (fun a => n - a.2) (fun a b I h => ?_) n (bi_start nd wf) (Nat.sub_le _ _), iter_inv (BI R q S) (fun a b I h => (bi_step ok hq I h).1) n (bi_start nd wf)⟩
  obtain ⟨h1, h2, h3⟩ := bi_step ok hq I h
  refine ⟨h1, ?_⟩
  have := hn a.1 I.nd fun p hp => ⟨(I.wf p hp).1, (I.wf p hp).2.1⟩
  show n - b.2 < n - a.2
  omega
end
section
variable (R : List Tab)
abbrev Fd := List (Pos × Nat × Bool)
def look (F : Fd) (p : Pos) : Option (Nat × Bool) := (F.find? fun x => decide (x.1 = p)).map (·.2)
end
section
variable {R : List Tab}
structure Done (R : List Tab) (L : List Pos) (F : Fd) (j : Nat) : Prop where
  jl : j ≤ L.length
  st : ∀ k, ∀ p ∈ L, lv R k p = true → lv R j p = true
  at' : ∀ p ∈ L, lv R j p = true → ∃ k s, k < j ∧ lv R (k + 1) p = true ∧ lv R k p = false ∧ sd R k p = some s ∧ look F p = some (k + 1, s)
  no : ∀ p, lv R j p = false → look F p = none
  sub : ∀ p, (look F p).isSome = true → p ∈ L
  len : F.length ≤ L.length
end
inductive Plan where
  | no
  | one (n : Nat)
  | nd (s : Bool) (u d : Plan)
def Plan.size : Plan → Nat
  | .no => 1
  | .one _ => 1
  | .nd _ u d => u.size + d.size + 1
def Plan.few (m : Nat) : Plan → Prop
  | .no => True
  | .one i => i < m
  | .nd _ u d => u.few m ∧ d.few m
inductive IsPl (R : List Tab) : Pos → Nat → Plan → Prop
  | nil : IsPl R [] 0 .no
  | one (x : Nat × Nat) : IsPl R [x] 0 (.one x.1)
  | nd (p : Pos) (k a b : Nat) (s : Bool) (u d : Plan) : 2 ≤ p.length → lv R (k + 1) p = true → lv R k p = false → sd R k p = some s → IsPl R (ws R (nxp R p s) true) a u → IsPl R (ws R (nxp R p s) false) b d → max a b = k → IsPl R p (k + 1) (.nd s u d)
section
variable {R : List Tab}
theorem IsPl.lev {p : Pos} {k : Nat} {pl : Plan} (h : IsPl R p k pl) : (p.length < 2 ∧ k = 0) ∨ (2 ≤ p.length ∧ 1 ≤ k ∧ lv R k p = true ∧ lv R (k - 1) p = false) := by
  cases h with
  | nil => exact .inl ⟨by simp, rfl⟩
  | one x => exact .inl ⟨by simp, rfl⟩
  | nd p k a b s u d h1 h2 h3 h4 h5 h6 h7 => exact .inr ⟨h1, by omega, h2, h3⟩
theorem IsPl.okg {p : Pos} {k : Nat} {pl : Plan} (h : IsPl R p k pl) (j : Nat) : Tel.okg R j p = true ↔ k ≤ j := by
  unfold Tel.okg
  rw [Bool.or_eq_true, decide_eq_true_eq]
  rcases h.lev with ⟨h1, rfl⟩ | ⟨h1, h2, h3, h4⟩
  · exact ⟨fun _ => Nat.zero_le _, fun _ => .inl h1⟩
  · constructor
    · rintro (h | h)
      · omega
      · rcases Nat.lt_or_ge j k with q | q
        · have := lv_le (R := R) (show j ≤ k - 1 by omega) h
          rw [h4] at this; cases this
        · exact q
    · exact fun h => .inr (lv_le h h3)
theorem sd_bh {j : Nat} {p : Pos} {s : Bool} (h : sd R j p = some s) : ∀ g ∈ bh R p s, okg R j g = true := by
  unfold sd at h
  have := List.find?_some h
  exact List.all_eq_true.1 this
theorem sd_min {j : Nat} {p : Pos} (h : lv R (j + 1) p = false) (s : Bool) : ∃ g ∈ bh R p s, okg R j g = false := by
  cases hc : (bh R p s).all (okg R j) with
  | true =>
    have : lv R (j + 1) p = true := (lv_iff j p).2 ⟨s, List.all_eq_true.1 hc⟩
    rw [h] at this; cases this
  | false =>
    rw [List.all_eq_false] at hc
    obtain ⟨g, hg, h2⟩ := hc
    exact ⟨g, hg, by simpa using h2⟩
theorem okg_small {p : Pos} (h : p.length < 2) : ∃ pl, IsPl R p 0 pl := by
  match p, h with
  | [], _ => exact ⟨.no, .nil⟩
  | [x], _ => exact ⟨.one x.1, .one x⟩
theorem isPl_ex : ∀ (j : Nat) (p : Pos), okg R j p = true → ∃ k pl, k ≤ j ∧ IsPl R p k pl
  | j, p, h => by
    by_cases hp : p.length < 2
    · obtain ⟨pl, h⟩ := okg_small (R := R) hp
      exact ⟨0, pl, Nat.zero_le _, h⟩
    · have hl : lv R j p = true := by
        unfold okg at h
        rw [Bool.or_eq_true, decide_eq_true_eq] at h
        exact h.resolve_left hp
      match j, hl with
      | j + 1, hl =>
        by_cases h2 : lv R j p = true
        · obtain ⟨k, pl, h3, h4⟩ := isPl_ex j p (by unfold okg; rw [h2]; simp)
          exact ⟨k, pl, by omega, h4⟩
        · have h2 : lv R j p = false := by simpa using h2
          have hs : (sd R j p).isSome = true := by rw [← lv_sd]; exact hl
          obtain ⟨s, hs⟩ := Option.isSome_iff_exists.1 hs
          have hg := sd_bh hs
          obtain ⟨a, u, ha, hu⟩ := isPl_ex j (ws R (nxp R p s) true) (hg _ (by simp [bh]))
          obtain ⟨b, d, hb, hd⟩ := isPl_ex j (ws R (nxp R p s) false) (hg _ (by simp [bh]))
          refine ⟨j + 1, .nd s u d, Nat.le_refl _, .nd p j a b s u d (by omega) hl h2 hs hu hd ?_⟩
          match j, h2, ha, hb with
          | 0, _, ha, hb => omega
          | j + 1, h2, ha, hb =>
            obtain ⟨g, hg, hg2⟩ := sd_min h2 s
            unfold bh at hg
            simp only [List.mem_cons, List.not_mem_nil, or_false] at hg
            rcases hg with rfl | rfl
            · have : ¬ a ≤ j := fun z => by rw [(hu.okg j).2 z] at hg2; cases hg2
              omega
            · have : ¬ b ≤ j := fun z => by rw [(hd.okg j).2 z] at hg2; cases hg2
              omega
theorem filter_len (p : Pos) (f : Nat × Nat → Bool) : (p.filter f).length + (p.filter fun x => !f x).length = p.length := by
  induction p with
  | nil => rfl
  | cons x p ih =>
    rw [List.filter_cons, List.filter_cons]
    cases f x <;> simp <;> omega
theorem ws_len (p : Pos) : (ws R p true).length + (ws R p false).length = p.length := by
  have := filter_len p fun x => st R x == true
  have e : (p.filter fun x => !(st R x == true)) = ws R p false := by
    unfold ws
    congr 1; funext x
    cases st R x <;> rfl
  rw [e] at this
  exact this
theorem nxp_len (p : Pos) (s : Bool) : (nxp R p s).length = p.length := by unfold nxp; simp
theorem IsPl.size {p : Pos} {k : Nat} {pl : Plan} (h : IsPl R p k pl) : pl.size ≤ 1 + 2 * p.length * k := by
  induction h with
  | nil => simp [Plan.size]
  | one x => simp [Plan.size]
  | nd p k a b s u d h1 h2 h3 h4 h5 h6 h7 ih1 ih2 =>
    have hl := ws_len (R := R) (nxp R p s)
    rw [nxp_len] at hl
    have m1 : 2 * (ws R (nxp R p s) true).length * a ≤ 2 * (ws R (nxp R p s) true).length * k := Nat.mul_le_mul_left _ (by omega)
    have m2 : 2 * (ws R (nxp R p s) false).length * b ≤ 2 * (ws R (nxp R p s) false).length * k := Nat.mul_le_mul_left _ (by omega)
    have m3 : 2 * p.length * (k + 1) = 2 * (ws R (nxp R p s) true).length * k + 2 * (ws R (nxp R p s) false).length * k + 2 * p.length := by
      rw [← hl]; simp only [Nat.mul_add, Nat.add_mul, Nat.mul_one]
    show u.size + d.size + 1 ≤ _
    omega
theorem IsPl.few {p : Pos} {k : Nat} {pl : Plan} (h : IsPl R p k pl) {m : Nat} (hm : ∀ x ∈ p, x.1 < m) : pl.few m := by
  induction h with
  | nil => trivial
  | one x => exact hm x (by simp)
  | nd p k a b s u d h1 h2 h3 h4 h5 h6 h7 ih1 ih2 =>
    have : ∀ bb, ∀ x ∈ ws R (nxp R p s) bb, x.1 < m := fun bb x hx => by
      obtain ⟨y, hy, rfl⟩ := nxp_mem.1 (ws_sub.1 hx).1
      exact hm y hy
    exact ⟨ih1 (this true), ih2 (this false)⟩
end
section
variable {R : List Tab} {q : Pos → Bool}
theorem Done.look {L : List Pos} {F : Fd} {j : Nat} (D : Done R L F j) {p : Pos} (hp : p ∈ L) {k : Nat} {s : Bool} (h1 : lv R (k + 1) p = true) (h2 : lv R k p = false) (h3 : sd R k p = some s) : Tel.look F p = some (k + 1, s) := by
  obtain ⟨k', s', _, g1, g2, g3, g4⟩ := D.at' p hp (D.st _ p hp h1)
  have hk : k = k' := by
    rcases Nat.lt_trichotomy k k' with h | h | h
    · rw [lv_le (show k + 1 ≤ k' by omega) h1] at g2; cases g2
    · exact h
    · rw [lv_le (show k' + 1 ≤ k by omega) g1] at h2; cases h2
  subst hk
  rw [h3] at g3; cases g3
  exact g4
theorem Done.pl {L : List Pos} {F : Fd} {j : Nat} (D : Done R L F j) {p : Pos} (hp : p.length < 2 ∨ (p ∈ L ∧ (Tel.look F p).isSome = true)) : ∃ k pl, k ≤ L.length ∧ IsPl R p k pl := by
  rcases hp with h | ⟨h1, h2⟩
  · obtain ⟨pl, h⟩ := okg_small (R := R) h
    exact ⟨0, pl, Nat.zero_le _, h⟩
  · have h3 : lv R j p = true := by
      cases h3 : lv R j p with
      | true => rfl
      | false => rw [D.no p h3] at h2; cases h2
    obtain ⟨k, pl, h4, h5⟩ := isPl_ex j p (by unfold Tel.okg; rw [h3]; simp)
    exact ⟨k, pl, Nat.le_trans h4 D.jl, h5⟩
theorem Done.none {L : List Pos} {F : Fd} {j : Nat} (D : Done R L F j) {p : Pos} (hp : p ∈ L) (h : Tel.look F p = none) (i : Nat) : lv R i p = false := by
  cases h2 : lv R i p with
  | false => rfl
  | true =>
    obtain ⟨k, s, _, _, _, _, g⟩ := D.at' p hp (D.st i p hp h2)
    rw [h] at g; cases g
theorem Wf.len {p : Pos} (h : Wf R p) : p.length ≤ R.length := by
  have nd : (p.map (·.1)).Nodup := List.pairwise_map.2 (h.inc.imp fun {a b} h => Nat.ne_of_lt h)
  have := pigeon R.length (p.map (·.1)) nd fun x hx => by
    obtain ⟨y, hy, rfl⟩ := List.mem_map.1 hx
    exact (h.num y hy).1
  rwa [List.length_map] at this
end
end Tel
set_option maxHeartbeats 1000000
namespace Tb
def pre (g : Nat → Bool) (p : Nat) : List Bool := (List.range p).map g
end Tb
namespace Sr
open PySem hiding start
open L2
section
variable {A κ : Type} [BEq A] [LawfulBEq A] [DecidableEq A] [DecidableEq κ]
def kn (enc : A → κ) (l : List A) : List (κ × D) := l.map fun x => (enc x, .bl true)
variable {enc : A → κ} (inj : ∀ x y, enc x = enc y → x = y)
include inj
end
end Sr
namespace Lw
open PySem hiding start
open PySem.Spec L2 Sr
open PyProof.Rows hiding St
def top (i : Nat) : Stmt := PySem.Challenge.pw_statusrules_k12_operators_refuse.main.body.getD i (.Pass ⟨0, 0, 0, 0⟩)
def isl_int : List (Str × Bool) := [("Rule", false)]
def isl_bool : List (Str × Bool) := [("Rule", false)]
def isl_tuple : List (Str × Bool) := [("Rule", false)]
def isl_str : List (Str × Bool) := [("Rule", false)]
def isl_Rule : List (Str × Bool) := [("Rule", true)]
def ctl_StatusError : List (Str × Bool) := [("TableError", true), ("RuleError", true), ("NumberError", true), ("TooLarge", true)]
def ctl_TooLarge : List (Str × Bool) := [("TableError", false), ("RuleError", false), ("NumberError", false), ("TooLarge", true)]
def isE_TableError : List (Str × Bool) := [("TableError", true), ("RuleError", false), ("NumberError", false), ("TooLarge", false)]
def isE_ChecksError : List (Str × Bool) := [("TableError", false), ("RuleError", false), ("NumberError", false), ("TooLarge", false)]
def isE_RuleError : List (Str × Bool) := [("TableError", false), ("RuleError", true), ("NumberError", false), ("TooLarge", false)]
def isE_NumberError : List (Str × Bool) := [("TableError", false), ("RuleError", false), ("NumberError", true), ("TooLarge", false)]
def isE_LimitsError : List (Str × Bool) := [("TableError", false), ("RuleError", false), ("NumberError", false), ("TooLarge", false)]
def isE_StateError : List (Str × Bool) := [("TableError", false), ("RuleError", false), ("NumberError", false), ("TooLarge", false)]
def isE_SituationError : List (Str × Bool) := [("TableError", false), ("RuleError", false), ("NumberError", false), ("TooLarge", false)]
def isE_FractionError : List (Str × Bool) := [("TableError", false), ("RuleError", false), ("NumberError", false), ("TooLarge", false)]
def isE_RulesError : List (Str × Bool) := [("TableError", false), ("RuleError", false), ("NumberError", false), ("TooLarge", false)]
def isE_StatusesError : List (Str × Bool) := [("TableError", false), ("RuleError", false), ("NumberError", false), ("TooLarge", false)]
def isE_NamesError : List (Str × Bool) := [("TableError", false), ("RuleError", false), ("NumberError", false), ("TooLarge", false)]
def isE_SignsError : List (Str × Bool) := [("TableError", false), ("RuleError", false), ("NumberError", false), ("TooLarge", false)]
def isE_UnknownName : List (Str × Bool) := [("TableError", false), ("RuleError", false), ("NumberError", false), ("TooLarge", false)]
def isE_MonitorError : List (Str × Bool) := [("TableError", false), ("RuleError", false), ("NumberError", false), ("TooLarge", false)]
def isE_NothingToUndo : List (Str × Bool) := [("TableError", false), ("RuleError", false), ("NumberError", false), ("TooLarge", false)]
def isE_DataError : List (Str × Bool) := [("TableError", false), ("RuleError", false), ("NumberError", false), ("TooLarge", false)]
def isE_TooLarge : List (Str × Bool) := [("TableError", false), ("RuleError", false), ("NumberError", false), ("TooLarge", true)]
def isE_TextError : List (Str × Bool) := [("TableError", false), ("RuleError", false), ("NumberError", false), ("TooLarge", false)]
def isE_ValueError : List (Str × Bool) := [("TableError", true), ("RuleError", true), ("NumberError", true), ("TooLarge", true)]
def isE_StatusError : List (Str × Bool) := [("TableError", true), ("RuleError", true), ("NumberError", true), ("TooLarge", true)]
abbrev st__law_pen : Stmt := top 56
abbrev st__law_cell_at : Stmt := top 55
abbrev st_is_integer : Stmt := top 28
abbrev st_is_between : Stmt := top 29
abbrev st_is_row : Stmt := top 31
abbrev st_is_table : Stmt := top 32
abbrev st_row_classes : Stmt := top 35
abbrev st_reached : Stmt := top 34
abbrev st_smallest : Stmt := top 36
abbrev st_RuleU_initU : Stmt := inClass (top 53) 1
abbrev st__law_draw : Stmt := top 57
abbrev st__law_table : Stmt := top 58
abbrev st__law_pick : Stmt := top 61
abbrev st__law_odd : Stmt := top 62
abbrev st__law_kindE : Stmt := top 63
abbrev st_check_rule : Stmt := top 49
abbrev st_made : Stmt := top 50
abbrev st_joined : Stmt := top 39
abbrev st_RuleU_andU : Stmt := inClass (top 53) 15
abbrev st_RuleU_orU : Stmt := inClass (top 53) 16
abbrev st_check_number : Stmt := top 48
abbrev st_held_place : Stmt := top 42
abbrev st_held : Stmt := top 43
abbrev st_RuleU_addU : Stmt := inClass (top 53) 18
abbrev st_ignoring : Stmt := top 41
abbrev st_RuleU_raddU : Stmt := inClass (top 53) 19
abbrev st__law_words : Stmt := top 70
abbrev st__law_same : Stmt := top 65
abbrev st__law_chain : Stmt := top 59
abbrev st_RuleU_lenU : Stmt := inClass (top 53) 8
abbrev st__law_owed : Stmt := top 67
abbrev st__law_ring : Stmt := top 60
abbrev st__law_period : Stmt := top 68
abbrev st__law_are_rings_right : Stmt := top 69
abbrev st_law : Stmt := top 71
abbrev st__law_said : Stmt := top 64
abbrev st__law_large : Stmt := top 66
abbrev st_TooLargeU_initU : Stmt := inClass (top 19) 0
abbrev st_Rule_rows : Stmt := inClass (top 53) 6
end Lw
namespace Lw
open PySem hiding start
open PySem.Spec L2 Sr
open PyProof.Rows hiding St
def fa : List He.Fa := [.free "max", .free "int", .free "len", .free "isinstance", .free "bool", .free "tuple", .free "str", .str "UP" "U", .str "DOWN" "D", .int "MOST_ROWS" 64, .free "all", .free "set", .free "enumerate", .free "range", .free "ValueError", .int "MOST_ADDED" 9, .free "repr", .free "min", .glo "Rule", .cls "Rule", .glo "TableError", .glo "ChecksError", .glo "RuleError", .glo "NumberError", .glo "LimitsError", .glo "StateError", .glo "SituationError", .glo "FractionError", .glo "RulesError", .glo "StatusesError", .glo "NamesError", .glo "SignsError", .glo "UnknownName", .glo "MonitorError", .glo "NothingToUndo", .glo "DataError", .glo "TooLarge", .glo "TextError", .glo "StatusError", .noat "Rule" "table", .exc "TableError", .exc "RuleError", .exc "NumberError", .meth "Rule" "__and__", .meth "Rule" "__or__", .meth "Rule" "__add__", .meth "Rule" "__radd__", .meth "Rule" "__len__", .mkr "Rule", .glo "_law_pen", .glo "_law_cell_at", .glo "is_integer", .glo "is_between", .glo "is_row", .glo "is_table", .glo "row_classes", .glo "reached", .glo "smallest", .glo "_law_draw", .glo "_law_table", .glo "_law_pick", .glo "_law_odd", .glo "_law_kind", .glo "check_rule", .glo "made", .glo "joined", .glo "check_number", .glo "held_place", .glo "held", .glo "ignoring", .glo "_law_words", .glo "_law_same", .glo "_law_chain", .glo "_law_owed", .glo "_law_ring", .glo "_law_period", .glo "_law_are_rings_right", .glo "law", .glo "_law_said", .glo "_law_large"]
def dz__law_pen : DefZ := ⟨fun K => He.ga K "_law_pen", "_law_pen", "_law_pen", st__law_pen, []⟩
def dz__law_cell_at : DefZ := ⟨fun K => He.ga K "_law_cell_at", "_law_cell_at", "_law_cell_at", st__law_cell_at, []⟩
def dz_is_integer : DefZ := ⟨fun K => He.ga K "is_integer", "is_integer", "is_integer", st_is_integer, []⟩
def dz_is_between : DefZ := ⟨fun K => He.ga K "is_between", "is_between", "is_between", st_is_between, []⟩
def dz_is_row : DefZ := ⟨fun K => He.ga K "is_row", "is_row", "is_row", st_is_row, []⟩
def dz_is_table : DefZ := ⟨fun K => He.ga K "is_table", "is_table", "is_table", st_is_table, []⟩
def dz_row_classes : DefZ := ⟨fun K => He.ga K "row_classes", "row_classes", "row_classes", st_row_classes, []⟩
def dz_reached : DefZ := ⟨fun K => He.ga K "reached", "reached", "reached", st_reached, []⟩
def dz_smallest : DefZ := ⟨fun K => He.ga K "smallest", "smallest", "smallest", st_smallest, []⟩
def dz_RuleU_initU : DefZ := ⟨fun K => He.ma K (He.ga K "Rule") "__init__", "__init__", "Rule.__init__", st_RuleU_initU, []⟩
def dz__law_draw : DefZ := ⟨fun K => He.ga K "_law_draw", "_law_draw", "_law_draw", st__law_draw, []⟩
def dz__law_table : DefZ := ⟨fun K => He.ga K "_law_table", "_law_table", "_law_table", st__law_table, []⟩
def dz__law_pick : DefZ := ⟨fun K => He.ga K "_law_pick", "_law_pick", "_law_pick", st__law_pick, []⟩
def dz__law_odd : DefZ := ⟨fun K => He.ga K "_law_odd", "_law_odd", "_law_odd", st__law_odd, []⟩
def dz__law_kindE : DefZ := ⟨fun K => He.ga K "_law_kind", "_law_kind", "_law_kind", st__law_kindE, []⟩
def dz_check_rule : DefZ := ⟨fun K => He.ga K "check_rule", "check_rule", "check_rule", st_check_rule, []⟩
def dz_made : DefZ := ⟨fun K => He.ga K "made", "made", "made", st_made, []⟩
def dz_joined : DefZ := ⟨fun K => He.ga K "joined", "joined", "joined", st_joined, []⟩
def dz_RuleU_andU : DefZ := ⟨fun K => He.ma K (He.ga K "Rule") "__and__", "__and__", "Rule.__and__", st_RuleU_andU, []⟩
def dz_RuleU_orU : DefZ := ⟨fun K => He.ma K (He.ga K "Rule") "__or__", "__or__", "Rule.__or__", st_RuleU_orU, []⟩
def dz_check_number : DefZ := ⟨fun K => He.ga K "check_number", "check_number", "check_number", st_check_number, []⟩
def dz_held_place : DefZ := ⟨fun K => He.ga K "held_place", "held_place", "held_place", st_held_place, []⟩
def dz_held : DefZ := ⟨fun K => He.ga K "held", "held", "held", st_held, []⟩
def dz_RuleU_addU : DefZ := ⟨fun K => He.ma K (He.ga K "Rule") "__add__", "__add__", "Rule.__add__", st_RuleU_addU, []⟩
def dz_ignoring : DefZ := ⟨fun K => He.ga K "ignoring", "ignoring", "ignoring", st_ignoring, []⟩
def dz_RuleU_raddU : DefZ := ⟨fun K => He.ma K (He.ga K "Rule") "__radd__", "__radd__", "Rule.__radd__", st_RuleU_raddU, []⟩
def dz__law_words : DefZ := ⟨fun K => He.ga K "_law_words", "_law_words", "_law_words", st__law_words, []⟩
def dz__law_same : DefZ := ⟨fun K => He.ga K "_law_same", "_law_same", "_law_same", st__law_same, []⟩
def dz__law_chain : DefZ := ⟨fun K => He.ga K "_law_chain", "_law_chain", "_law_chain", st__law_chain, []⟩
def dz_RuleU_lenU : DefZ := ⟨fun K => He.ma K (He.ga K "Rule") "__len__", "__len__", "Rule.__len__", st_RuleU_lenU, []⟩
def dz__law_owed : DefZ := ⟨fun K => He.ga K "_law_owed", "_law_owed", "_law_owed", st__law_owed, []⟩
def dz__law_ring : DefZ := ⟨fun K => He.ga K "_law_ring", "_law_ring", "_law_ring", st__law_ring, []⟩
def dz__law_period : DefZ := ⟨fun K => He.ga K "_law_period", "_law_period", "_law_period", st__law_period, []⟩
def dz__law_are_rings_right : DefZ := ⟨fun K => He.ga K "_law_are_rings_right", "_law_are_rings_right", "_law_are_rings_right", st__law_are_rings_right, []⟩
def dz_law : DefZ := ⟨fun K => He.ga K "law", "law", "law", st_law, []⟩
def dz_Rule_rows : DefZ := ⟨fun K => (prG K "Rule" "rows").2, "rows", "Rule.rows", st_Rule_rows, []⟩
def dz__law_said : DefZ := ⟨fun K => He.ga K "_law_said", "_law_said", "_law_said", st__law_said, []⟩
def dz__law_large : DefZ := ⟨fun K => He.ga K "_law_large", "_law_large", "_law_large", st__law_large, []⟩
def dz_TooLargeU_initU : DefZ := ⟨fun K => He.ma K (He.ga K "TooLarge") "__init__", "__init__", "TooLarge.__init__", st_TooLargeU_initU, []⟩
def fn : List DefZ := [dz__law_pen, dz__law_cell_at, dz_is_integer, dz_is_between, dz_is_row, dz_is_table, dz_row_classes, dz_reached, dz_smallest, dz_RuleU_initU, dz__law_draw, dz__law_table, dz__law_pick, dz__law_odd, dz__law_kindE, dz_check_rule, dz_made, dz_joined, dz_RuleU_andU, dz_RuleU_orU, dz_check_number, dz_held_place, dz_held, dz_RuleU_addU, dz_ignoring, dz_RuleU_raddU, dz__law_words, dz__law_same, dz__law_chain, dz_RuleU_lenU, dz__law_owed, dz__law_ring, dz__law_period, dz__law_are_rings_right, dz_law, dz_Rule_rows, dz__law_said, dz__law_large, dz_TooLargeU_initU]
def tf : List DefZ := [dz__law_words, dz__law_are_rings_right, dz_law]
def ex (K : PySem.W.Frag) : Bool := cliB K "Rule" && (ownB K (.type "int") isl_int && (ownB K (.type "bool") isl_bool && (ownB K (.type "tuple") isl_tuple && (ownB K (.type "str") isl_str && (noKd K "Rule" && (ownB K (.ref (He.ga K "Rule")) isl_Rule && (xcB K "TooLarge" ["needed", "limit"] && (catB K (.ref (He.ga K "StatusError")) ctl_StatusError && (catB K (.ref (He.ga K "TooLarge")) ctl_TooLarge && (exsB K (.ref (He.ga K "TableError")) isE_TableError && (exsB K (.ref (He.ga K "ChecksError")) isE_ChecksError && (exsB K (.ref (He.ga K "RuleError")) isE_RuleError && (exsB K (.ref (He.ga K "NumberError")) isE_NumberError && (exsB K (.ref (He.ga K "LimitsError")) isE_LimitsError && (exsB K (.ref (He.ga K "StateError")) isE_StateError && (exsB K (.ref (He.ga K "SituationError")) isE_SituationError && (exsB K (.ref (He.ga K "FractionError")) isE_FractionError && (exsB K (.ref (He.ga K "RulesError")) isE_RulesError && (exsB K (.ref (He.ga K "StatusesError")) isE_StatusesError && (exsB K (.ref (He.ga K "NamesError")) isE_NamesError && (exsB K (.ref (He.ga K "SignsError")) isE_SignsError && (exsB K (.ref (He.ga K "UnknownName")) isE_UnknownName && (exsB K (.ref (He.ga K "MonitorError")) isE_MonitorError && (exsB K (.ref (He.ga K "NothingToUndo")) isE_NothingToUndo && (exsB K (.ref (He.ga K "DataError")) isE_DataError && (exsB K (.ref (He.ga K "TooLarge")) isE_TooLarge && (exsB K (.ref (He.ga K "TextError")) isE_TextError && (exsB K (.type "ValueError") isE_ValueError && (exsB K (.ref (He.ga K "StatusError")) isE_StatusError && (PySem.W.selfFirst K (He.ga K "Rule") && (numXB K "Rule" && (isR (PySem.W.findIn K (.ref (He.ga K "Rule")) "__rand__") && (isR (PySem.W.findIn K (.ref (He.ga K "Rule")) "__ror__") && (isR (PySem.W.findIn K (.ref (He.ga K "Rule")) "__radd__") && (isRs (PySem.W.findIn K (.ref (He.ga K "Rule")) "__add__") && (propB K "Rule" "rows"))))))))))))))))))))))))))))))))))))
end Lw
namespace Lw
open PySem hiding start
open PySem.Spec L2 Sr
open PyProof.Rows hiding St
abbrev R : PySem.W.OpenRow := PySem.W.OpenLaw.row PySem.Challenge.rw_statusrules_k12_operators_refuse
def ads : List Addr := ([3, 6, 4, 21, 31, 44, 56, 68, 80, 92, 104, 116, 128, 140, 152, 164, 176, 188, 200, 212, 224, 243, 262, 267, 274, 281, 286, 293, 298, 305, 312, 317, 322, 329, 336, 343, 348, 353, 360, 367] : List Addr) ++ ([374, 381, 388, 395, 400, 407, 558, 569, 576, 583, 588, 593, 598, 605, 612, 619, 626, 633, 640, 647, 652, 659, 666, 673, 0, 20, 30, 43, 55, 67, 79, 91, 103, 115, 127, 139, 151, 163, 175, 187] : List Addr) ++ ([199, 211, 223, 242, 261, 265, 266, 273, 280, 285, 292, 297, 304, 311, 316, 321, 328, 335, 342, 347, 352, 359, 366, 373, 380, 387, 394, 399, 406, 557, 568, 575, 582, 587, 592, 597, 604, 611, 618, 625] : List Addr) ++ ([632, 639, 646, 651, 658, 665, 672, 15, 16, 17, 18, 19, 29, 32, 42, 54, 66, 78, 90, 102, 114, 126, 138, 150, 162, 174, 186, 198, 210, 222, 240, 241, 259, 260, 268, 269, 270, 271, 272, 275] : List Addr) ++ ([276, 277, 278, 279, 282, 283, 284, 287, 288, 289, 290, 291, 294, 295, 296, 299, 300, 301, 302, 303, 306, 307, 308, 309, 310, 313, 314, 315, 318, 319, 320, 323, 324, 325, 326, 327, 330, 331, 332, 333] : List Addr) ++ ([334, 337, 338, 339, 340, 341, 344, 345, 346, 349, 350, 351, 354, 355, 356, 357, 358, 361, 362, 363, 364, 365, 368, 369, 370, 371, 372, 375, 376, 377, 378, 379, 382, 383, 384, 385, 386, 389, 390, 391] : List Addr) ++ ([392, 393, 396, 397, 398, 401, 402, 403, 404, 405, 421, 431, 442, 450, 456, 464, 471, 478, 485, 492, 499, 506, 513, 520, 527, 534, 541, 548, 555, 556, 559, 560, 563, 564, 565, 566, 567, 570, 571, 572] : List Addr) ++ ([573, 574, 577, 578, 579, 580, 581, 584, 585, 586, 589, 590, 591, 594, 595, 596, 599, 600, 601, 602, 603, 606, 607, 608, 609, 610, 613, 614, 615, 616, 617, 620, 621, 622, 623, 624, 627, 628, 629, 630] : List Addr) ++ ([631, 634, 635, 636, 637, 638, 641, 642, 643, 644, 645, 648, 649, 650, 653, 654, 655, 656, 657, 660, 661, 662, 663, 664, 667, 668, 669, 670, 671, 239, 258, 420, 429, 430, 440, 441, 448, 449, 455, 463] : List Addr) ++ ([470, 477, 484, 491, 498, 505, 512, 519, 526, 533, 540, 547, 554, 234, 235, 236, 237, 238, 253, 254, 255, 256, 257, 415, 416, 417, 418, 419, 428, 422, 432, 439, 433, 443, 447, 451, 452, 453, 454, 462] : List Addr) ++ ([465, 466, 467, 468, 469, 472, 473, 474, 475, 476, 479, 480, 481, 482, 483, 486, 487, 488, 489, 490, 493, 494, 495, 496, 497, 500, 501, 502, 503, 504, 507, 508, 509, 510, 511, 514, 515, 516, 517, 518] : List Addr) ++ ([521, 522, 523, 524, 525, 528, 529, 530, 531, 532, 535, 536, 537, 538, 539, 542, 543, 544, 545, 546, 549, 550, 551, 552, 553, 423, 424, 425, 426, 427, 434, 435, 436, 437, 438, 444, 445, 446, 457, 458] : List Addr) ++ ([459, 460, 461, 2] : List Addr)
abbrev hk : PySem.W.Hook := hookM ads fa fn ex tf
def ob (s : PySem.W.SharedT) : AlZ × Bool := obsM ads fa fn ex tf (HandSHeadRun.getT s)
def lo : List Str := (["_wall", "StatusError", "TableError", "ChecksError", "RuleError", "NumberError", "LimitsError", "StateError", "SituationError", "FractionError", "RulesError", "StatusesError", "NamesError", "SignsError", "UnknownName", "MonitorError", "NothingToUndo", "DataError", "TooLarge", "TextError", "UP", "DOWN", "PASS", "FAIL", "SIDES", "MOST_ROWS", "is_integer", "is_between", "is_made_of", "is_row"] : List Str) ++ (["is_table", "opposite", "reached", "row_classes", "smallest", "statuses_of", "first_checks", "joined", "mirrored", "ignoring", "held_place", "held", "MOST_CHECKS", "MOST_ADDED", "check_checks", "check_number", "check_rule", "made", "number_in", "row_in", "Rule", "_law_cell_at", "_law_pen", "_law_draw", "_law_table", "_law_chain", "_law_ring", "_law_pick", "_law_odd", "_law_kind"] : List Str) ++ (["_law_said", "_law_same", "_law_large", "_law_owed", "_law_period", "_law_are_rings_right", "_law_words", "__name__"] : List Str)
theorem run (w : World) : HandSHeadRun.RunEq R (PySem.W.view R.prog [71]) hk ob 20000 lo w := by
  intro os
  kernel_rfl
end Lw
namespace Sr
open PySem PySem.Spec L2
variable [TabL]
theorem fz_rd {H : Hp} {a : Addr} {u : HO} (h : Fz H a u) : Rd H a u := .inr h
theorem rd_mono {H H' : Hp} {a : Addr} {u : HO} (e : Same H H') (h : Rd H a u) : Rd H' a u := by
  rcases h with h | ⟨o, h⟩
  · exact .inl (e _ _ h)
  · exact .inr ⟨o, e _ _ h⟩
theorem seqT_mono {K : PySem.W.Frag} {H H' : Hp} {a : Addr} {xs : List V} (e : Same H H') (h : H a = some (.tup xs)) : SqT K H' a xs := SqT.of (e _ _ h)
end Sr
namespace Sr
open PySem PySem.Spec L2
theorem lky_code {P : Program} {w : World} {a : Addr} {xs : List (List Key × Addr)} {q : Str} (h : LKy P w a xs = LamX.CodeO a q) : False := by
  unfold LKy LamX.CodeO at h
  injection h with h
  have h := congrFun h ⟨Array.replicate (a + 1) { cls := .none, data := .fields #[.none, .str q 0] }, {}⟩
  have g : (⟨Array.replicate (a + 1) { cls := .none, data := .fields #[.none, .str q 0] }, {}⟩ : Heap).get? a = some { cls := .none, data := .fields #[.none, .str q 0] } := by
    unfold Heap.get?
    have : (Array.replicate (a + 1) ({ cls := .none, data := .fields #[.none, .str q 0] } : Obj))[a]? = some { cls := .none, data := .fields #[.none, .str q 0] } := by
      rw [Array.getElem?_replicate, if_pos (by omega)]
    simp only [this]
  have r := h.mpr ⟨_, _, _, g, rfl, rfl⟩
  obtain ⟨_, _, o, es, ep, h1, _, h2, _⟩ := r
  rw [g] at h1
  cases h1
  cases h2
theorem lki_code {P : Program} {w : World} {a : Addr} {xs : List (List Key × Addr × Int)} {q : Str} (h : LKi P w a xs = LamX.CodeO a q) : False := by
  unfold LKi LamX.CodeO at h
  injection h with h
  have h := congrFun h ⟨Array.replicate (a + 1) { cls := .none, data := .fields #[.none, .str q 0] }, {}⟩
  have g : (⟨Array.replicate (a + 1) { cls := .none, data := .fields #[.none, .str q 0] }, {}⟩ : Heap).get? a = some { cls := .none, data := .fields #[.none, .str q 0] } := by
    unfold Heap.get?
    have : (Array.replicate (a + 1) ({ cls := .none, data := .fields #[.none, .str q 0] } : Obj))[a]? = some { cls := .none, data := .fields #[.none, .str q 0] } := by
      rw [Array.getElem?_replicate, if_pos (by omega)]
    simp only [this]
  have r := h.mpr ⟨_, _, _, g, rfl, rfl⟩
  obtain ⟨_, _, ys, _, o, es, ep, h1, _, h2, _⟩ := r
  rw [g] at h1
  cases h1
  cases h2
theorem lkn_code {P : Program} {w : World} {a : Addr} {xs : List (NKy × Addr × V)} {q : Str} (h : LKn P w a xs = LamX.CodeO a q) : False := by
  unfold LKn LamX.CodeO at h
  injection h with h
  have h := congrFun h ⟨Array.replicate (a + 1) { cls := .none, data := .fields #[.none, .str q 0] }, {}⟩
  have g : (⟨Array.replicate (a + 1) { cls := .none, data := .fields #[.none, .str q 0] }, {}⟩ : Heap).get? a = some { cls := .none, data := .fields #[.none, .str q 0] } := by
    unfold Heap.get?
    have : (Array.replicate (a + 1) ({ cls := .none, data := .fields #[.none, .str q 0] } : Obj))[a]? = some { cls := .none, data := .fields #[.none, .str q 0] } := by
      rw [Array.getElem?_replicate, if_pos (by omega)]
    simp only [this]
  have r := h.mpr ⟨_, _, _, g, rfl, rfl⟩
  obtain ⟨_, _, ys, _, o, es, ep, h1, _, h2, _⟩ := r
  rw [g] at h1
  cases h1
  cases h2
theorem uf_none {H : Hp} {p : Addr} (h : H p = none) : ∀ u, H p = some u → NTb u ∧ ∀ φ, u ≠ .ext φ := fun u z => by rw [h] at z; cases z
theorem uf_some {H : Hp} {p : Addr} {o : HO} (h : H p = some o) (h1 : NTb o) (h2 : ∀ φ, o ≠ .ext φ) : ∀ u, H p = some u → NTb u ∧ ∀ φ, u ≠ .ext φ := fun u z => by rw [h] at z; cases z; exact ⟨h1, h2⟩
variable [TabL]
section
variable (K : PySem.W.Frag) (mg : Str → Option Value)
def Rq (H F : Hp) : D → V → Prop
  | .lst ds, v => ∃ a xs, v = .ref a ∧ H a = some (.lst xs) ∧ RpL K mg F ds xs
  | .dk ds, v => ∃ a xs, v = .ref a ∧ Rd H a (.dK xs) ∧ RpK K mg F ds xs
  | .dt ds, v => ∃ a xs, v = .ref a ∧ H a = some (.dT xs) ∧ RpT K mg F ds xs
  | .obj c fs, v => ∃ a C dx gs, v = .ref a ∧ mg c = some (.ref C) ∧ H a = some (.ins C dx gs) ∧ RpF K mg F fs gs
  | .dl _, v => ∃ a, v = .ref a
  | .dq _, v => ∃ a, v = .ref a
  | .dn kvs, v => ∃ a xs, v = .ref a ∧ H a = some (LKn TabL.P TabL.w a xs) ∧ RpN K mg F kvs xs
  | d, v => Rp K mg F d v
end
def NoP (T : Pn) (i : Nat) : Prop := ∀ q ∈ T, q.1 ≠ i
theorem noP_nil {i : Nat} : NoP [] i := fun _ h => nomatch h
theorem noP_cons {T : Pn} {i j : Nat} {p : Pa} (h : j ≠ i) (hs : NoP T i) : NoP ((j, p) :: T) i := fun q hq => by
  rcases List.mem_cons.mp hq with rfl | hq
  · exact h
  · exact hs q hq
theorem noPs_nil {vs : List Nat} : ∀ v ∈ vs, NoP [] v := fun _ _ => noP_nil
theorem noPs_cons {T : Pn} {vs : List Nat} {j : Nat} {p : Pa} (h : j ∉ vs) (hs : ∀ v ∈ vs, NoP T v) : ∀ v ∈ vs, NoP ((j, p) :: T) v := fun v hv => noP_cons (fun z => h (by rw [z]; exact hv)) (hs v hv)
section
variable {K : PySem.W.Frag} {mg : Str → Option Value} {T : Pn} {e e' : En} {σ σ' : St} {H F H' F' : Hp} {p a : Addr} {d : D} {v : V}
theorem OwnAt.noCode (h : OwnAt K mg H F p d) {q : Str} (ho : H p = some (LamX.CodeO p q)) : False := by
  cases d <;> try (exact h.elim)
  · obtain ⟨xs, h1, h2⟩ := h; rw [h1] at ho; cases ho
  · obtain ⟨xs, h1, h2⟩ := h; rw [h1] at ho; cases ho
  · obtain ⟨xs, h1, h2⟩ := h; rw [h1] at ho; cases ho
  · obtain ⟨C, dx, xs, m, h1, h2⟩ := h; rw [h1] at ho; cases ho
  · obtain ⟨xs, h1, h2⟩ := h; rw [h1] at ho; exact lky_code (Option.some.inj ho)
  · obtain ⟨xs, h1, h2⟩ := h; rw [h1] at ho; exact lki_code (Option.some.inj ho)
  · obtain ⟨xs, h1, h2⟩ := h; rw [h1] at ho; exact lkn_code (Option.some.inj ho)
theorem TbOk.upW {H F : Hp} {p : Addr} {o : HO} (t : TbOk H F) (np : ∀ ps, H p ≠ some (.tbl ps)) (nx : ∀ q, H p ≠ some (LamX.CodeO p q)) (n : NTb o) : TbOk (upd H p o) F := by
  refine ⟨fun q hq => ?_, t.nt, fun a ps z => ?_⟩
  · obtain ⟨ps, h1, h2, h3⟩ := t.tabs q hq
    have k : ∀ b u, b ≠ p → H b = some u → upd H p o b = some u := fun b u hb h => by rw [upd_ne hb]; exact h
    refine ⟨ps, k _ _ (fun z => np ps (by rw [← z]; exact h1)) h1, h2, fun pos cv hc => ?_⟩
    obtain ⟨c, e1, e2⟩ := h3 pos cv hc
    exact ⟨c, e1, k _ _ (fun z => by subst z; exact nx _ e2) e2⟩
  · by_cases hb : a = p
    · subst hb; rw [upd_same] at z; cases z; exact (n ps rfl).elim
    · rw [upd_ne hb] at z; exact t.all a ps z
theorem TbOk.write {H F : Hp} {p : Addr} {d : D} {o : HO} (t : TbOk H F) (ow : OwnAt K mg H F p d) (n : NTb o) : TbOk (upd H p o) F :=
  t.upW (fun ps z => ow.nt z ps rfl) (fun q z => ow.noCode z) n
def isDkD : D → Bool
  | .dk _ => true
  | _ => false
theorem OwnAt.rp (h : OwnAt K mg H F p d) (n : F p = none) {o : HO} (ho : H p = some o) (nd : isDkD d = false) : Rp K mg (upd F p o) d (.ref p) := by
  have s : Same F (upd F p o) := same_upd n
  cases d <;> try (exact h.elim)
  · obtain ⟨xs, h1, h2⟩ := h; rw [ho] at h1; cases h1
    unfold Rp
    exact ⟨p, xs, rfl, upd_same, RpL.mono s _ _ h2⟩
  · obtain ⟨xs, h1, h2⟩ := h; rw [ho] at h1; cases h1
    cases nd
  · obtain ⟨xs, h1, h2⟩ := h; rw [ho] at h1; cases h1
    unfold Rp
    exact ⟨p, xs, rfl, upd_same, RpT.mono s _ _ h2⟩
  · obtain ⟨C, dx, xs, m, h1, h2⟩ := h; rw [ho] at h1; cases h1
    unfold Rp
    exact ⟨p, C, dx, xs, rfl, m, upd_same, RpF.mono s _ _ h2⟩
  · obtain ⟨xs, h1, h2⟩ := h; rw [ho] at h1; cases h1
    unfold Rp
    exact ⟨p, _, rfl, upd_same⟩
  · obtain ⟨xs, h1, h2⟩ := h; rw [ho] at h1; cases h1
    unfold Rp
    exact ⟨p, _, rfl, upd_same⟩
  · obtain ⟨xs, h1, h2⟩ := h; rw [ho] at h1; cases h1
    unfold Rp
    exact ⟨p, xs, rfl, upd_same, RpN.mono s _ _ h2⟩
theorem OwnAt.rq (h : OwnAt K mg H F p d) : Rq K mg H F d (.ref p) := by
  cases d <;> try (exact h.elim)
  · obtain ⟨xs, h1, h2⟩ := h; exact ⟨p, xs, rfl, h1, h2⟩
  · obtain ⟨xs, h1, h2⟩ := h; exact ⟨p, xs, rfl, .inl h1, h2⟩
  · obtain ⟨xs, h1, h2⟩ := h; exact ⟨p, xs, rfl, h1, h2⟩
  · obtain ⟨C, dx, xs, m, h1, h2⟩ := h; exact ⟨p, C, dx, xs, rfl, m, h1, h2⟩
  · exact ⟨p, rfl⟩
  · exact ⟨p, rfl⟩
  · obtain ⟨xs, h1, h2⟩ := h; exact ⟨p, xs, rfl, h1, h2⟩
theorem Rp.rq (s : Same F H) (h : Rp K mg F d v) : Rq K mg H F d v := by
  cases d <;> unfold Rq <;> try (exact h)
  · unfold Rp at h
    obtain ⟨a, xs, e, q, r⟩ := h
    exact ⟨a, xs, e, s _ _ q, r⟩
  · unfold Rp at h
    obtain ⟨a, xs, e, q, r⟩ := h
    exact ⟨a, xs, e, rd_mono s (fz_rd q), r⟩
  · unfold Rp at h
    obtain ⟨a, xs, e, q, r⟩ := h
    exact ⟨a, xs, e, s _ _ q, r⟩
  · unfold Rp at h
    obtain ⟨a, C, dx, xs, e, m, q, r⟩ := h
    exact ⟨a, C, dx, xs, e, m, s _ _ q, r⟩
  · unfold Rp at h
    obtain ⟨a, φ, e, _⟩ := h
    exact ⟨a, e⟩
  · unfold Rp at h
    obtain ⟨a, φ, e, _⟩ := h
    exact ⟨a, e⟩
  · unfold Rp at h
    obtain ⟨a, xs, e, q, r⟩ := h
    exact ⟨a, xs, e, s _ _ q, r⟩
theorem Ow.ne_of_free (r : ER K mg T e σ H F) (h : H a = none) : ¬ Ow e σ a := by
  rintro ⟨i, d, h1, h2⟩
  obtain ⟨p, h3, _, h4⟩ := r.own i d h1
  rw [h3] at h2; cases h2
  obtain ⟨o, ho⟩ := h4.there
  rw [ho] at h; cases h
theorem ER.freeze (r : ER K mg T e σ H F) (n : F p = none) (w : ¬ Ow e σ p) {o : HO} (ho : H p = some o) (nt : NTb o := by first | assumption | (intro _ z; exact nomatch z) | (intro _ z; cases z)) : ER K mg T e σ H (upd F p o) := by
  have s : Same F (upd F p o) := same_upd n
  refine ⟨fun b u q => ?_, fun i d h => ?_, fun i d h => ?_, r.inj, r.len, r.pinM s, r.tb.updF nt⟩
  · by_cases hb : b = p
    · subst hb; rw [upd_same] at q; cases q; exact ho
    · rw [upd_ne hb] at q; exact r.sub b u q
  · obtain ⟨v, h1, h2⟩ := r.val i d h
    exact ⟨v, h1, Rp.mono s _ _ h2⟩
  · obtain ⟨q, h1, h2, h3⟩ := r.own i d h
    refine ⟨q, h1, ?_, h3.keep s fun _ z => z⟩
    have hqp : q ≠ p := by
      rintro rfl
      exact w ⟨i, d, h, h1⟩
    rw [upd_ne hqp]; exact h2
theorem ER.freezeAt {i : Nat} (r : ER K mg T e σ H F) (h : e[i]? = some (.own d)) (hp : σ[i]? = some (some (.ref p))) {o : HO} (ho : H p = some o) (nd : isDkD d = false) : ER K mg T (e.set i (.val d)) σ H (upd F p o) ∧ Rp K mg (upd F p o) d (.ref p) ∧ Mv e σ H F (e.set i (.val d)) σ H (upd F p o) := by
  obtain ⟨q, h1, h2, h3⟩ := r.own i d h
  rw [hp] at h1; cases h1
  have s : Same F (upd F p o) := same_upd h2
  have hrp := h3.rp h2 ho nd
  have hi : i < e.length := (List.getElem?_eq_some_iff.mp h).1
  have other : ∀ (j : Nat) (x : D), (e.set i (Sl.val d))[j]? = some (.own x) → e[j]? = some (.own x) ∧ j ≠ i := fun j x q => by
    by_cases hj : j = i
    · subst hj; rw [List.getElem?_set_self hi] at q; cases q
    · rw [List.getElem?_set_ne (Ne.symm hj)] at q; exact ⟨q, hj⟩
  refine ⟨⟨fun b u q => ?_, fun j x q => ?_, fun j x q => ?_, fun j k p' x y q1 q2 => r.inj j k p' x y (other j x q1).1 (other k y q2).1, by rw [List.length_set]; exact r.len, r.pinM s, r.tb.updF (h3.nt ho)⟩, hrp, s, fun a u q n => ⟨fun _ => q, ?_⟩, fun a u q => ?_, fun a q => q⟩
  · by_cases hb : b = p
    · subst hb; rw [upd_same] at q; cases q; exact ho
    · rw [upd_ne hb] at q; exact r.sub b u q
  · by_cases hj : j = i
    · subst hj; rw [List.getElem?_set_self hi] at q; cases q
      exact ⟨_, hp, hrp⟩
    · rw [List.getElem?_set_ne (Ne.symm hj)] at q
      obtain ⟨v, h4, h5⟩ := r.val j x q
      exact ⟨v, h4, Rp.mono s _ _ h5⟩
  · obtain ⟨q, hj⟩ := other j x q
    obtain ⟨p', h4, h5, h6⟩ := r.own j x q
    refine ⟨p', h4, ?_, h6.keep s fun _ z => z⟩
    rw [upd_ne]; exact h5
    rintro rfl
    exact hj (r.inj j i p' x d q h h4 hp)
  · rintro ⟨j, x, q1, q2⟩
    exact n ⟨j, x, (other j x q1).1, q2⟩
  · by_cases hb : a = p
    · subst hb; exact .inr (.inr ⟨i, d, h, hp⟩)
    · rw [upd_ne hb] at q; exact .inl q
end
section
variable (K : PySem.W.Frag) (mg : Str → Option Value) (T : Pn) (W : WX)
def TV (m : M D) : TE := fun σ H Q => ∃ e F, ER K mg T e σ H F ∧ RunAt K mg T W e F m σ H fun d _ H' F' => ∀ v, Rp K mg F' d v → Q v H'
def TO (m : M D) : TE := fun σ H Q => ∃ e F, ER K mg T e σ H F ∧ RunAt K mg T W e F m σ H fun d e' H' F' => ∀ p, H p = none → F' p = none → ¬ Ow e' σ p → OwnAt K mg H' F' p d → Q (.ref p) H'
def TT' (m : M Bool) : TT := fun σ H Q => ∃ e F, ER K mg T e σ H F ∧ RunAt K mg T W e F m σ H fun b _ H' F' => Q b H'
def TAs (m : M (List D)) : TA := fun σ H Q => ∃ e F, ER K mg T e σ H F ∧ RunAt K mg T W e F m σ H fun ds _ H' F' => ∀ vs, RpL K mg F' ds vs → Q vs H'
end
section
variable {K : PySem.W.Frag} {mg : Str → Option Value} {T : Pn} {W : WX} {A B : Type} {e : En} {σ : St} {H F : Hp}
theorem RunAt.bind {m : M A} {f : A → M B} {P : B → En → Hp → Hp → Prop} (h : RunAt K mg T W e F (bnd m f) σ H P) : RunAt K mg T W e F m σ H fun a e1 H1 F1 => RunAt K mg T W e1 F1 (f a) σ H1 P := by
  unfold RunAt bnd at h
  unfold RunAt
  cases q : m e with
  | ok a e1 =>
    rw [q] at h
    dsimp only at h ⊢
    intro H1 F1 er1 mv1
    cases q2 : f a e1 with
    | ok b e2 =>
      rw [q2] at h
      exact fun H2 F2 er2 mv2 => h H2 F2 er2 (mv1.trans mv2)
    | exc x e2 =>
      rw [q2] at h
      exact fun H2 F2 cl dd er2 mv2 => h H2 F2 cl dd er2 (mv1.trans mv2)
    | bad => rw [q2] at h; exact h
  | exc x e' => rw [q] at h; exact h
  | bad => rw [q] at h; exact h
theorem RunAt.rfin {a : A} {P : A → En → Hp → Hp → Prop} (h : RunAt K mg T W e F (ret a) σ H P) (er : ER K mg T e σ H F) : ∀ H' F', Al H F H' F' → P a e H' F' :=
  fun H' F' al => h H' F' (er.al al) (Mv.al er al)
end
end Sr
namespace Sr
variable [TabL]
open PySem PySem.Spec L2
open PyProof.Rows hiding St
theorem PEimp {X : Cx} {e : Expr} {t t' : TE} (h : PE X e t) (k : ∀ σ H Q, t' σ H Q → t σ H Q) : PE X e t' := ⟨fun pins s σ H Q I q => h.run pins s σ H Q I (k σ H Q q)⟩
section
variable {K : PySem.W.Frag} {mg : Str → Option Value} {T : Pn} {e : En} {σ : St} {H F : Hp} {p : Addr} {o : HO} {j : Nat} {d : D} {v : V}
theorem ER.updFree (er : ER K mg T e σ H F) (n : F p = none) (w : ¬ Ow e σ p) (hx : ∀ u, H p = some u → NTb u ∧ ∀ φ, u ≠ .ext φ := by first | exact uf_none (by assumption) | exact uf_some (by assumption) (by intro _ z; cases z) (by intro _ z; cases z) | exact uf_some upd_same (by intro _ z; cases z) (by intro _ z; cases z)) (no : NTb o := by first | assumption | (intro _ z; exact nomatch z) | (intro _ z; cases z)) : ER K mg T e σ (upd H p o) F := by
  refine ⟨fun b u q => ?_, er.val, fun i d h => ?_, er.inj, er.len, er.pin, er.tb.upW (fun ps z => (hx _ z).1 ps rfl) (fun q z => (hx _ z).2 _ rfl) no⟩
  · rw [upd_ne (ne_of_none q n)]; exact er.sub b u q
  · obtain ⟨q, h1, h2, h3⟩ := er.own i d h
    refine ⟨q, h1, h2, h3.keep (Same.refl _) fun u hu => ?_⟩
    rw [upd_ne]; exact hu
    rintro rfl
    exact w ⟨i, d, h, h1⟩
theorem set_no_get {i : Nat} {x : Sl} (h : (e.set j .no)[i]? = some x) (n : x ≠ .no) : i ≠ j ∧ e[i]? = some x := by
  by_cases hj : i = j
  · subst hj
    rw [List.getElem?_set] at h
    split at h
    · split at h
      · cases h; exact (n rfl).elim
      · cases h
    · rename_i z; exact (z rfl).elim
  · rw [List.getElem?_set_ne (Ne.symm hj)] at h
    exact ⟨hj, h⟩
theorem Ow.dropO {a : Addr} (h : Ow (e.set j .no) σ a) : Ow e σ a := by
  obtain ⟨i, x, h1, h2⟩ := h
  exact ⟨i, x, (set_no_get h1 (fun z => nomatch z)).2, h2⟩
theorem ER.dropO (er : ER K mg T e σ H F) : ER K mg T (e.set j .no) σ H F :=
  ⟨er.sub, fun i d h => er.val i d (set_no_get h (fun z => nomatch z)).2, fun i d h => er.own i d (set_no_get h (fun z => nomatch z)).2, fun i k q d d' h1 h2 h3 h4 => er.inj i k q d d' (set_no_get h1 (fun z => nomatch z)).2 (set_no_get h2 (fun z => nomatch z)).2 h3 h4, by rw [List.length_set]; exact er.len, er.pin, er.tb⟩
theorem ER.dropN (er : ER K mg T e σ H F) (h : e[j]? = some (.own d)) (hp : σ[j]? = some (some (.ref p))) : ¬ Ow (e.set j .no) σ p := by
  rintro ⟨i, x, h1, h2⟩
  obtain ⟨h3, h4⟩ := set_no_get h1 (fun z => nomatch z)
  exact h3 (er.inj i j p x d h4 h h2 hp)
theorem ER.backV (er : ER K mg T e σ H F) (hp : σ[j]? = some (some v)) (r : Rp K mg F d v) : ER K mg T (e.set j (.val d)) σ H F := by
  have get : ∀ (i : Nat) (x : Sl), (e.set j (.val d))[i]? = some x → (i ≠ j ∧ e[i]? = some x) ∨ (i = j ∧ x = .val d) := fun i x h => by
    by_cases hj : i = j
    · subst hj
      rw [List.getElem?_set] at h
      split at h
      · split at h
        · cases h; exact .inr ⟨rfl, rfl⟩
        · cases h
      · rename_i z; exact (z rfl).elim
    · rw [List.getElem?_set_ne (Ne.symm hj)] at h
      exact .inl ⟨hj, h⟩
  refine ⟨er.sub, fun i x h => ?_, fun i x h => ?_, fun i k q x y h1 h2 h3 h4 => ?_, by rw [List.length_set]; exact er.len, er.pin, er.tb⟩
  · rcases get i _ h with ⟨_, h'⟩ | ⟨gi, h'⟩
    · exact er.val i x h'
    · cases h'; rw [gi]; exact ⟨v, hp, r⟩
  · rcases get i _ h with ⟨_, h'⟩ | ⟨_, h'⟩
    · exact er.own i x h'
    · cases h'
  · rcases get i _ h1 with ⟨_, q1⟩ | ⟨_, q1⟩
    · rcases get k _ h2 with ⟨_, q2⟩ | ⟨_, q2⟩
      · exact er.inj i k q x y q1 q2 h3 h4
      · cases q2
    · cases q1
theorem ER.lockD {xs : List (Key × V)} {od : Obj} (er : ER K mg T e σ H F) (n : F p = none) (w : ¬ Ow e σ p) (hp : H p = some (.dK xs)) : ER K mg T e σ (upd H p (.frz od (.dK xs))) (upd F p (.frz od (.dK xs))) :=
  (er.updFree n w (uf_some hp (by intro _ z; cases z) (by intro _ z; cases z))).freeze n w upd_same
theorem Mv.lockD {e' : En} {σ' : St} {H' F' : Hp} (mv : Mv e σ H F e' σ' H' F') (hp : H p = none ∨ Ow e σ p) (fp : F' p = none) (hq : ∃ u, H' p = some u) : Mv e σ H F e' σ' (upd H' p o) (upd F' p o) := by
  refine ⟨mv.sub.trans (same_upd fp), fun a u h n => ?_, fun a u h => ?_, fun a h => ?_⟩
  · have hap : a ≠ p := by
      rintro rfl
      rcases hp with hp | hp
      · rw [h] at hp; cases hp
      · exact n hp
    obtain ⟨h1, h2⟩ := mv.keep a u h n
    exact ⟨fun z => by rw [upd_ne hap]; exact h1 z, h2⟩
  · by_cases hap : a = p
    · subst hap
      rcases hp with hp | hp
      · exact .inr (.inl hp)
      · exact .inr (.inr hp)
    · rw [upd_ne hap] at h; exact mv.new a u h
  · by_cases hap : a = p
    · subst hap; rw [upd_same] at h; cases h
    · rw [upd_ne hap] at h; exact mv.there a h
end
def QG (Q : VK) : VK := fun v H => Q v H ∨ ∃ d u, H d = some u ∧ Mut (some u) ∧ ∀ od, Q v (upd H d (.frz od u))
theorem pe_ghost {X : Cx} {e : Expr} {t : TE} (h : PE X e t) : PE X e (fun σ H Q => t σ H fun v H1 => Q v H1 ∨ ∃ d u, H1 d = some u ∧ Mut (some u) ∧ ∀ od, Q v (upd H1 d (.frz od u))) :=
  ⟨fun pins s σ H Q I hw => wpAny_mono (h.run pins s σ H _ I hw) (fun u s' ⟨v, H', I', rv, q⟩ => q.elim (fun q => ⟨v, H', I', rv, q⟩) fun ⟨d, o, hd, mu, hq⟩ => let ⟨od, I2⟩ := I'.lock hd mu; ⟨v, _, I2, rv, hq od⟩) fun _ _ hs => hs⟩
abbrev JV (X : Cx) (T : Pn) (W : WX) (e : Expr) (m : M D) : Prop := PE X e (TV X.K X.mg T W m)
abbrev JO (X : Cx) (T : Pn) (W : WX) (e : Expr) (m : M D) : Prop := PE X e (TO X.K X.mg T W m)
abbrev JT (X : Cx) (T : Pn) (W : WX) (e : Expr) (m : M Bool) : Prop := PT X e (TT' X.K X.mg T W m)
abbrev JW (X : Cx) (T : Pn) (W : WX) (e : Expr) (m : M Bool) : Prop := PW X e (TT' X.K X.mg T W m)
abbrev JA (X : Cx) (T : Pn) (W : WX) (es : List Expr) (m : M (List D)) : Prop := PA X es (TAs X.K X.mg T W m)
def TBw (K : PySem.W.Frag) (mg : Str → Option Value) (T : Pn) (W : WX) (m : M Bv) : TE := fun σ H Q => ∃ e F, ER K mg T e σ H F ∧ RunAt K mg T W e F m σ H fun b _ H' F' => ∀ v, BwR K mg σ F' b v → Q v H'
abbrev JB (X : Cx) (T : Pn) (W : WX) (e : Expr) (m : M Bv) : Prop := PE X e (TBw X.K X.mg T W m)
def der (b : Bv) : M D := fun e => match b with
  | .val d => .ok d e
  | .slot i => match e[i]? with
    | some (.val d) => .ok d e
    | some (.own d) => .ok d e
    | _ => .bad
section
variable {K : PySem.W.Frag} {mg : Str → Option Value} {T : Pn} {W : WX} {e : En} {σ : St} {H F F' : Hp} {b : Bv} {v : V}
theorem der_fin {P : D → En → Hp → Hp → Prop} (h : RunAt K mg T W e F (der b) σ H P) (er : ER K mg T e σ H F) (hb : BwR K mg σ F b v) : ∃ d, Rq K mg H F d v ∧ P d e H F := by
  cases b with
  | val d => exact ⟨d, Rp.rq er.sub hb, h H F er Mv.refl⟩
  | slot i =>
    unfold RunAt der at h
    cases q : e[i]? with
    | none => simp only [q] at h
    | some sl =>
      cases sl with
      | no => simp only [q] at h
      | val d =>
        simp only [q] at h
        obtain ⟨w, h1, h2⟩ := er.val i d q
        have hv : σ[i]? = some (some v) := hb
        rw [h1] at hv; cases hv
        exact ⟨d, Rp.rq er.sub h2, h H F er Mv.refl⟩
      | own d =>
        simp only [q] at h
        obtain ⟨p, h1, h2, h3⟩ := er.own i d q
        have hv : σ[i]? = some (some v) := hb
        rw [h1] at hv; cases hv
        exact ⟨d, h3.rq, h H F er Mv.refl⟩
end
section
variable {X : Cx} {T : Pn} {W : WX} {pos : Pos} {a b c : Expr} {ma mb mc : M D}
theorem ofO {m : M D} (h : JO X T W a m) : JV X T W a m := by
  refine PEimp (pe_ghost h) fun σ H Q ⟨e, F, er, q⟩ => ⟨e, F, er, ?_⟩
  unfold RunAt at q ⊢
  cases r : m e with
  | ok d e' =>
    rw [r] at q
    intro H' F' er' mv p hp fp np ow
    obtain ⟨o, ho⟩ := ow.there
    by_cases nd : isDkD d = false
    · refine .inl (q H' (upd F' p o) (er'.freeze fp np ho (ow.nt ho)) ⟨mv.sub.trans (same_upd fp), mv.keep, fun c u hc => ?_, mv.there⟩ _ (ow.rp fp ho nd))
      by_cases hcp : c = p
      · subst hcp; exact .inr (.inl hp)
      · rw [upd_ne hcp] at hc; exact mv.new c u hc
    · cases d with
      | dk ds =>
        obtain ⟨xs, h1, h2⟩ := ow
        refine .inr ⟨p, .dK xs, h1, True.intro, fun od => q _ _ (er'.lockD fp np h1) (mv.lockD (.inl hp) fp ⟨_, h1⟩) _ ?_⟩
        unfold Rp
        exact ⟨p, xs, rfl, ⟨od, upd_same⟩, RpK.mono (same_upd fp) _ _ h2⟩
      | _ => exact absurd rfl nd
  | exc x e' => rw [r] at q; exact q
  | bad => rw [r] at q; exact q
def mB (m : M D) : M Bv := bnd m fun d => ret (.val d)
theorem ofV {m : M D} (h : JV X T W a m) : JB X T W a (mB m) := by
  refine PEimp h fun σ H Q ⟨e, F, er, q⟩ => ⟨e, F, er, q.bind.mono fun d e1 H1 F1 er1 mv1 q1 v hv => q1.rfin er1 H1 F1 Al.refl v hv⟩
theorem jv_int {i j} : JV X T W (.Constant (.int i) j pos) (ret (.int i)) := PEimp pe_int fun σ H Q ⟨e, F, er, h⟩ => h.rfin er H F Al.refl _ (by unfold Rp; rfl)
theorem jv_bl {i j} : JV X T W (.Constant (.bool i) j pos) (ret (.bl i)) := PEimp pe_bl fun σ H Q ⟨e, F, er, h⟩ => h.rfin er H F Al.refl _ (by unfold Rp; rfl)
theorem jv_str {i j} : JV X T W (.Constant (.str i) j pos) (ret (.str i)) := PEimp pe_str fun σ H Q ⟨e, F, er, h⟩ => h.rfin er H F Al.refl _ (by unfold Rp; rfl)
theorem jv_non {j} : JV X T W (.Constant .none j pos) (ret .non) := PEimp pe_non fun σ H Q ⟨e, F, er, h⟩ => h.rfin er H F Al.refl _ (by unfold Rp; rfl)
theorem jv_glob {x : Str} {v : V} {u : Value} {d : D} (hg : Gl X x) (hm : X.mg x = some u) (r : RelV v u) (hd : ∀ F, Rp X.K X.mg F d v) (hx : (x == ("__debug__" : Str)) = false := by decide) : JV X T W (.Name x pos) (ret d) :=
  PEimp (pe_glob hg hm r hx) fun σ H Q ⟨e, F, er, h⟩ => h.rfin er H F Al.refl _ (hd F)
def mN (i : Nat) : M D := fun e => match e[i]? with
  | some (.val d) => .ok d e
  | some (.own d) => .ok d (e.set i (.val d))
  | _ => .bad
def mNB (i : Nat) : M Bv := fun e => match e[i]? with
  | some (.val d) => .ok (.val d) e
  | some (.own _) => .ok (.slot i) e
  | _ => .bad
theorem jv_name (i : Nat) {x : Str} (hN : X.N[i]? = some x := by rfl) (hv : Vis X.env.scope x := by first | exact Or.inl rfl | exact Or.inr (Or.inl rfl) | exact Or.inr (Or.inr rfl)) (hd : (x == ("__debug__" : Str)) = false := by decide)
    (hcd : (x == ("__classdict__" : Str)) = false := by decide) : JV X T W (.Name x pos) (mN i) := by
  refine PEimp (pe_ghost (pe_var hN hv hd hcd)) fun σ H Q ⟨e, F, er, h⟩ => ?_
  unfold RunAt mN at h
  cases q : e[i]? with
  | none => simp only [q] at h
  | some sl =>
    cases sl with
    | no => simp only [q] at h
    | val d =>
      simp only [q] at h
      obtain ⟨v, h1, h2⟩ := er.val i d q
      exact ⟨v, h1, .inl (h H F er Mv.refl v h2)⟩
    | own d =>
      simp only [q] at h
      obtain ⟨p, h1, h2, h3⟩ := er.own i d q
      obtain ⟨o, ho⟩ := h3.there
      by_cases nd : isDkD d = false
      · obtain ⟨er', hr, mv⟩ := er.freezeAt q h1 ho nd
        exact ⟨_, h1, .inl (h H _ er' mv _ hr)⟩
      · cases d with
        | dk ds =>
          obtain ⟨xs, h4, h5⟩ := h3
          refine ⟨_, h1, .inr ⟨p, .dK xs, h4, True.intro, fun od => ?_⟩⟩
          have np := er.dropN q h1
          have er2 := (er.dropO (j := i)).lockD (od := od) h2 np h4
          have rp : Rp X.K X.mg (upd F p (.frz od (.dK xs))) (.dk ds) (.ref p) := by
            unfold Rp
            exact ⟨p, xs, rfl, ⟨od, upd_same⟩, RpK.mono (same_upd h2) _ _ h5⟩
          have er3 := er2.backV (j := i) h1 rp
          have e3 : (e.set i .no).set i (.val (.dk ds)) = e.set i (.val (.dk ds)) := List.set_set ..
          rw [e3] at er3
          have ow : ∀ a, Ow (e.set i (.val (.dk ds))) σ a → Ow e σ a := fun a ⟨k, y, g1, g2⟩ => by
            by_cases hj : k = i
            · subst hj
              rw [List.getElem?_set] at g1
              split at g1
              · split at g1 <;> cases g1
              · rename_i z; exact (z rfl).elim
            · rw [List.getElem?_set_ne (Ne.symm hj)] at g1
              exact ⟨k, y, g1, g2⟩
          have mv : Mv e σ H F (e.set i (.val (.dk ds))) σ H F := ⟨Same.refl _, fun a o g n => ⟨fun _ => g, fun z => n (ow a z)⟩, fun a o g => .inl g, fun a g => g⟩
          exact h _ _ er3 (mv.lockD (.inr ⟨i, _, q, h1⟩) h2 ⟨_, h4⟩) _ rp
        | _ => exact absurd rfl nd
theorem jb_name (i : Nat) {x : Str} (hN : X.N[i]? = some x := by rfl) (hv : Vis X.env.scope x := by first | exact Or.inl rfl | exact Or.inr (Or.inl rfl) | exact Or.inr (Or.inr rfl)) (hd : (x == ("__debug__" : Str)) = false := by decide)
    (hcd : (x == ("__classdict__" : Str)) = false := by decide) : JB X T W (.Name x pos) (mNB i) := by
  refine PEimp (pe_var hN hv hd hcd) fun σ H Q ⟨e, F, er, h⟩ => ?_
  unfold RunAt mNB at h
  cases q : e[i]? with
  | none => simp only [q] at h
  | some sl =>
    cases sl with
    | no => simp only [q] at h
    | val d =>
      simp only [q] at h
      obtain ⟨v, h1, h2⟩ := er.val i d q
      exact ⟨v, h1, h H F er Mv.refl v h2⟩
    | own d =>
      simp only [q] at h
      obtain ⟨p, h1, h2, h3⟩ := er.own i d q
      exact ⟨_, h1, h H F er Mv.refl _ h1⟩
def Op2 (X : Cx) (f : Value → Value → Sem Value) (g : D → D → Option D) : Prop :=
  ∀ (H F : Hp) (x y : V) (d1 d2 d : D), Same F H → Rq X.K X.mg H F d1 x → Rq X.K X.mg H F d2 y → g d1 d2 = some d →
    ∃ r : R2, OpR X f r ∧ ∀ Q : VK, (∀ H' F' z, Al H F H' F' → Rp X.K X.mg F' d z → Q z H') → r x y H Q
theorem Op2.or {f : Value → Value → Sem Value} {g g' : D → D → Option D} (h : Op2 X f g) (h' : Op2 X f g') : Op2 X f (fun a b => (g a b).or (g' a b)) := by
  intro H F x y d1 d2 d s r1 r2 e
  cases q : g d1 d2 with
  | some z => simp only [q, Option.some_or] at e; cases e; exact h H F x y d1 d2 _ s r1 r2 q
  | none => simp only [q, Option.none_or] at e; exact h' H F x y d1 d2 d s r1 r2 e
def m2b (g : D → D → Option D) (ma : M Bv) (mb : M D) : M D := bnd ma fun b1 => bnd mb fun d2 => bnd (der b1) fun d1 => opt (g d1 d2)
def m2r (g : D → D → Option D) (ma : M D) (mb : M Bv) : M D := bnd ma fun d1 => bnd mb fun b2 => bnd (der b2) fun d2 => opt (g d1 d2)
section
variable {f : Value → Value → Sem Value} {g : D → D → Option D} {R : V → V → Hp → Prop} {Q : VK}
theorem run2 (ho : Op2 X f g) {σ : St} {H : Hp} (h : TV X.K X.mg T W (m2 g ma mb) σ H Q) : TV X.K X.mg T W ma σ H fun x H1 => TV X.K X.mg T W mb σ H1 fun y H2 => ∃ r, OpR X f r ∧ r x y H2 Q := by
  obtain ⟨e, F, er, h⟩ := h
  refine ⟨e, F, er, h.bind.mono fun d1 e1 H1 F1 er1 mv1 h1 v hv => ⟨e1, F1, er1, h1.bind.mono fun d2 e2 H2 F2 er2 mv2 h2 w hw => ?_⟩⟩
  obtain ⟨d, hd, fin⟩ := h2.fin er2
  obtain ⟨r, hr, q⟩ := ho H2 F2 v w d1 d2 d er2.sub (Rp.rq er2.sub (Rp.mono mv2.sub _ _ hv)) (Rp.rq er2.sub hw) hd
  exact ⟨r, hr, q Q fun H' F' z al hz => fin H' F' al z hz⟩
theorem run2r {mb2 : M Bv} (ho : Op2 X f g) {σ : St} {H : Hp} (h : TV X.K X.mg T W (m2r g ma mb2) σ H Q) : TV X.K X.mg T W ma σ H fun x H1 => TBw X.K X.mg T W mb2 σ H1 fun y H2 => ∃ r, OpR X f r ∧ r x y H2 Q := by
  obtain ⟨e, F, er, h⟩ := h
  refine ⟨e, F, er, h.bind.mono fun d1 e1 H1 F1 er1 mv1 h1 v hv => ⟨e1, F1, er1, h1.bind.mono fun b2 e2 H2 F2 er2 mv2 h2 w hw => ?_⟩⟩
  obtain ⟨d2, r2, h3⟩ := der_fin h2.bind er2 hw
  obtain ⟨d, hd, fin⟩ := h3.fin er2
  obtain ⟨r, hr, q⟩ := ho H2 F2 v w d1 d2 d er2.sub (Rp.rq er2.sub (Rp.mono mv2.sub _ _ hv)) r2 hd
  exact ⟨r, hr, q Q fun H' F' z al hz => fin H' F' al z hz⟩
end
def rAny (X : Cx) (f : Value → Value → Sem Value) : R2 := fun x y H Q => ∃ r, OpR X f r ∧ r x y H Q
theorem opAny {f : Value → Value → Sem Value} : OpR X f (rAny X f) := fun pins s σ H x y v u Q I rx ry ⟨r, hr, q⟩ => hr pins s σ H x y v u Q I rx ry q
theorem jv_bin {op : Operator} {g : D → D → Option D} (ho : Op2 X (binaryOp op) g) (ha : JV X T W a ma) (hb : JV X T W b mb) : JV X T W (.BinOp a op b pos) (m2 g ma mb) :=
  PEimp (pe_op opAny ha hb) fun σ H Q h => run2 ho h
theorem jv_cmp {op : CmpOp} {g : D → D → Option D} (ho : Op2 X (compareOp op) g) (ha : JV X T W a ma) (hb : JV X T W b mb) (hm : behindInMarks op b = false := by first | exact nomark _ | rfl) : JV X T W (.Compare a [op] [b] pos) (m2 g ma mb) :=
  PEimp (pe_cmpR opAny ha hb hm) fun σ H Q h => run2 ho h
def asB : D → Option Bool
  | .bl b => some b
  | _ => none
def mT (m : M D) : M Bool := bnd m fun d => opt (asB d)
theorem runT {σ : St} {H : Hp} {Q : Bool → Hp → Prop} (h : TT' X.K X.mg T W (mT ma) σ H Q) : TV X.K X.mg T W ma σ H fun x H1 => ∃ k, x = .bl k ∧ Q k H1 := by
  obtain ⟨e, F, er, h⟩ := h
  refine ⟨e, F, er, h.bind.mono fun d e1 H1 F1 er1 mv1 h1 v hv => ?_⟩
  obtain ⟨k, hk, fin⟩ := h1.fin er1
  cases d <;> cases hk
  unfold Rp at hv
  exact ⟨_, hv, fin H1 F1 Al.refl⟩
theorem PTimp {e : Expr} {t t' : TT} (h : PT X e t) (k : ∀ σ H Q, t' σ H Q → t σ H Q) : PT X e t' := ⟨fun pins s σ H Q I q => h.run pins s σ H Q I (k σ H Q q)⟩
theorem PWimp {e : Expr} {t t' : TT} (h : PW X e t) (k : ∀ σ H Q, t' σ H Q → t σ H Q) : PW X e t' := ⟨fun wh pins s σ H Q I q => h.run wh pins s σ H Q I (k σ H Q q)⟩
theorem jt_cmp {op : CmpOp} {g : D → D → Option D} (ho : Op2 X (compareOp op) g) (ha : JV X T W a ma) (hb : JV X T W b mb) (hm : behindInMarks op b = false := by first | exact nomark _ | rfl) : JT X T W (.Compare a [op] [b] pos) (mT (m2 g ma mb)) :=
  PTimp (pt_cmpR opAny ha hb hm) fun σ H Q h => run2 ho (runT h)
theorem jt_cmpR {op : CmpOp} {g : D → D → Option D} {m1 : M Bv} (ho : Op2 X (compareOp op) g) (ha : JV X T W a ma) (hb : JB X T W b m1) (hm : behindInMarks op b = false := by first | exact nomark _ | rfl) : JT X T W (.Compare a [op] [b] pos) (mT (m2r g ma m1)) :=
  PTimp (pt_cmpR opAny ha hb hm) fun σ H Q h => run2r ho (runT h)
def mChain (g g' : D → D → Option D) (ma mb mc : M D) : M D := bnd ma fun d1 => bnd mb fun d2 => bnd (opt ((g d1 d2).bind asB)) fun k => if k = true then bnd mc fun d3 => opt (g' d2 d3) else ret (.bl false)
theorem runChain {op op' : CmpOp} {g g' : D → D → Option D} {Q : VK} {σ : St} {H : Hp} (ho : Op2 X (compareOp op) g) (ho' : Op2 X (compareOp op') g') (h : TV X.K X.mg T W (mChain g g' ma mb mc) σ H Q) :
    tChain (rAny X (compareOp op)) (rAny X (compareOp op')) (TV X.K X.mg T W ma) (TV X.K X.mg T W mb) (TV X.K X.mg T W mc) σ H Q := by
  obtain ⟨e, F, er, h⟩ := h
  refine ⟨e, F, er, h.bind.mono fun d1 e1 H1 F1 er1 mv1 h1 v hv => ⟨e1, F1, er1, h1.bind.mono fun d2 e2 H2 F2 er2 mv2 h2 w hw => ?_⟩⟩
  obtain ⟨k, hk, fin⟩ := h2.bind.fin er2
  cases hg : g d1 d2 with
  | none => rw [hg] at hk; cases hk
  | some d =>
    rw [hg] at hk
    obtain ⟨r, hr, q⟩ := ho H2 F2 v w d1 d2 d er2.sub (Rp.rq er2.sub (Rp.mono mv2.sub _ _ hv)) (Rp.rq er2.sub hw) hg
    refine ⟨r, hr, q _ fun H' F' z al hz => ?_⟩
    cases d <;> cases hk
    unfold Rp at hz
    have er3 := er2.al al
    have s3 : Same F2 F' := (al.same er2.sub).1
    refine ⟨k, hz, ?_⟩
    have h3 := fin H' F' al
    cases k with
    | false =>
      rw [if_neg (by decide)] at h3 ⊢
      exact h3.rfin er3 H' F' Al.refl _ (by unfold Rp; rfl)
    | true =>
      rw [if_pos rfl] at h3 ⊢
      refine ⟨e2, F', er3, h3.bind.mono fun d3 e4 H4 F4 er4 mv4 h4 y hy => ?_⟩
      obtain ⟨d', hd', fin'⟩ := h4.fin er4
      obtain ⟨r', hr', q'⟩ := ho' H4 F4 w y d2 d3 d' er4.sub (Rp.rq er4.sub (Rp.mono (s3.trans mv4.sub) _ _ hw)) (Rp.rq er4.sub hy) hd'
      exact ⟨r', hr', q' Q fun H' F' z al hz => fin' H' F' al z hz⟩
theorem jv_chain {op op' : CmpOp} {g g' : D → D → Option D} (ho : Op2 X (compareOp op) g) (ho' : Op2 X (compareOp op') g') (ha : JV X T W a ma) (hb : JV X T W b mb) (hc : JV X T W c mc)
    (hm : lastMarks [op, op'] [b, c] = false := by with_unfolding_all rfl) : JV X T W (.Compare a [op, op'] [b, c] pos) (mChain g g' ma mb mc) :=
  PEimp (pe_chain opAny opAny ha hb hc hm) fun σ H Q h => runChain ho ho' h
theorem jt_chain {op op' : CmpOp} {g g' : D → D → Option D} (ho : Op2 X (compareOp op) g) (ho' : Op2 X (compareOp op') g') (ha : JV X T W a ma) (hb : JV X T W b mb) (hc : JV X T W c mc)
    (hm : lastMarks [op, op'] [b, c] = false := by with_unfolding_all rfl) : JT X T W (.Compare a [op, op'] [b, c] pos) (mT (mChain g g' ma mb mc)) :=
  PTimp (pt_chain opAny opAny ha hb hc hm) fun σ H Q h => runChain ho ho' (runT h)
def mAnd (m m' : M Bool) : M Bool := bnd m fun k => if k = true then m' else ret false
def mOr (m m' : M Bool) : M Bool := bnd m fun k => if k = true then ret true else m'
def mNot (m : M Bool) : M Bool := bnd m fun k => ret (!k)
variable {rest : List Expr} {n n' : M Bool}
theorem jw_and1 (ha : JT X T W a n) : JW X T W (.BoolOp .And [a] pos) n := pw_and1 ha
theorem jw_or1 (ha : JT X T W a n) : JW X T W (.BoolOp .Or [a] pos) n := pw_or1 ha
theorem jw_and (ha : JT X T W a n) (hb : JW X T W (.BoolOp .And (b :: rest) pos) n') : JW X T W (.BoolOp .And (a :: b :: rest) pos) (mAnd n n') := by
  refine PWimp (pw_and ha hb) fun σ H Q ⟨e, F, er, h⟩ => ⟨e, F, er, h.bind.mono fun k e1 H1 F1 er1 mv1 h1 => ?_⟩
  cases k with
  | true => rw [if_pos rfl] at h1 ⊢; exact ⟨e1, F1, er1, h1⟩
  | false => rw [if_neg (by decide)] at h1 ⊢; exact h1.rfin er1 H1 F1 Al.refl
theorem jw_or (ha : JT X T W a n) (hb : JW X T W (.BoolOp .Or (b :: rest) pos) n') : JW X T W (.BoolOp .Or (a :: b :: rest) pos) (mOr n n') := by
  refine PWimp (pw_or ha hb) fun σ H Q ⟨e, F, er, h⟩ => ⟨e, F, er, h.bind.mono fun k e1 H1 F1 er1 mv1 h1 => ?_⟩
  cases k with
  | false => rw [if_neg (by decide)] at h1 ⊢; exact ⟨e1, F1, er1, h1⟩
  | true => rw [if_pos rfl] at h1 ⊢; exact h1.rfin er1 H1 F1 Al.refl
theorem ofW (h : JW X T W a n) : JT X T W a n := h.pt
theorem jt_not (ha : JT X T W a n) : JT X T W (.UnaryOp .Not a pos) (mNot n) :=
  PTimp (pt_not ha) fun σ H Q ⟨e, F, er, h⟩ => ⟨e, F, er, h.bind.mono fun k e1 H1 F1 er1 mv1 h1 => h1.rfin er1 H1 F1 Al.refl⟩
def mAndV (m m' : M D) : M D := bnd m fun d => bnd (opt (asB d)) fun k => if k = true then m' else ret (.bl false)
def mOrV (m m' : M D) : M D := bnd m fun d => bnd (opt (asB d)) fun k => if k = true then ret (.bl true) else m'
def mNotV (m : M D) : M D := bnd m fun d => opt ((asB d).map fun k => .bl (!k))
theorem jv_one {op} (h : JV X T W a ma) : JV X T W (.BoolOp op [a] pos) ma := pe_one h
theorem jv_and (ha : JV X T W a ma) (hb : JV X T W (.BoolOp .And (b :: rest) pos) mb) : JV X T W (.BoolOp .And (a :: b :: rest) pos) (mAndV ma mb) := by
  refine PEimp (pe_and ha hb) fun σ H Q ⟨e, F, er, h⟩ => ⟨e, F, er, h.bind.mono fun d e1 H1 F1 er1 mv1 h1 v hv => ?_⟩
  obtain ⟨k, hk, fin⟩ := h1.bind.fin er1
  cases d <;> cases hk
  unfold Rp at hv
  refine ⟨k, hv, ?_⟩
  have h2 := fin H1 F1 Al.refl
  cases k with
  | true => rw [if_pos rfl] at h2 ⊢; exact ⟨e1, F1, er1, h2⟩
  | false => rw [if_neg (by decide)] at h2 ⊢; exact h2.rfin er1 H1 F1 Al.refl _ (by unfold Rp; rfl)
theorem jv_not (ha : JV X T W a ma) : JV X T W (.UnaryOp .Not a pos) (mNotV ma) := by
  refine PEimp (pe_not ha) fun σ H Q ⟨e, F, er, h⟩ => ⟨e, F, er, h.bind.mono fun d e1 H1 F1 er1 mv1 h1 v hv => ?_⟩
  obtain ⟨z, hz, fin⟩ := h1.fin er1
  cases d <;> cases hz
  unfold Rp at hv
  exact ⟨_, hv, fin H1 F1 Al.refl _ (by unfold Rp; rfl)⟩
def mIf (n : M Bool) (ma mb : M D) : M D := bnd n fun k => if k = true then ma else mb
theorem jv_if {c : Expr} (hc : JT X T W c n) (ha : JV X T W a ma) (hb : JV X T W b mb) : JV X T W (.IfExp c a b pos) (mIf n ma mb) := by
  refine PEimp (pe_ifExp hc ha hb) fun σ H Q ⟨e, F, er, h⟩ => ⟨e, F, er, h.bind.mono fun k e1 H1 F1 er1 mv1 h1 => ?_⟩
  cases k with
  | true => rw [if_pos rfl] at h1 ⊢; exact ⟨e1, F1, er1, h1⟩
  | false => rw [if_neg (by decide)] at h1 ⊢; exact ⟨e1, F1, er1, h1⟩
theorem jt_val (ha : JV X T W a ma) (he : ∀ whole, isTrue a X.env whole = (do let v ← whole; standAt a.pos; holding [v] (truthy v)) := by intro _; rfl) : JT X T W a (mT ma) :=
  PTimp (pt_val ha he) fun σ H Q h => runT h
def mNil : M (List D) := ret []
def mCons (m : M D) (ms : M (List D)) : M (List D) := bnd m fun d => bnd ms fun ds => ret (d :: ds)
theorem PAimp {es : List Expr} {t t' : TA} (h : PA X es t) (k : ∀ σ H Q, t' σ H Q → t σ H Q) : PA X es t' := ⟨fun pos pins s σ H Q I q => h.run pos pins s σ H Q I (k σ H Q q)⟩
theorem ja_nil : JA X T W [] mNil := PAimp pa_nil fun σ H Q ⟨e, F, er, h⟩ => h.rfin er H F Al.refl _ (by unfold RpL; rfl)
theorem ja_cons {e : Expr} {es : List Expr} {m : M D} {ms : M (List D)} (ha : JV X T W e m) (hr : JA X T W es ms) (hs : starEach (e :: es) X.env = (false, eval e X.env) :: starEach es X.env := by rfl) : JA X T W (e :: es) (mCons m ms) := by
  refine PAimp (pa_cons ha hr hs) fun σ H Q ⟨e, F, er, h⟩ => ⟨e, F, er, h.bind.mono fun d e1 H1 F1 er1 mv1 h1 v hv => ⟨e1, F1, er1, h1.bind.mono fun ds e2 H2 F2 er2 mv2 h2 vs hvs => ?_⟩⟩
  exact h2.rfin er2 H2 F2 Al.refl _ (by unfold RpL; exact ⟨v, vs, rfl, Rp.mono mv2.sub _ _ hv, hvs⟩)
def mTup (ms : M (List D)) : M D := bnd ms fun ds => opt (if ds.length ≤ sizeLine then some (.tup ds) else none)
def mLst (ms : M (List D)) : M D := bnd ms fun ds => opt (if ds.length ≤ sizeLine then some (.lst ds) else none)
theorem jv_tup {es : List Expr} {x1} {ms : M (List D)} (h : JA X T W es ms) : JV X T W (.Tuple es x1 pos) (mTup ms) := by
  refine PEimp (pe_tup h) fun σ H Q ⟨e, F, er, h⟩ => ⟨e, F, er, h.bind.mono fun ds e1 H1 F1 er1 mv1 h1 vs hvs => ?_⟩
  obtain ⟨d, hd, fin⟩ := h1.fin er1
  split at hd
  · rename_i hz
    cases hd
    refine ⟨by rw [← hvs.len]; exact hz, fun p hp => fin _ _ (Al.one hp) _ ?_⟩
    unfold Rp
    exact ⟨p, vs, rfl, upd_same, RpL.mono (same_upd (er1.sub.free hp)) _ _ hvs⟩
  · cases hd
end
section
variable {X : Cx} {T : Pn} {W : WX} {pos : Pos} {a b c : Expr} {ma mb mc : M D}
theorem jo_lst {es : List Expr} {ms : M (List D)} (h : JA X T W es ms) : JO X T W (.List es pos) (mLst ms) := by
  refine PEimp (pe_lst h) fun σ H Q ⟨e, F, er, h⟩ => ⟨e, F, er, h.bind.mono fun ds e1 H1 F1 er1 mv1 h1 vs hvs => ?_⟩
  unfold opt at h1
  split at h1
  · rename_i d hd
    split at hd
    · rename_i hz
      cases hd
      refine ⟨by rw [← hvs.len]; exact hz, fun p hp => ?_⟩
      exact (h1.new er1 hp) p (mv1.there p hp) (er1.sub.free hp) (Ow.ne_of_free er1 hp) ⟨vs, upd_same, hvs⟩
    · cases hd
  · exact h1.elim
end
end Sr
namespace Sr
variable [TabL]
open PySem PySem.Spec L2
open PyProof.Rows hiding St
section
variable {K : PySem.W.Frag} {mg : Str → Option Value} {F H : Hp}
theorem rp_int {i : Int} {v : V} : Rp K mg F (.int i) v ↔ v = .int i := by unfold Rp; exact Iff.rfl
theorem rp_str {x : Str} {v : V} : Rp K mg F (.str x) v ↔ v = .str x := by unfold Rp; exact Iff.rfl
theorem rp_bl {x : Bool} {v : V} : Rp K mg F (.bl x) v ↔ v = .bl x := by unfold Rp; exact Iff.rfl
theorem rp_non {v : V} : Rp K mg F .non v ↔ v = .non := by unfold Rp; exact Iff.rfl
theorem rp_byt {x : Array UInt8} {v : V} : Rp K mg F (.byt x) v ↔ v = .byt x := by unfold Rp; exact Iff.rfl
theorem rq_int {i : Int} {v : V} : Rq K mg H F (.int i) v ↔ v = .int i := by unfold Rq Rp; exact Iff.rfl
theorem rq_str {x : Str} {v : V} : Rq K mg H F (.str x) v ↔ v = .str x := by unfold Rq Rp; exact Iff.rfl
theorem rq_bl {x : Bool} {v : V} : Rq K mg H F (.bl x) v ↔ v = .bl x := by unfold Rq Rp; exact Iff.rfl
theorem rq_non {v : V} : Rq K mg H F .non v ↔ v = .non := by unfold Rq Rp; exact Iff.rfl
theorem rq_byt {x : Array UInt8} {v : V} : Rq K mg H F (.byt x) v ↔ v = .byt x := by unfold Rq Rp; exact Iff.rfl
theorem rq_tup {ds : List D} {v : V} : Rq K mg H F (.tup ds) v ↔ ∃ a xs, v = .ref a ∧ F a = some (.tup xs) ∧ RpL K mg F ds xs := by
  show Rp K mg F (.tup ds) v ↔ _
  rw [Rp]
theorem rq_scr {ns : List Int} {v : V} : Rq K mg H F (.scr ns) v ↔ ∃ a, v = .ref a ∧ SqL K F a (ns.map V.int) := by
  show Rp K mg F (.scr ns) v ↔ _
  rw [Rp]
theorem rp_lst {ds : List D} {v : V} : Rp K mg F (.lst ds) v ↔ ∃ a xs, v = .ref a ∧ F a = some (.lst xs) ∧ RpL K mg F ds xs := by rw [Rp]
theorem rp_tup {ds : List D} {v : V} : Rp K mg F (.tup ds) v ↔ ∃ a xs, v = .ref a ∧ F a = some (.tup xs) ∧ RpL K mg F ds xs := by rw [Rp]
theorem rp_ct {ds : List D} {v : V} : Rp K mg F (.ct ds) v ↔ ∃ a xs, v = .ref a ∧ SqT K F a xs ∧ RpL K mg F ds xs := by rw [Rp]
theorem rq_ct {ds : List D} {v : V} : Rq K mg H F (.ct ds) v ↔ ∃ a xs, v = .ref a ∧ SqT K F a xs ∧ RpL K mg F ds xs := by
  show Rp K mg F (.ct ds) v ↔ _
  rw [Rp]
theorem rp_dk {ds : List (Key × D)} {v : V} : Rp K mg F (.dk ds) v ↔ ∃ a xs, v = .ref a ∧ Fz F a (.dK xs) ∧ RpK K mg F ds xs := by rw [Rp]
theorem rp_obj {c : Str} {fs : List (Str × D)} {v : V} : Rp K mg F (.obj c fs) v ↔ ∃ a C dx gs, v = .ref a ∧ mg c = some (.ref C) ∧ F a = some (.ins C dx gs) ∧ RpF K mg F fs gs := by rw [Rp]
theorem rp_scr {ns : List Int} {v : V} : Rp K mg F (.scr ns) v ↔ ∃ a, v = .ref a ∧ SqL K F a (ns.map V.int) := by rw [Rp]
theorem RpL.get : ∀ {ds : List D} {xs : List V} {i : Nat} {d : D}, RpL K mg F ds xs → ds[i]? = some d → ∃ v, xs[i]? = some v ∧ Rp K mg F d v
  | [], _, _, _, _, e => by simp at e
  | d :: ds, xs, 0, d', h, e => by
    rw [rl_cons] at h
    obtain ⟨v, vs, rfl, r, _⟩ := h
    simp at e; subst e
    exact ⟨v, rfl, r⟩
  | d :: ds, xs, i + 1, d', h, e => by
    rw [rl_cons] at h
    obtain ⟨v, vs, rfl, _, q⟩ := h
    simp at e
    obtain ⟨w, h1, h2⟩ := RpL.get (i := i) q e
    exact ⟨w, by simpa using h1, h2⟩
theorem RpL.ints : ∀ {ns : List Int} {xs : List V}, RpL K mg F (ns.map D.int) xs → xs = ns.map V.int
  | [], xs, h => by simpa [rl_nil] using h
  | n :: ns, xs, h => by
    rw [List.map_cons, rl_cons] at h
    obtain ⟨v, vs, rfl, r, h⟩ := h
    rw [rp_int] at r; subst r
    rw [RpL.ints h, List.map_cons]
end
section
variable {X : Cx}
def gI (c : Int → Int → Bool) (f : Int → Int → D) : D → D → Option D
  | .int i, .int j => if c i j = true then some (f i j) else none
  | _, _ => none
def gI0 (f : Int → Int → D) : D → D → Option D
  | .int i, .int j => some (f i j)
  | _, _ => none
theorem op2_i {f : Value → Value → Sem Value} {C : Int → Int → Prop} {c : Int → Int → Bool} {g : Int → Int → V} {g' : Int → Int → D} (ho : OpR X f (rI C g)) (hc : ∀ i j, c i j = true → C i j) (hg : ∀ i j F, Rp X.K X.mg F (g' i j) (g i j)) : Op2 X f (gI c g') := by
  intro H F x y d1 d2 d s r1 r2 e
  unfold gI at e
  split at e
  · rename_i i j
    split at e
    · rename_i hcc
      cases e
      rw [rq_int] at r1 r2
      exact ⟨_, ho, fun Q q => ⟨i, j, r1, r2, hc i j hcc, q H F _ Al.refl (hg i j F)⟩⟩
    · cases e
  · cases e
theorem op2_i0 {f : Value → Value → Sem Value} {g : Int → Int → V} {g' : Int → Int → D} (ho : OpR X f (rI0 g)) (hg : ∀ i j F, Rp X.K X.mg F (g' i j) (g i j)) : Op2 X f (gI0 g') := by
  intro H F x y d1 d2 d s r1 r2 e
  unfold gI0 at e
  split at e
  · rename_i i j
    cases e
    rw [rq_int] at r1 r2
    exact ⟨_, ho, fun Q q => ⟨i, j, r1, r2, q H F _ Al.refl (hg i j F)⟩⟩
  · cases e
def gSub : D → D → Option D := gI0 fun i j => .int (i - j)
def cMul (i j : Int) : Bool := (decide (-(2 ^ 64) < i) && decide (i < 2 ^ 64)) || (decide (-(2 ^ 64) < j) && decide (j < 2 ^ 64))
def gMulI : D → D → Option D := gI cMul fun i j => .int (i * j)
def cDiv (_ j : Int) : Bool := decide (0 < j) && decide (j < 1073741824)
def gDiv : D → D → Option D := gI cDiv fun i j => .int (i / j)
def gMod : D → D → Option D := gI (fun _ j => decide (0 < j)) fun i j => .int (i % j)
def cPow (i j : Int) : Bool := decide (0 ≤ j) && decide (j ≤ 1000000) && decide (i.natAbs < 2 ^ 64)
def gPow : D → D → Option D := gI cPow fun i j => .int (i ^ j.toNat)
theorem o_sub : Op2 X (binaryOp .Sub) gSub := op2_i0 op_sub fun _ _ _ => by rw [rp_int]
theorem o_mulI : Op2 X (binaryOp .Mult) gMulI := op2_i op_mul (fun i j h => by
  unfold cMul at h
  simp only [Bool.or_eq_true, Bool.and_eq_true, decide_eq_true_eq] at h
  exact h) fun _ _ _ => by rw [rp_int]
theorem o_div : Op2 X (binaryOp .FloorDiv) gDiv := op2_i op_fdiv (fun i j h => by
  unfold cDiv at h
  simp only [Bool.and_eq_true, decide_eq_true_eq] at h
  exact h) fun _ _ _ => by rw [rp_int]
theorem o_mod : Op2 X (binaryOp .Mod) gMod := op2_i op_mod (fun i j h => of_decide_eq_true h) fun _ _ _ => by rw [rp_int]
theorem o_pow : Op2 X (binaryOp .Pow) gPow := op2_i op_pow (fun i j h => by
  unfold cPow at h
  simp only [Bool.and_eq_true, decide_eq_true_eq] at h
  exact ⟨h.1.1, h.1.2, h.2⟩) fun _ _ _ => by rw [rp_int]
theorem o_lt : Op2 X (compareOp .Lt) (gI0 fun i j => .bl (decide (i < j))) := op2_i0 op_lt fun _ _ _ => by rw [rp_bl]
theorem o_le : Op2 X (compareOp .LtE) (gI0 fun i j => .bl (decide (i ≤ j))) := op2_i0 op_le fun _ _ _ => by rw [rp_bl]
theorem o_gt : Op2 X (compareOp .Gt) (gI0 fun i j => .bl (decide (j < i))) := op2_i0 op_gt fun _ _ _ => by rw [rp_bl]
def gAddI : D → D → Option D := gI0 fun i j => .int (i + j)
def gAddS : D → D → Option D
  | .str x, .str y => if x.length + y.length ≤ sizeLine then some (.str (x ++ y)) else none
  | _, _ => none
def gAddT : D → D → Option D
  | .tup xs, .tup ys => if xs.length + ys.length ≤ sizeLine then some (.tup (xs ++ ys)) else none
  | _, _ => none
def gAddL : D → D → Option D
  | .lst xs, .lst ys => if xs.length + ys.length ≤ sizeLine then some (.lst (xs ++ ys)) else none
  | _, _ => none
theorem o_addI : Op2 X (binaryOp .Add) gAddI := op2_i0 op_add fun _ _ _ => by rw [rp_int]
theorem o_addS : Op2 X (binaryOp .Add) gAddS := by
  intro H F x y d1 d2 d s r1 r2 e
  unfold gAddS at e
  split at e
  · split at e
    · rename_i hz
      cases e
      rw [rq_str] at r1 r2
      exact ⟨_, op_add_str, fun Q q => ⟨_, _, r1, r2, hz, q H F _ Al.refl (by rw [rp_str])⟩⟩
    · cases e
  · cases e
theorem o_addT : Op2 X (binaryOp .Add) gAddT := by
  intro H F x y d1 d2 d s r1 r2 e
  unfold gAddT at e
  split at e
  · split at e
    · rename_i ds es hz
      cases e
      rw [rq_tup] at r1 r2
      obtain ⟨a, xs, rfl, q1, l1⟩ := r1
      obtain ⟨b, ys, rfl, q2, l2⟩ := r2
      have hT : ∀ p, H p = none → Rp X.K X.mg (upd F p (.tup (xs ++ ys))) (.tup (ds ++ es)) (.ref p) := fun p hp => by
        rw [rp_tup]
        exact ⟨p, _, rfl, upd_same, RpL.mono (same_upd (s.free hp)) _ _ (l1.append l2)⟩
      refine ⟨_, op_catA, fun Q q => ⟨a, b, xs, ys, rfl, rfl, seqT_mono s q1, seqT_mono s q2, by rw [← l1.len, ← l2.len]; exact hz, fun e0 => ?_, fun _ e0 => ?_, fun _ _ p hp => q _ _ _ (Al.one hp) (hT p hp)⟩⟩
      · subst e0
        have e1 : ds = [] := List.length_eq_zero_iff.mp (by rw [l1.len]; rfl)
        subst e1
        refine q H F _ Al.refl ?_
        rw [rp_tup]
        exact ⟨b, ys, rfl, q2, l2⟩
      · subst e0
        have e1 : es = [] := List.length_eq_zero_iff.mp (by rw [l2.len]; rfl)
        subst e1
        rw [List.append_nil] at q
        refine q H F _ Al.refl ?_
        rw [rp_tup]
        exact ⟨a, xs, rfl, q1, l1⟩
    · cases e
  · cases e
theorem o_addL : Op2 X (binaryOp .Add) gAddL := by
  intro H F x y d1 d2 d s r1 r2 e
  unfold gAddL at e
  split at e
  · split at e
    · rename_i ds es hz
      cases e
      obtain ⟨a, xs, rfl, q1, l1⟩ := r1
      obtain ⟨b, ys, rfl, q2, l2⟩ := r2
      refine ⟨_, op_cat, fun Q q => ⟨a, b, xs, ys, rfl, rfl, q1, q2, by rw [← l1.len, ← l2.len]; exact hz, fun p hp => q _ _ _ (Al.one hp) ?_⟩⟩
      rw [rp_lst]
      exact ⟨p, _, rfl, upd_same, RpL.mono (same_upd (s.free hp)) _ _ (l1.append l2)⟩
    · cases e
  · cases e
def gAdd : D → D → Option D := fun a b => (gAddI a b).or ((gAddS a b).or ((gAddT a b).or (gAddL a b)))
theorem o_add : Op2 X (binaryOp .Add) gAdd := o_addI.or (o_addS.or (o_addT.or o_addL))
mutual
def toP : D → Option PyData
  | .non => some .none
  | .bl b => some (.bool b)
  | .int i => some (.int i)
  | .str x => some (.str x)
  | .lst ds => (toPL ds).map PyData.list
  | .tup ds => (toPL ds).map PyData.tuple
  | _ => none
def toPL : List D → Option (List PyData)
  | [] => some []
  | d :: ds => (toP d).bind fun p => (toPL ds).map fun ps => p :: ps
end
section
variable {K : PySem.W.Frag} {mg : Str → Option Value} {F H : Hp}
mutual
theorem Rp.dp (s : Same F H) : ∀ (d : D) (v : V) (p : PyData), toP d = some p → Rp K mg F d v → Dp K H v p
  | .non, v, p, e, h => by rw [rp_non] at h; subst h; simp only [toP, Option.some.injEq] at e; subst e; exact .non
  | .bl b, v, p, e, h => by rw [rp_bl] at h; subst h; simp only [toP, Option.some.injEq] at e; subst e; exact .bl b
  | .int i, v, p, e, h => by rw [rp_int] at h; subst h; simp only [toP, Option.some.injEq] at e; subst e; exact .int i
  | .str x, v, p, e, h => by rw [rp_str] at h; subst h; simp only [toP, Option.some.injEq] at e; subst e; exact .str x
  | .lst ds, v, p, e, h => by
    rw [rp_lst] at h
    obtain ⟨a, xs, rfl, q, l⟩ := h
    simp only [toP, Option.map_eq_some_iff] at e
    obtain ⟨ps, e, rfl⟩ := e
    exact .lst (SqL.of (s _ _ q)) (RpL.dp s ds xs ps e l)
  | .tup ds, v, p, e, h => by
    rw [rp_tup] at h
    obtain ⟨a, xs, rfl, q, l⟩ := h
    simp only [toP, Option.map_eq_some_iff] at e
    obtain ⟨ps, e, rfl⟩ := e
    exact .tup (seqT_mono s q) (RpL.dp s ds xs ps e l)
  | .byt _, v, p, e, h => by simp [toP] at e
  | .dk _, v, p, e, h => by simp [toP] at e
  | .dt _, v, p, e, h => by simp [toP] at e
  | .obj _ _, v, p, e, h => by simp [toP] at e
  | .scr _, v, p, e, h => by simp [toP] at e
  | .ct _, v, p, e, h => by simp [toP] at e
theorem RpL.dp (s : Same F H) : ∀ (ds : List D) (xs : List V) (ps : List PyData), toPL ds = some ps → RpL K mg F ds xs → DpAll K H xs ps
  | [], xs, ps, e, h => by rw [rl_nil] at h; subst h; simp only [toPL, Option.some.injEq] at e; subst e; exact .nil
  | d :: ds, xs, ps, e, h => by
    rw [rl_cons] at h
    obtain ⟨v, vs, rfl, r, l⟩ := h
    simp only [toPL, Option.bind_eq_some_iff, Option.map_eq_some_iff] at e
    obtain ⟨p, e1, qs, e2, rfl⟩ := e
    exact .cons (Rp.dp s d v p e1 r) (RpL.dp s ds vs qs e2 l)
end
theorem Rq.dp (s : Same F H) {d : D} {v : V} {p : PyData} (e : toP d = some p) (h : Rq K mg H F d v) : Dp K H v p := by
  cases d with
  | lst ds =>
    obtain ⟨a, xs, rfl, q, l⟩ := h
    simp only [toP, Option.map_eq_some_iff] at e
    obtain ⟨ps, e, rfl⟩ := e
    exact .lst (SqL.of q) (RpL.dp s ds xs ps e l)
  | dk ds => simp [toP] at e
  | dt ds => simp [toP] at e
  | obj c fs => simp [toP] at e
  | dl ks => simp [toP] at e
  | dq ks => simp [toP] at e
  | dn ks => simp [toP] at e
  | _ => exact Rp.dp (mg := mg) s _ _ _ e h
end
def eqS : D → D → Option Bool
  | .int i, .int j => some (decide (i = j))
  | .str i, .str j => some (decide (i = j))
  | .bl i, .bl j => some (decide (i = j))
  | .non, .non => some true
  | .byt i, .byt j => some (decide (i = j))
  | _, _ => none
def eqDeep (a b : D) : Option Bool := match toP a, toP b with
  | some p, some q => if (SeqAt.shaped p && SeqAt.shaped q) = true then some (PyData.eqv p q) else none
  | _, _ => none
def dEq (a b : D) : Option Bool := (eqS a b).or (eqDeep a b)
def gEq (a b : D) : Option D := (dEq a b).map D.bl
def gNe (a b : D) : Option D := (dEq a b).map fun k => D.bl (!k)
theorem eqS_ok {K : PySem.W.Frag} {mg : Str → Option Value} {F H : Hp} {d1 d2 : D} {x y : V} {k : Bool} (r1 : Rq K mg H F d1 x) (r2 : Rq K mg H F d2 y) (e : eqS d1 d2 = some k) : scal x y = true ∧ decide (x = y) = k := by
  unfold eqS at e
  split at e
  · rw [rq_int] at r1 r2; subst r1 r2; cases e; exact ⟨rfl, by simp⟩
  · rw [rq_str] at r1 r2; subst r1 r2; cases e; exact ⟨rfl, by simp⟩
  · rw [rq_bl] at r1 r2; subst r1 r2; cases e; exact ⟨rfl, by simp⟩
  · rw [rq_non] at r1 r2; subst r1 r2; cases e; exact ⟨rfl, by simp⟩
  · rw [rq_byt] at r1 r2; subst r1 r2; cases e; exact ⟨rfl, by simp⟩
  · cases e
theorem eqDeep_ok {K : PySem.W.Frag} {mg : Str → Option Value} {F H : Hp} (s : Same F H) {d1 d2 : D} {x y : V} {k : Bool} (r1 : Rq K mg H F d1 x) (r2 : Rq K mg H F d2 y) (e : eqDeep d1 d2 = some k) : ∃ p q, Dp K H x p ∧ Dp K H y q ∧ SeqAt.shaped p = true ∧ SeqAt.shaped q = true ∧ PyData.eqv p q = k := by
  unfold eqDeep at e
  split at e
  · rename_i p q e1 e2
    split at e
    · rename_i hs
      rw [Bool.and_eq_true] at hs
      exact ⟨p, q, Rq.dp s e1 r1, Rq.dp s e2 r2, hs.1, hs.2, by cases e; rfl⟩
    · cases e
  · cases e
theorem o_eq (hu : X.A.units + 64 < cLine) : Op2 X (compareOp .Eq) gEq := by
  intro H F x y d1 d2 d s r1 r2 e
  simp only [gEq, Option.map_eq_some_iff] at e
  obtain ⟨k, e, rfl⟩ := e
  unfold dEq at e
  cases q : eqS d1 d2 with
  | some k' =>
    rw [q, Option.some_or] at e; cases e
    obtain ⟨h1, h2⟩ := eqS_ok r1 r2 q
    exact ⟨_, op_eq, fun Q q => ⟨h1, by rw [h2]; exact q H F _ Al.refl (by rw [rp_bl])⟩⟩
  | none =>
    rw [q, Option.none_or] at e
    obtain ⟨p, q, h1, h2, h3, h4, h5⟩ := eqDeep_ok s r1 r2 e
    exact ⟨_, op_eqD hu, fun Q qq => ⟨p, q, h1, h2, h3, h4, by rw [h5]; exact qq H F _ Al.refl (by rw [rp_bl])⟩⟩
theorem o_ne (hu : X.A.units + 64 < cLine) : Op2 X (compareOp .NotEq) gNe := by
  intro H F x y d1 d2 d s r1 r2 e
  simp only [gNe, Option.map_eq_some_iff] at e
  obtain ⟨k, e, rfl⟩ := e
  unfold dEq at e
  cases q : eqS d1 d2 with
  | some k' =>
    rw [q, Option.some_or] at e; cases e
    obtain ⟨h1, h2⟩ := eqS_ok r1 r2 q
    exact ⟨_, op_ne, fun Q q => ⟨h1, by rw [h2]; exact q H F _ Al.refl (by rw [rp_bl])⟩⟩
  | none =>
    rw [q, Option.none_or] at e
    obtain ⟨p, q, h1, h2, h3, h4, h5⟩ := eqDeep_ok s r1 r2 e
    exact ⟨_, op_neD hu, fun Q qq => ⟨p, q, h1, h2, h3, h4, by rw [h5]; exact qq H F _ Al.refl (by rw [rp_bl])⟩⟩
def dInts : List D → Option (List Int)
  | [] => some []
  | .int i :: ds => (dInts ds).map fun ns => i :: ns
  | _ => none
theorem dInts_eq : ∀ {ds : List D} {ns : List Int}, dInts ds = some ns → ds = ns.map D.int
  | [], ns, h => by simp only [dInts, Option.some.injEq] at h; subst h; rfl
  | .int i :: ds, ns, h => by
    simp only [dInts, Option.map_eq_some_iff] at h
    obtain ⟨ms, h, rfl⟩ := h
    rw [dInts_eq h]; rfl
  | .non :: _, _, h => by simp [dInts] at h
  | .bl _ :: _, _, h => by simp [dInts] at h
  | .str _ :: _, _, h => by simp [dInts] at h
  | .byt _ :: _, _, h => by simp [dInts] at h
  | .lst _ :: _, _, h => by simp [dInts] at h
  | .tup _ :: _, _, h => by simp [dInts] at h
  | .dk _ :: _, _, h => by simp [dInts] at h
  | .dt _ :: _, _, h => by simp [dInts] at h
  | .obj _ _ :: _, _, h => by simp [dInts] at h
  | .scr _ :: _, _, h => by simp [dInts] at h
  | .ct _ :: _, _, h => by simp [dInts] at h
def gLtT : D → D → Option D
  | .tup xs, .tup ys => match dInts xs, dInts ys with
    | some ns, some ms => some (.bl (HT.lexLt ns ms))
    | _, _ => none
  | _, _ => none
theorem o_ltT (hu : X.A.units < cLine) : Op2 X (compareOp .Lt) gLtT := by
  intro H F x y d1 d2 d s r1 r2 e
  unfold gLtT at e
  split at e
  · split at e
    · rename_i xs ys ns ms e1 e2
      cases e
      rw [rq_tup] at r1 r2
      obtain ⟨a, xs, rfl, q1, l1⟩ := r1
      obtain ⟨b, ys, rfl, q2, l2⟩ := r2
      rw [dInts_eq e1] at l1
      rw [dInts_eq e2] at l2
      have l1 := l1.ints
      have l2 := l2.ints
      subst l1 l2
      exact ⟨_, op_ltT hu, fun Q q => ⟨a, b, ns, ms, rfl, rfl, seqT_mono s q1, seqT_mono s q2, q H F _ Al.refl (by rw [rp_bl])⟩⟩
    · cases e
  · cases e
def isNon : D → Bool
  | .non => true
  | _ => false
end
section
variable {X : Cx} {T : Pn} {W : WX} {pos : Pos} {a b c : Expr} {ma mb mc : M D}
def mIsN (m : M D) : M D := bnd m fun d => ret (.bl (isNon d))
def mNotN (m : M D) : M D := bnd m fun d => ret (.bl (!isNon d))
def gNeg : D → Option D
  | .int i => some (.int (-i))
  | _ => none
theorem jv_neg (ha : JV X T W a ma) : JV X T W (.UnaryOp .USub a pos) (m1 gNeg ma) := by
  refine PEimp (pe_un un_neg ha) fun σ H Q ⟨e, F, er, h⟩ => ⟨e, F, er, h.bind.mono fun d e1 H1 F1 er1 mv1 h1 v hv => ?_⟩
  obtain ⟨z, hz, fin⟩ := h1.fin er1
  cases d <;> cases hz
  rw [rp_int] at hv
  exact ⟨_, hv, fin H1 F1 Al.refl _ (by rw [rp_int])⟩
def Cal (X : Cx) (f : Value) (g : List D → Option D) : Prop :=
  ∀ (H F : Hp) (xs : List V) (ds : List D) (d : D), Same F H → RpL X.K X.mg F ds xs → g ds = some d →
    ∃ r, CallR X f r ∧ ∀ Q : VK, (∀ H' F' z, Al H F H' F' → Rp X.K X.mg F' d z → Q z H') → r xs H Q
def Cal1 (X : Cx) (f : Value) (g : D → Option D) : Prop :=
  ∀ (H F : Hp) (x : V) (d d' : D), Same F H → Rq X.K X.mg H F d x → g d = some d' →
    ∃ r, CallR X f r ∧ ∀ Q : VK, (∀ H' F' z, Al H F H' F' → Rp X.K X.mg F' d' z → Q z H') → r [x] H Q
def rAnyC (X : Cx) (f : Value) : List V → Hp → VK → Prop := fun xs H Q => ∃ r, CallR X f r ∧ r xs H Q
theorem callAny {f : Value} : CallR X f (rAnyC X f) := fun pins s σ H xs us Q I rx ⟨r, hr, q⟩ => hr pins s σ H xs us Q I rx q
def mCal (g : List D → Option D) (ms : M (List D)) : M D := bnd ms fun ds => opt (g ds)
def mCal1 (g : D → Option D) (m : M Bv) : M D := bnd m fun b => bnd (der b) fun d => opt (g d)
theorem runCal {f : Value} {g : List D → Option D} {ms : M (List D)} {σ : St} {H : Hp} {Q : VK} (hc : Cal X f g) (h : TV X.K X.mg T W (mCal g ms) σ H Q) : TAs X.K X.mg T W ms σ H fun vs H1 => rAnyC X f vs H1 Q := by
  obtain ⟨e, F, er, h⟩ := h
  refine ⟨e, F, er, h.bind.mono fun ds e1 H1 F1 er1 mv1 h1 vs hvs => ?_⟩
  obtain ⟨z, hz, fin⟩ := h1.fin er1
  obtain ⟨r, hr, q⟩ := hc H1 F1 vs ds z er1.sub hvs hz
  exact ⟨r, hr, q Q fun H' F' z al hz => fin H' F' al z hz⟩
theorem runCal1 {f : Value} {g : D → Option D} {m : M Bv} {σ : St} {H : Hp} {Q : VK} (hc : Cal1 X f g) (h : TV X.K X.mg T W (mCal1 g m) σ H Q) : TBw X.K X.mg T W m σ H fun v H1 => rAnyC X f [v] H1 Q := by
  obtain ⟨e, F, er, h⟩ := h
  refine ⟨e, F, er, h.bind.mono fun b e1 H1 F1 er1 mv1 h1 v hv => ?_⟩
  obtain ⟨d, r1, h3⟩ := der_fin h1.bind er1 hv
  obtain ⟨z, hz, fin⟩ := h3.fin er1
  obtain ⟨r, hr, q⟩ := hc H1 F1 v d z er1.sub r1 hz
  exact ⟨r, hr, q Q fun H' F' z al hz => fin H' F' al z hz⟩
section
variable {x : Str} {p : Pos} {e : Expr} {es : List Expr} {id : String} {ms : M (List D)} {g : List D → Option D} {g1 : D → Option D} {mb1 : M Bv}
theorem jv_callB (hc : Cal X (.builtin id) g) (hg : Gl X x) (hm : X.mg x = none) (hv : bootBuiltins x = some (.builtin id)) (ha : JA X T W (e :: es) ms) (hn : x ≠ "__name__" := by decide) (hdb : (x == ("__debug__" : Str)) = false := by decide)
    (he : starEach (e :: es) X.env = (false, eval e X.env) :: starEach es X.env := by rfl) (hpl : (backTo pos (starEach es X.env)).any (·.1) = false := by rfl) : JV X T W (.Call (.Name x p) (e :: es) [] pos) (mCal g ms) :=
  PEimp (pe_callB callAny hg hm hv ha hn hdb he hpl) fun σ H Q h => runCal hc h
theorem jv_callTy (hc : Cal X (.type id) g) (hg : Gl X x) (hm : X.mg x = none) (hv : bootBuiltins x = some (.type id)) (ha : JA X T W (e :: es) ms) (hn : x ≠ "__name__" := by decide) (hdb : (x == ("__debug__" : Str)) = false := by decide)
    (he : starEach (e :: es) X.env = (false, eval e X.env) :: starEach es X.env := by rfl) (hpl : (backTo pos (starEach es X.env)).any (·.1) = false := by rfl) : JV X T W (.Call (.Name x p) (e :: es) [] pos) (mCal g ms) :=
  PEimp (pe_callTy callAny hg hm hv ha hn hdb he hpl) fun σ H Q h => runCal hc h
theorem jv_callB1 (hc : Cal1 X (.builtin id) g1) (hg : Gl X x) (hm : X.mg x = none) (hv : bootBuiltins x = some (.builtin id)) (ha : JB X T W e mb1) (hn : x ≠ "__name__" := by decide) (hdb : (x == ("__debug__" : Str)) = false := by decide)
    (he : starEach [e] X.env = (false, eval e X.env) :: starEach [] X.env := by rfl) : JV X T W (.Call (.Name x p) [e] [] pos) (mCal1 g1 mb1) :=
  PEimp (pe_callB callAny hg hm hv (pa_cons ha pa_nil he) hn hdb he rfl) fun σ H Q h => runCal1 hc h
theorem jv_callTy1 (hc : Cal1 X (.type id) g1) (hg : Gl X x) (hm : X.mg x = none) (hv : bootBuiltins x = some (.type id)) (ha : JB X T W e mb1) (hn : x ≠ "__name__" := by decide) (hdb : (x == ("__debug__" : Str)) = false := by decide)
    (he : starEach [e] X.env = (false, eval e X.env) :: starEach [] X.env := by rfl) : JV X T W (.Call (.Name x p) [e] [] pos) (mCal1 g1 mb1) :=
  PEimp (pe_callTy callAny hg hm hv (pa_cons ha pa_nil he) hn hdb he rfl) fun σ H Q h => runCal1 hc h
end
def gLen : D → Option D
  | .str y => if y.length ≤ sizeLine then some (.int y.length) else none
  | .byt y => if y.size ≤ sizeLine then some (.int y.size) else none
  | .lst ds => some (.int ds.length)
  | .tup ds => some (.int ds.length)
  | .dk ds => some (.int ds.length)
  | .scr ns => some (.int ns.length)
  | _ => none
theorem call_lenR : CallR X (.builtin "len") (fun xs H Q => ∃ a kvs, xs = [.ref a] ∧ Rd H a (.dK kvs) ∧ Q (.int (kvs.length : Nat)) H) := by
  intro pins s σ H xs us Q I r h
  obtain ⟨a, kvs, rfl, ha, q⟩ := h
  obtain ⟨u, rfl, rx⟩ := vals1 r
  obtain rfl : u = Value.ref a := rx
  exact d_len I ha fun t s' I' => ⟨.int kvs.length, H, I', ⟨t, rfl⟩, q⟩
theorem c_len : Cal1 X (.builtin "len") gLen := by
  intro H F x d d' s r e
  cases d <;> simp only [gLen, reduceCtorEq] at e
  · rw [rq_str] at r; subst r
    split at e
    · rename_i hz; cases e
      exact ⟨_, call_len, fun Q q => ⟨_, _, rfl, ⟨hz, rfl⟩, q H F _ Al.refl (by rw [rp_int])⟩⟩
    · cases e
  · rw [rq_byt] at r; subst r
    split at e
    · rename_i hz; cases e
      exact ⟨_, call_len, fun Q q => ⟨_, _, rfl, ⟨hz, rfl⟩, q H F _ Al.refl (by rw [rp_int])⟩⟩
    · cases e
  · obtain ⟨a, xs, rfl, q, l⟩ := r
    cases e
    exact ⟨_, call_len, fun Q qq => ⟨_, _, rfl, .inl ⟨xs, SqL.of q, rfl⟩, qq H F _ Al.refl (by rw [rp_int, l.len])⟩⟩
  · rw [rq_tup] at r
    obtain ⟨a, xs, rfl, q, l⟩ := r
    cases e
    exact ⟨_, call_len, fun Q qq => ⟨_, _, rfl, .inr ⟨xs, seqT_mono s q, rfl⟩, qq H F _ Al.refl (by rw [rp_int, l.len])⟩⟩
  · obtain ⟨a, xs, rfl, q, l⟩ := r
    cases e
    exact ⟨_, call_lenR, fun Q qq => ⟨a, xs, rfl, q, qq H F _ Al.refl (by rw [rp_int, l.len])⟩⟩
  · rw [rq_scr] at r
    obtain ⟨a, rfl, q⟩ := r
    cases e
    exact ⟨_, call_len, fun Q qq => ⟨_, _, rfl, .inl ⟨_, s.seq q, rfl⟩, qq H F _ Al.refl (by rw [rp_int, List.length_map])⟩⟩
def gInt1 : List D → Option D
  | [.int i] => some (.int i)
  | [.bl k] => some (.int (if k then 1 else 0))
  | _ => none
theorem rl_one {K : PySem.W.Frag} {mg : Str → Option Value} {F : Hp} {d : D} {xs : List V} (h : RpL K mg F [d] xs) : ∃ v, xs = [v] ∧ Rp K mg F d v := by
  rw [rl_cons] at h
  obtain ⟨v, vs, rfl, r, h⟩ := h
  rw [rl_nil] at h; subst h
  exact ⟨v, rfl, r⟩
theorem rl_two {K : PySem.W.Frag} {mg : Str → Option Value} {F : Hp} {d d' : D} {xs : List V} (h : RpL K mg F [d, d'] xs) : ∃ v w, xs = [v, w] ∧ Rp K mg F d v ∧ Rp K mg F d' w := by
  rw [rl_cons] at h
  obtain ⟨v, vs, rfl, r, h⟩ := h
  obtain ⟨w, rfl, r'⟩ := rl_one h
  exact ⟨v, w, rfl, r, r'⟩
theorem c_int : Cal X (.type "int") gInt1 := by
  intro H F xs ds d s r e
  unfold gInt1 at e
  split at e
  · cases e
    obtain ⟨v, rfl, r0⟩ := rl_one r
    rw [rp_int] at r0; subst r0
    exact ⟨_, call_int1, fun Q q => .inl ⟨_, rfl, q H F _ Al.refl (by rw [rp_int])⟩⟩
  · cases e
    obtain ⟨v, rfl, r0⟩ := rl_one r
    rw [rp_bl] at r0; subst r0
    exact ⟨_, call_int1, fun Q q => .inr ⟨_, rfl, q H F _ Al.refl (by rw [rp_int])⟩⟩
  · cases e
def gMax2 : List D → Option D
  | [.int i, .int j] => some (.int (if j > i then j else i))
  | _ => none
def gMin2 : List D → Option D
  | [.int i, .int j] => some (.int (if j < i then j else i))
  | _ => none
def gAbs : List D → Option D
  | [.int i] => some (.int (if i < 0 then -i else i))
  | _ => none
theorem c_max (hc : X.calm = true) : Cal X (.builtin "max") gMax2 := by
  intro H F xs ds d s r e
  unfold gMax2 at e
  split at e
  · cases e
    obtain ⟨v, w, rfl, r0, r'⟩ := rl_two r
    rw [rp_int] at r0 r'; subst r0 r'
    exact ⟨_, call_max2 hc, fun Q q => ⟨_, _, rfl, q H F _ Al.refl (by rw [rp_int])⟩⟩
  · cases e
theorem c_min (hc : X.calm = true) : Cal X (.builtin "min") gMin2 := by
  intro H F xs ds d s r e
  unfold gMin2 at e
  split at e
  · cases e
    obtain ⟨v, w, rfl, r0, r'⟩ := rl_two r
    rw [rp_int] at r0 r'; subst r0 r'
    exact ⟨_, call_min2 hc, fun Q q => ⟨_, _, rfl, q H F _ Al.refl (by rw [rp_int])⟩⟩
  · cases e
def gIx : D → D → Option D
  | .lst ds, .int i => atI ds i
  | .tup ds, .int i => atI ds i
  | .str z, .int i => if z.length ≤ sizeLine then (atI z.cps.toList i).map fun c => .str ⟨#[c]⟩ else none
  | .scr ns, .int i => (atI ns i).map D.int
  | .ct ds, .int i => atI ds i
  | _, _ => none
theorem RpL.atI {K : PySem.W.Frag} {mg : Str → Option Value} {F : Hp} {ds : List D} {xs : List V} {i : Int} {d : D} (l : RpL K mg F ds xs) (h : L2.atI ds i = some d) : ∃ v, L2.atI xs i = some v ∧ Rp K mg F d v := by
  unfold L2.atI at h ⊢
  rw [← l.len]
  cases q : ixN ds.length i with
  | none => rw [q] at h; cases h
  | some j => rw [q] at h; exact l.get h
theorem atI_map {A B : Type} (f : A → B) (xs : List A) (i : Int) : L2.atI (xs.map f) i = (L2.atI xs i).map f := by
  unfold L2.atI
  rw [List.length_map]
  cases ixN xs.length i with
  | none => rfl
  | some j => simp
theorem ix_data {H F : Hp} {d1 d2 d : D} {x y : V} (s : Same F H) (r1 : Rq X.K X.mg H F d1 x) (r2 : Rq X.K X.mg H F d2 y) (e : gIx d1 d2 = some d) (Q : VK) (q : ∀ z, Rp X.K X.mg F d z → Q z H) : L2.rIx X.K x y H Q := by
  unfold gIx at e
  split at e
  · obtain ⟨a, xs, rfl, h, l⟩ := r1
    rw [rq_int] at r2
    obtain ⟨v, h1, h2⟩ := l.atI e
    exact .inl ⟨a, xs, _, v, rfl, r2, SqL.of h, h1, q v h2⟩
  · rw [rq_tup] at r1
    obtain ⟨a, xs, rfl, h, l⟩ := r1
    rw [rq_int] at r2
    obtain ⟨v, h1, h2⟩ := l.atI e
    exact .inr (.inl ⟨a, xs, _, v, rfl, r2, seqT_mono s h, h1, q v h2⟩)
  · split at e
    · rename_i hz
      rw [Option.map_eq_some_iff] at e
      obtain ⟨c, e, rfl⟩ := e
      rw [rq_str] at r1
      rw [rq_int] at r2
      exact .inr (.inr ⟨_, _, c, r1, r2, hz, e, q _ (by rw [rp_str])⟩)
    · cases e
  · rw [rq_scr] at r1
    obtain ⟨a, rfl, h⟩ := r1
    rw [rq_int] at r2
    rw [Option.map_eq_some_iff] at e
    obtain ⟨n, e, rfl⟩ := e
    exact .inl ⟨a, _, _, .int n, rfl, r2, s.seq h, by rw [atI_map, e]; rfl, q _ (by rw [rp_int])⟩
  · rw [rq_ct] at r1
    obtain ⟨a, xs, rfl, h, l⟩ := r1
    rw [rq_int] at r2
    obtain ⟨v, h1, h2⟩ := l.atI e
    exact .inr (.inl ⟨a, xs, _, v, rfl, r2, seqC_mono s h, h1, q v h2⟩)
  · cases e
theorem jv_ixB {m1 : M Bv} (ha : JB X T W a m1) (hb : JV X T W b mb) (hs : PlainIx b := by intro _ _; rfl) : JV X T W (.Subscript a b pos) (m2b gIx m1 mb) := by
  refine PEimp (pe_ix ix_seq ha hb hs) fun σ H Q ⟨e, F, er, h⟩ => ⟨e, F, er, h.bind.mono fun b1 e1 H1 F1 er1 mv1 h1 v hv => ⟨e1, F1, er1, h1.bind.mono fun d2 e2 H2 F2 er2 mv2 h2 w hw => ?_⟩⟩
  obtain ⟨d1, r1, h3⟩ := der_fin h2.bind er2 (hv.mono mv2.sub)
  obtain ⟨d, hd, fin⟩ := h3.fin er2
  exact ix_data er2.sub r1 (Rp.rq er2.sub hw) hd Q fun z hz => fin H2 F2 Al.refl z hz
theorem jv_ix (ha : JV X T W a ma) (hb : JV X T W b mb) (hs : PlainIx b := by intro _ _; rfl) : JV X T W (.Subscript a b pos) (m2 gIx ma mb) := by
  refine PEimp (pe_ix ix_seq ha hb hs) fun σ H Q ⟨e, F, er, h⟩ => ⟨e, F, er, h.bind.mono fun d1 e1 H1 F1 er1 mv1 h1 v hv => ⟨e1, F1, er1, h1.bind.mono fun d2 e2 H2 F2 er2 mv2 h2 w hw => ?_⟩⟩
  obtain ⟨d, hd, fin⟩ := h2.fin er2
  exact ix_data er2.sub (Rp.rq er2.sub (Rp.mono mv2.sub _ _ hv)) (Rp.rq er2.sub hw) hd Q fun z hz => fin H2 F2 Al.refl z hz
end
end Sr
namespace Sr
variable [TabL]
open PySem PySem.Spec L2
open PyProof.Rows hiding St
section
variable (K : PySem.W.Frag) (mg : Str → Option Value) (T : Pn) (W : WX)
def TSt (s : M Fl) : TS := fun Dn σ H => ∃ e F, ER K mg T e σ H F ∧ RunS K mg T W e F s σ H Dn
end
abbrev JS (X : Cx) (T : Pn) (W : WX) (st : Stmt) (m : M Fl) : Prop := PS X st (TSt X.K X.mg T W m)
abbrev JSs (X : Cx) (T : Pn) (W : WX) (st : List Stmt) (m : M Fl) : Prop := PSs X st (TSt X.K X.mg T W m)
theorem PSimp {X : Cx} {e : Stmt} {t t' : TS} (h : PS X e t) (k : ∀ D σ H, t' D σ H → t D σ H) : PS X e t' := ⟨fun pins s σ H D I q => h.run pins s σ H D I (k D σ H q)⟩
theorem PSsimp {X : Cx} {e : List Stmt} {t t' : TS} (h : PSs X e t) (k : ∀ D σ H, t' D σ H → t D σ H) : PSs X e t' := ⟨fun pins s σ H D I q => h.run pins s σ H D I (k D σ H q)⟩
section
variable {K : PySem.W.Frag} {mg : Str → Option Value} {T : Pn} {W : WX} {e e1 : En} {σ σ1 : St} {H F H1 F1 : Hp} {A : Type}
theorem Mv.newO (mv : Mv e σ H F e1 σ1 H1 F1) {p : Addr} (h : H1 p = none ∨ Ow e1 σ1 p) : H p = none ∨ Ow e σ p := by
  rcases h with h | h
  · exact .inl (mv.there p h)
  · cases q : H p with
    | none => exact .inl rfl
    | some o =>
      by_cases w : Ow e σ p
      · exact .inr w
      · exact absurd h (mv.keep p o q w).2
theorem RunS.after {s s' : M Fl} {Dn : Ends} (h : RunS K mg T W e F s σ H Dn) (hs : s e = s' e1) (mv : Mv e σ H F e1 σ1 H1 F1) : RunS K mg T W e1 F1 s' σ1 H1 Dn := by
  unfold RunS at h ⊢
  rw [hs] at h
  cases q : s' e1 with
  | ok fl e2 =>
    rw [q] at h
    cases fl with
    | nx => exact fun σ' H' F' er mv' => h σ' H' F' er (mv.trans mv')
    | rt d => exact fun σ' H' F' v er mv' => h σ' H' F' v er (mv.trans mv')
    | ro d => exact fun σ' H' F' p er mv' hp => h σ' H' F' p er (mv.trans mv') (mv.newO hp)
    | bk => exact fun σ' H' F' er mv' => h σ' H' F' er (mv.trans mv')
    | ct => exact fun σ' H' F' er mv' => h σ' H' F' er (mv.trans mv')
  | exc x e2 => rw [q] at h; exact fun σ' H' F' cl dd er mv' => h σ' H' F' cl dd er (mv.trans mv')
  | bad => rw [q] at h; exact h
theorem RunS.bind {m : M A} {f : A → M Fl} {Dn : Ends} (h : RunS K mg T W e F (bnd m f) σ H Dn) : RunAt K mg T W e F m σ H fun a e1 H1 F1 => RunS K mg T W e1 F1 (f a) σ H1 Dn := by
  unfold RunAt
  cases q : m e with
  | ok a e1 =>
    intro H1 F1 er1 mv1
    exact h.after (by unfold bnd; rw [q]) mv1
  | exc x e1 =>
    unfold RunS bnd at h
    rw [q] at h
    exact fun H' F' cl dd er mv xr => h σ H' F' cl dd er mv xr
  | bad => unfold RunS bnd at h; rw [q] at h; exact h
end
section
variable {X : Cx} {T : Pn} {W : WX} {pos : Pos} {a b c : Expr} {ma mb mc : M D} {st : Stmt} {rest sa sb : List Stmt} {s u : M Fl}
def skp : M Fl := ret .nx
def sq (s u : M Fl) : M Fl := fun e => match s e with
  | .ok .nx e1 => u e1
  | o => o
theorem js_nil : JSs X T W [] skp := PSsimp pss_nil fun D σ H ⟨e, F, er, h⟩ => h σ H F er Mv.refl
theorem js_cons (h1 : JS X T W st s) (h2 : JSs X T W rest u) : JSs X T W (st :: rest) (sq s u) := by
  refine PSsimp (pss_cons h1 h2) fun D σ H ⟨e, F, er, h⟩ => ⟨e, F, er, ?_⟩
  unfold RunS
  cases q : s e with
  | ok fl e1 =>
    cases fl with
    | nx => exact fun σ' H' F' er' mv => ⟨e1, F', er', h.after (by unfold sq; rw [q]) mv⟩
    | rt d => unfold RunS sq at h; rw [q] at h; exact h
    | ro d => unfold RunS sq at h; rw [q] at h; exact h
    | bk => unfold RunS sq at h; rw [q] at h; exact h
    | ct => unfold RunS sq at h; rw [q] at h; exact h
  | exc x e1 => unfold RunS sq at h; rw [q] at h; exact h
  | bad => unfold RunS sq at h; rw [q] at h; exact h
theorem js_one (h1 : JS X T W st s) : JSs X T W [st] s := pss_one h1
def sDrop (m : M D) : M Fl := bnd m fun _ => skp
theorem js_expr (ha : JV X T W a ma) (hs : swapsWith a none pos.line X.env = pure false := by rfl) : JS X T W (.Expr a pos) (sDrop ma) :=
  PSimp (ps_expr ha hs) fun D σ H ⟨e, F, er, h⟩ => ⟨e, F, er, h.bind.mono fun d e1 H1 F1 er1 mv1 h1 v hv => h1 σ H1 F1 er1 Mv.refl⟩
def sRet (m : M D) : M Fl := bnd m fun d => ret (.rt d)
def sRetO (m : M D) : M Fl := bnd m fun d => ret (.ro d)
theorem js_ret (ha : JV X T W a ma) : JS X T W (.Return (some a) pos) (sRet ma) :=
  PSimp (ps_ret ha) fun D σ H ⟨e, F, er, h⟩ => ⟨e, F, er, h.bind.mono fun d e1 H1 F1 er1 mv1 h1 v hv => h1 σ H1 F1 v er1 Mv.refl hv⟩
theorem js_retO (ha : JO X T W a ma) : JS X T W (.Return (some a) pos) (sRetO ma) :=
  PSimp (ps_ret ha) fun D σ H ⟨e, F, er, h⟩ => ⟨e, F, er, by
    unfold RunAt
    cases q : ma e with
    | ok d e1 =>
      intro H1 F1 er1 mv1 p hp fp np ow
      unfold RunS sRetO bnd ret at h
      rw [q] at h
      exact h σ H1 F1 p er1 mv1 (.inl hp) fp np ow
    | exc x e1 => unfold RunS sRetO bnd at h; rw [q] at h; exact fun H' F' cl dd er mv xr => h σ H' F' cl dd er mv xr
    | bad => unfold RunS sRetO bnd at h; rw [q] at h; exact h⟩
def sIf (n : M Bool) (s u : M Fl) : M Fl := bnd n fun k => if k = true then s else u
theorem js_if {n : M Bool} (hc : JT X T W c n) (ha : JSs X T W sa s) (hb : JSs X T W sb u) : JS X T W (.If c sa sb pos) (sIf n s u) := by
  refine PSimp (ps_if hc ha hb) fun D σ H ⟨e, F, er, h⟩ => ⟨e, F, er, h.bind.mono fun k e1 H1 F1 er1 mv1 h1 => ?_⟩
  cases k with
  | true => rw [if_pos rfl] at h1 ⊢; exact ⟨e1, F1, er1, h1⟩
  | false => rw [if_neg (by decide)] at h1 ⊢; exact ⟨e1, F1, er1, h1⟩
theorem ER.setV {K : PySem.W.Frag} {mg : Str → Option Value} {e : En} {σ : St} {H F : Hp} {i : Nat} {d : D} {v : V} (er : ER K mg T e σ H F) (hT : NoP T i) (r : Rp K mg F d v) :
    ER K mg T (e.set i (.val d)) (σ.set i (some v)) H F ∧ Mv e σ H F (e.set i (.val d)) (σ.set i (some v)) H F := by
  have ow : ∀ (j : Nat) (x : D), (e.set i (Sl.val d))[j]? = some (.own x) → e[j]? = some (.own x) ∧ j ≠ i := fun j x q => by
    by_cases hj : j = i
    · subst hj
      by_cases hl : j < e.length
      · rw [List.getElem?_set_self hl] at q; cases q
      · rw [List.getElem?_eq_none (by rw [List.length_set]; omega)] at q; cases q
    · rw [List.getElem?_set_ne (Ne.symm hj)] at q; exact ⟨q, hj⟩
  refine ⟨⟨er.sub, fun j x q => ?_, fun j x q => ?_, fun j k p x y q1 q2 q3 q4 => ?_, by rw [List.length_set, List.length_set]; exact er.len, fun p hp => ?_, er.tb⟩, Same.refl _, fun a o q n => ⟨fun _ => q, ?_⟩, fun a o q => .inl q, fun a q => q⟩
  · by_cases hj : j = i
    · subst hj
      by_cases hl : j < e.length
      · rw [List.getElem?_set_self hl] at q; cases q
        exact ⟨v, List.getElem?_set_self (by rw [← er.len]; exact hl), r⟩
      · rw [List.getElem?_eq_none (by rw [List.length_set]; omega)] at q; cases q
    · rw [List.getElem?_set_ne (Ne.symm hj)] at q
      obtain ⟨w, h1, h2⟩ := er.val j x q
      exact ⟨w, by rw [List.getElem?_set_ne (Ne.symm hj)]; exact h1, h2⟩
  · obtain ⟨q, hj⟩ := ow j x q
    obtain ⟨p, h1, h2, h3⟩ := er.own j x q
    exact ⟨p, by rw [List.getElem?_set_ne (Ne.symm hj)]; exact h1, h2, h3⟩
  · obtain ⟨q1, hj⟩ := ow j x q1
    obtain ⟨q2, hk⟩ := ow k y q2
    rw [List.getElem?_set_ne (Ne.symm hj)] at q3
    rw [List.getElem?_set_ne (Ne.symm hk)] at q4
    exact er.inj j k p x y q1 q2 q3 q4
  · exact (er.pin p hp).slot (List.getElem?_set_ne (Ne.symm (hT p hp)))
  · rintro ⟨j, x, q1, q2⟩
    obtain ⟨q1, hj⟩ := ow j x q1
    rw [List.getElem?_set_ne (Ne.symm hj)] at q2
    exact n ⟨j, x, q1, q2⟩
theorem ER.setO {K : PySem.W.Frag} {mg : Str → Option Value} {e : En} {σ : St} {H F H0 : Hp} {i : Nat} {d : D} {p : Addr} (er : ER K mg T e σ H F) (hT : NoP T i) (fp : F p = none) (np : ¬ Ow e σ p) (ow : OwnAt K mg H F p d) :
    ER K mg T (e.set i (.own d)) (σ.set i (some (.ref p))) H F ∧ ∀ {e0 : En} {σ0 : St} {F0 : Hp}, H0 p = none → Mv e0 σ0 H0 F0 e σ H F → Mv e0 σ0 H0 F0 (e.set i (.own d)) (σ.set i (some (.ref p))) H F := by
  have own : ∀ (j : Nat) (x : D), (e.set i (Sl.own d))[j]? = some (.own x) → (j ≠ i ∧ e[j]? = some (.own x)) ∨ (j = i ∧ x = d ∧ i < e.length) := fun j x q => by
    by_cases hj : j = i
    · subst hj
      by_cases hl : j < e.length
      · rw [List.getElem?_set_self hl] at q; cases q; exact .inr ⟨rfl, rfl, hl⟩
      · rw [List.getElem?_eq_none (by rw [List.length_set]; omega)] at q; cases q
    · rw [List.getElem?_set_ne (Ne.symm hj)] at q; exact .inl ⟨hj, q⟩
  refine ⟨⟨er.sub, fun j x q => ?_, fun j x q => ?_, fun j k p' x y q1 q2 q3 q4 => ?_, by rw [List.length_set, List.length_set]; exact er.len, fun p hp => ?_, er.tb⟩, fun {e0 σ0 F0} hp mv => ⟨mv.sub, fun a o q n => ?_, mv.new, mv.there⟩⟩
  · have hj : j ≠ i := by
      rintro rfl
      by_cases hl : j < e.length
      · rw [List.getElem?_set_self hl] at q; cases q
      · rw [List.getElem?_eq_none (by rw [List.length_set]; omega)] at q; cases q
    rw [List.getElem?_set_ne (Ne.symm hj)] at q
    obtain ⟨w, h1, h2⟩ := er.val j x q
    exact ⟨w, by rw [List.getElem?_set_ne (Ne.symm hj)]; exact h1, h2⟩
  · rcases own j x q with ⟨hj, q⟩ | ⟨rfl, rfl, hl⟩
    · obtain ⟨p', h1, h2, h3⟩ := er.own j x q
      exact ⟨p', by rw [List.getElem?_set_ne (Ne.symm hj)]; exact h1, h2, h3⟩
    · exact ⟨p, List.getElem?_set_self (by rw [← er.len]; exact hl), fp, ow⟩
  · rcases own j x q1 with ⟨hj, w1⟩ | ⟨hj, _, hl⟩
    · rw [List.getElem?_set_ne (Ne.symm hj)] at q3
      rcases own k y q2 with ⟨hk, w2⟩ | ⟨hk, _, hl⟩
      · rw [List.getElem?_set_ne (Ne.symm hk)] at q4
        exact er.inj j k p' x y w1 w2 q3 q4
      · rw [hk, List.getElem?_set_self (by rw [← er.len]; exact hl)] at q4
        cases q4
        exact (np ⟨j, x, w1, q3⟩).elim
    · rcases own k y q2 with ⟨hk, w2⟩ | ⟨hk, _, hl2⟩
      · rw [List.getElem?_set_ne (Ne.symm hk)] at q4
        rw [hj, List.getElem?_set_self (by rw [← er.len]; exact hl)] at q3
        cases q3
        exact (np ⟨k, y, w2, q4⟩).elim
      · rw [hj, hk]
  · exact (er.pin p hp).slot (List.getElem?_set_ne (Ne.symm (hT p hp)))
  · obtain ⟨h1, h2⟩ := mv.keep a o q n
    refine ⟨h1, ?_⟩
    rintro ⟨j, x, q1, q2⟩
    rcases own j x q1 with ⟨hj, q1⟩ | ⟨rfl, rfl, hl⟩
    · rw [List.getElem?_set_ne (Ne.symm hj)] at q2
      exact h2 ⟨j, x, q1, q2⟩
    · rw [List.getElem?_set_self (by rw [← er.len]; exact hl)] at q2
      cases q2
      rw [hp] at q; cases q
def sSet (i : Nat) (m : M D) : M Fl := bnd m fun d e => .ok .nx (e.set i (.val d))
def sSetO (i : Nat) (m : M D) : M Fl := bnd m fun d e => .ok .nx (e.set i (.own d))
theorem run_set {i : Nat} {Dn : Ends} {σ : St} {H : Hp} (hT : NoP T i) (h : TSt X.K X.mg T W (sSet i ma) Dn σ H) : tAsg (TV X.K X.mg T W ma) (gName i) Dn σ H := by
  obtain ⟨e, F, er, h⟩ := h
  refine ⟨e, F, er, h.bind.mono fun d e1 H1 F1 er1 mv1 h1 v hv => ?_⟩
  obtain ⟨er2, mv2⟩ := er1.setV hT hv
  exact h1 _ H1 F1 er2 mv2
theorem run_setO {i : Nat} {Dn : Ends} {σ : St} {H : Hp} (hT : NoP T i) (h : TSt X.K X.mg T W (sSetO i ma) Dn σ H) : tAsg (TO X.K X.mg T W ma) (gName i) Dn σ H := by
  obtain ⟨e, F, er, h⟩ := h
  refine ⟨e, F, er, ?_⟩
  unfold RunAt
  cases q : ma e with
  | ok d e1 =>
    intro H1 F1 er1 mv1 p hp fp np ow
    obtain ⟨er2, mv2⟩ := er1.setO (H0 := H) hT fp np ow
    unfold RunS sSetO bnd at h
    rw [q] at h
    exact h _ H1 F1 er2 (mv2 hp mv1)
  | exc x e1 => unfold RunS sSetO bnd at h; rw [q] at h; exact fun H' F' cl dd er mv xr => h σ H' F' cl dd er mv xr
  | bad => unfold RunS sSetO bnd at h; rw [q] at h; exact h
theorem js_set {i : Nat} {x : Str} {pos' : Pos} (hT : NoP T i) (hN : X.N.Nodup) (hi : X.N[i]? = some x) (hx : Loc X.env.scope x) (ha : JV X T W a ma) (hs : swapsWith a (some (.Name x pos')) pos.line X.env = pure false := by rfl) (hf : X.fn x = true ∨ X.env.scope.names.lookup x = some .local := by first | exact .inl rfl | exact .inr rfl | assumption) :
    JS X T W (.Assign [.Name x pos'] a pos) (sSet i ma) := PSimp (ps_set hN hi hx ha hs hf) fun D σ H h => run_set hT h
theorem js_setO {i : Nat} {x : Str} {pos' : Pos} (hT : NoP T i) (hN : X.N.Nodup) (hi : X.N[i]? = some x) (hx : Loc X.env.scope x) (ha : JO X T W a ma) (hs : swapsWith a (some (.Name x pos')) pos.line X.env = pure false := by rfl) (hf : X.fn x = true ∨ X.env.scope.names.lookup x = some .local := by first | exact .inl rfl | exact .inr rfl | assumption) :
    JS X T W (.Assign [.Name x pos'] a pos) (sSetO i ma) := PSimp (ps_set hN hi hx ha hs hf) fun D σ H h => run_setO hT h
def TG' (K : PySem.W.Frag) (mg : Str → Option Value) (T : Pn) (W : WX) (w : D → M Unit) : TG := fun v σ H Q => ∃ e F d, ER K mg T e σ H F ∧ Rp K mg F d v ∧
  match w d e with
  | .ok _ e' => ∀ σ' H' F', ER K mg T e' σ' H' F' → Mv e σ H F e' σ' H' F' → Q σ' H'
  | _ => False
def TGs' (K : PySem.W.Frag) (mg : Str → Option Value) (T : Pn) (W : WX) (w : List D → M Unit) : TGs := fun vs σ H Q => ∃ e F ds, ER K mg T e σ H F ∧ RpL K mg F ds vs ∧
  match w ds e with
  | .ok _ e' => ∀ σ' H' F', ER K mg T e' σ' H' F' → Mv e σ H F e' σ' H' F' → Q σ' H'
  | _ => False
abbrev JG (X : Cx) (T : Pn) (W : WX) (tg : Expr) (w : D → M Unit) : Prop := PG X tg (TG' X.K X.mg T W w)
abbrev JGs (X : Cx) (T : Pn) (W : WX) (tg : List Expr) (w : List D → M Unit) : Prop := PGs X tg (TGs' X.K X.mg T W w)
def gN (i : Nat) : D → M Unit := fun d e => .ok () (e.set i (.val d))
def gsN : List D → M Unit
  | [] => ret ()
  | _ => fun _ => .bad
def gsC (w : D → M Unit) (ws : List D → M Unit) : List D → M Unit
  | d :: ds => bnd (w d) fun _ => ws ds
  | [] => fun _ => .bad
def gT (n : Nat) (ws : List D → M Unit) : D → M Unit
  | .tup ds => if ds.length = n then ws ds else fun _ => .bad
  | .ct ds => if ds.length = n then ws ds else fun _ => .bad
  | _ => fun _ => .bad
theorem jg_name {i : Nat} {x : Str} (hT : NoP T i) (hN : X.N.Nodup) (hi : X.N[i]? = some x) (hx : Loc X.env.scope x) (hf : X.fn x = true ∨ X.env.scope.names.lookup x = some .local := by first | exact .inl rfl | exact .inr rfl | assumption) : JG X T W (.Name x pos) (gN i) := by
  refine ⟨fun pins s σ H v u Q I r h => (pg_name hN hi hx hf).run pins s σ H v u Q I r ?_⟩
  obtain ⟨e, F, d, er, rd, h⟩ := h
  obtain ⟨er2, mv2⟩ := er.setV hT rd
  exact h _ H F er2 mv2
theorem jgs_nil : JGs X T W [] gsN := by
  refine ⟨fun pins s σ H vs us Q I r h => pgs_nil.run pins s σ H vs us Q I r ?_⟩
  obtain ⟨e, F, ds, er, rd, h⟩ := h
  cases ds with
  | nil => rw [rl_nil] at rd; exact ⟨rd, h σ H F er Mv.refl⟩
  | cons d ds => exact h.elim
theorem jgs_cons {e : Expr} {es : List Expr} {w : D → M Unit} {ws : List D → M Unit} (h1 : JG X T W e w) (h2 : JGs X T W es ws)
    (hs : (assignEach (e :: es) X.env).map (·.2) = assign e X.env :: (assignEach es X.env).map (·.2) := by rfl) : JGs X T W (e :: es) (gsC w ws) := by
  refine ⟨fun pins s σ H vs us Q I r h => (pgs_cons h1 h2 hs).run pins s σ H vs us Q I r ?_⟩
  obtain ⟨e, F, ds, er, rd, h⟩ := h
  cases ds with
  | nil => exact h.elim
  | cons d ds =>
    rw [rl_cons] at rd
    obtain ⟨v, vs, rfl, rd, rl⟩ := rd
    refine ⟨v, vs, rfl, e, F, d, er, rd, ?_⟩
    simp only [gsC, bnd] at h
    cases q : w d e with
    | ok u e1 =>
      rw [q] at h
      dsimp only at h ⊢
      intro σ1 H1 F1 er1 mv1
      refine ⟨e1, F1, ds, er1, RpL.mono mv1.sub _ _ rl, ?_⟩
      cases q2 : ws ds e1 with
      | ok u e2 => rw [q2] at h; exact fun σ' H' F' er' mv' => h σ' H' F' er' (mv1.trans mv')
      | exc x e2 => rw [q2] at h; exact h
      | bad => rw [q2] at h; exact h
    | exc x e1 => rw [q] at h; exact h
    | bad => rw [q] at h; exact h
theorem jg_tup {es : List Expr} {k : Nat} {ws : List D → M Unit} {n : Nat} (hc : X.calm = true) (h : JGs X T W es ws)
    (hn : (assignEach es X.env).length = n := by rfl) (hst : (assignEach es X.env).findIdx? (·.1) = none := by rfl) : JG X T W (.Tuple es k pos) (gT n ws) := by
  refine ⟨fun pins s σ H v u Q I r q => (pg_tup hc h hn hst).run pins s σ H v u Q I r ?_⟩
  obtain ⟨e, F, d, er, rd, q⟩ := q
  unfold gT at q
  split at q
  · rename_i u e' hh
    split at hh
    · rename_i ds
      rw [rp_tup] at rd
      obtain ⟨a, xs, rfl, rd, rl⟩ := rd
      split at hh
      · rename_i hl
        refine ⟨a, xs, rfl, seqT_mono er.sub rd, by rw [← rl.len]; exact hl, e, F, ds, er, rl, ?_⟩
        rw [hh]; exact q
      · cases hh
    · rename_i ds
      rw [rp_ct] at rd
      obtain ⟨a, xs, rfl, rd, rl⟩ := rd
      split at hh
      · rename_i hl
        refine ⟨a, xs, rfl, seqC_mono er.sub rd, by rw [← rl.len]; exact hl, e, F, ds, er, rl, ?_⟩
        rw [hh]; exact q
      · cases hh
    · cases hh
  · exact q.elim
def sAsg (m : M D) (w : D → M Unit) : M Fl := bnd m fun d => bnd (w d) fun _ => skp
theorem RunAt.noexc {K : PySem.W.Frag} {mg : Str → Option Value} {e : En} {σ : St} {H F : Hp} {w : M Unit} {Dn : Ends} (h : RunS K mg T W e F (bnd w fun _ => skp) σ H Dn) (hx : ∀ x e', w e ≠ .exc x e') : match w e with
  | .ok _ e' => ∀ σ' H' F', ER K mg T e' σ' H' F' → Mv e σ H F e' σ' H' F' → Dn.nx σ' H'
  | _ => False := by
  unfold RunS bnd at h
  cases q : w e with
  | ok u e' => rw [q] at h; exact h
  | exc x e' => exact (hx x e' q).elim
  | bad => rw [q] at h; exact h
def NoExc (w : D → M Unit) : Prop := ∀ d e x e', w d e ≠ .exc x e'
def NoExcs (w : List D → M Unit) : Prop := ∀ d e x e', w d e ≠ .exc x e'
theorem ne_name {i : Nat} : NoExc (gN i) := fun _ _ _ _ h => by cases h
theorem nes_nil : NoExcs gsN := fun d e x e' h => by cases d <;> cases h
theorem nes_cons {w : D → M Unit} {ws : List D → M Unit} (h1 : NoExc w) (h2 : NoExcs ws) : NoExcs (gsC w ws) := fun d e x e' h => by
  cases d with
  | nil => cases h
  | cons d ds =>
    simp only [gsC, bnd] at h
    cases q : w d e with
    | ok u e1 => rw [q] at h; exact h2 _ _ _ _ h
    | exc x e1 => exact h1 _ _ _ _ q
    | bad => rw [q] at h; cases h
theorem ne_tup {n : Nat} {ws : List D → M Unit} (h2 : NoExcs ws) : NoExc (gT n ws) := fun d e x e' h => by
  unfold gT at h
  split at h
  · split at h
    · exact h2 _ _ _ _ h
    · cases h
  · split at h
    · exact h2 _ _ _ _ h
    · cases h
  · cases h
theorem js_asg {tg : Expr} {w : D → M Unit} (ha : JV X T W a ma) (hg : JG X T W tg w) (hne : NoExc w) (hs : swapsWithSole [tg] a pos.line X.env = pure false := by rfl) (hw : swappedStores [tg] a X.env = pure none := by rfl)
    (h1 : (assignEach [tg] X.env).map (·.2) = [assign tg X.env] := by rfl) : JS X T W (.Assign [tg] a pos) (sAsg ma w) :=
  PSimp (ps_asg ha hg hs hw h1) fun D σ H ⟨e, F, er, h⟩ => ⟨e, F, er, h.bind.mono fun d e1 H1 F1 er1 mv1 h1 v hv => ⟨e1, F1, d, er1, hv, RunAt.noexc h1 fun x e' => hne d e1 x e'⟩⟩
def sPar (ms : M (List D)) (ws : List D → M Unit) : M Fl := bnd ms fun ds => bnd (ws ds) fun _ => skp
end
end Sr
namespace Sr
variable [TabL]
open PySem PySem.Spec L2
open PyProof.Rows hiding St
def Walks (K : PySem.W.Frag) (mg : Str → Option Value) (J : It) (ds : List D) (F : Hp) : Prop :=
  ∃ (G : Hp → Prop) (Y : Nat → Hp → V → Hp → Prop), Walk J ds.length G Y ∧ (∀ H, Same F H → G H) ∧
    ∀ i H1 F1 x H2, i < ds.length → Same F F1 → Same F1 H1 → Y i H1 x H2 → ∃ F2 d, Al H1 F1 H2 F2 ∧ ds[i]? = some d ∧ Rp K mg F2 d x
def TIt (K : PySem.W.Frag) (mg : Str → Option Value) (T : Pn) (W : WX) (m : M (List D)) : TI := fun σ H R => ∃ e F, ER K mg T e σ H F ∧ RunAt K mg T W e F m σ H fun ds _ H' F' => ∀ J, Walks K mg J ds F' → R J H'
abbrev JI (X : Cx) (T : Pn) (W : WX) (tg iter : Expr) (m : M (List D)) : Prop := PI X tg iter (TIt X.K X.mg T W m)
theorem PIimp {X : Cx} {tg iter : Expr} {t t' : TI} (h : PI X tg iter t) (k : ∀ σ H R, t' σ H R → t σ H R) : PI X tg iter t' := ⟨fun pins s σ H R I q => h.run pins s σ H R I (k σ H R q)⟩
def lp (b k : M Fl) : M Fl := fun e => match b e with
  | .ok .nx e2 => k e2
  | .ok .ct e2 => k e2
  | .ok .bk e2 => .ok .nx e2
  | o => o
def forL (w : D → M Unit) (b : M Fl) : List D → M Fl
  | [] => skp
  | d :: ds => bnd (w d) fun _ => lp b (forL w b ds)
def sFor (m : M (List D)) (w : D → M Unit) (b : M Fl) : M Fl := bnd m fun ds => forL w b ds
def whl (c : M Bool) (b : M Fl) : Nat → M Fl
  | 0 => fun _ => .bad
  | n + 1 => bnd c fun k => if k = true then lp b (whl c b n) else skp
def wF : Nat := 1000000
def sWhile (c : M Bool) (b : M Fl) : M Fl := whl c b wF
section
variable {X : Cx} {T : Pn} {W : WX} {pos : Pos} {a b c : Expr} {ma mb mc : M D} {body : List Stmt} {s u : M Fl}
theorem RunS.lp {K : PySem.W.Frag} {mg : Str → Option Value} {e : En} {F : Hp} {σ : St} {H : Hp} {Dn : Ends} {b k : M Fl} (h : RunS K mg T W e F (Sr.lp b k) σ H Dn) (N : St → Hp → Prop) (hN : ∀ σ' H' e' F', ER K mg T e' σ' H' F' → RunS K mg T W e' F' k σ' H' Dn → N σ' H') :
    RunS K mg T W e F b σ H { Dn with nx := N, ct := N, bk := Dn.nx } := by
  unfold RunS
  cases q : b e with
  | ok fl e1 =>
    cases fl with
    | nx => exact fun σ' H' F' er mv => hN σ' H' e1 F' er (h.after (by unfold Sr.lp; rw [q]) mv)
    | ct => exact fun σ' H' F' er mv => hN σ' H' e1 F' er (h.after (by unfold Sr.lp; rw [q]) mv)
    | bk => unfold RunS Sr.lp at h; rw [q] at h; exact h
    | rt d => unfold RunS Sr.lp at h; rw [q] at h; exact h
    | ro d => unfold RunS Sr.lp at h; rw [q] at h; exact h
  | exc x e1 => unfold RunS Sr.lp at h; rw [q] at h; exact h
  | bad => unfold RunS Sr.lp at h; rw [q] at h; exact h
theorem js_for {tg iter : Expr} {m : M (List D)} {w : D → M Unit} (hp : PassesOwn (model X.prog X.w) X.A X.env X.xe) (hc : X.calm = true) (hi : JI X T W tg iter m) (hg : JG X T W tg w) (hne : NoExc w) (hb : JSs X T W body s)
    (hs : ∀ x, foldedSetIterable iter X.env x = pure x := by intro _; rfl) : JS X T W (.For tg iter body [] pos) (sFor m w s) := by
  refine PSimp (ps_for hp hc hi hg hb hs) fun Dn σ H ⟨e, F, er, h⟩ => ⟨e, F, er, h.bind.mono fun ds e1 H1 F1 er1 mv1 h1 J wk => ?_⟩
  obtain ⟨G, Y, wlk, hG, hY⟩ := wk
  refine for_it wlk (fun i σ2 H2 => ∃ e2 F2, ER X.K X.mg T e2 σ2 H2 F2 ∧ Same F1 F2 ∧ RunS X.K X.mg T W e2 F2 (forL w s (ds.drop i)) σ2 H2 Dn) ⟨e1, F1, er1, Same.refl _, h1⟩ (fun i σ2 H2 _ ⟨e2, F2, er2, s2, _⟩ => hG H2 (s2.trans er2.sub)) ?_ ?_
  · rintro i x σ2 H2 H3 hi ⟨e2, F2, er2, s2, h2⟩ y
    obtain ⟨F3, d, al, hd, rd⟩ := hY i H2 F2 x H3 hi s2 er2.sub y
    have er3 := er2.al al
    have hdr : ds.drop i = d :: ds.drop (i + 1) := by
      rw [List.drop_eq_getElem_cons hi]
      have : ds[i] = d := by rw [List.getElem?_eq_getElem hi] at hd; exact Option.some.inj hd
      rw [this]
    rw [hdr] at h2
    have h3 := h2.after (s' := forL w s (d :: ds.drop (i + 1))) rfl (Mv.al er2 al)
    refine ⟨e2, F3, d, er3, rd, ?_⟩
    cases q : w d e2 with
    | ok u e3 =>
      intro σ4 H4 F4 er4 mv4
      have h4 := h3.after (s' := Sr.lp s (forL w s (ds.drop (i + 1)))) (by show bnd (w d) _ e2 = _; unfold bnd; rw [q]) mv4
      refine ⟨e3, F4, er4, ?_⟩
      have s4 : Same F1 F4 := (s2.trans (al.same er2.sub).1).trans mv4.sub
      have hh := h4.lp (fun σ' H' => ∃ e5 F5, ER X.K X.mg T e5 σ' H' F5 ∧ RunS X.K X.mg T W e5 F5 (forL w s (ds.drop (i + 1))) σ' H' Dn) fun σ' H' e' F' er' r' => ⟨e', F', er', r'⟩
      unfold RunS at hh ⊢
      cases q2 : s e3 with
      | ok fl e5 =>
        rw [q2] at hh
        cases fl with
        | nx => exact fun σ' H' F' er' mv' => ⟨e5, F', er', s4.trans mv'.sub, h4.after (by unfold Sr.lp; rw [q2]) mv'⟩
        | ct => exact fun σ' H' F' er' mv' => ⟨e5, F', er', s4.trans mv'.sub, h4.after (by unfold Sr.lp; rw [q2]) mv'⟩
        | bk => exact hh
        | rt d => exact hh
        | ro d => exact hh
      | exc x e5 => rw [q2] at hh; exact hh
      | bad => rw [q2] at hh; exact hh
    | exc x e3 => exact (hne d e2 x e3 q).elim
    | bad =>
      have h4 : RunS X.K X.mg T W e2 F3 (bnd (w d) fun _ => Sr.lp s (forL w s (ds.drop (i + 1)))) σ2 H3 Dn := h3
      unfold RunS bnd at h4; rw [q] at h4; exact h4
  · rintro σ2 H2 ⟨e2, F2, er2, s2, h2⟩
    rw [List.drop_length] at h2
    exact h2 σ2 H2 F2 er2 Mv.refl
theorem js_while {n : M Bool} (hp : PassesOwn (model X.prog X.w) X.A X.env X.xe) (hc : JT X T W c n) (hb : JSs X T W body s) : JS X T W (.While c body [] pos) (sWhile n s) := by
  refine PSimp (ps_while hp hc hb) fun Dn σ H ⟨e, F, er, h⟩ => ?_
  refine ⟨fun m σ2 H2 => ∃ e2 F2, ER X.K X.mg T e2 σ2 H2 F2 ∧ RunS X.K X.mg T W e2 F2 (whl n s m) σ2 H2 Dn, ⟨wF, e, F, er, h⟩, ?_⟩
  rintro m σ2 H2 ⟨e2, F2, er2, h2⟩
  cases m with
  | zero => exact h2.elim
  | succ m =>
    refine ⟨e2, F2, er2, h2.bind.mono fun k e3 H3 F3 er3 mv3 h3 => ?_⟩
    cases k with
    | true =>
      rw [if_pos rfl] at h3 ⊢
      exact ⟨fun σ' H' => ∃ e' F', ER X.K X.mg T e' σ' H' F' ∧ RunS X.K X.mg T W e' F' (whl n s m) σ' H' Dn, fun σ' H' z => ⟨m, Nat.lt_succ_self m, z⟩, e3, F3, er3, h3.lp _ fun σ' H' e' F' er' r' => ⟨e', F', er', r'⟩⟩
    | false =>
      rw [if_neg (by decide)] at h3 ⊢
      exact h3 σ2 H3 F3 er3 Mv.refl
def dItems : D → Option (List D)
  | .lst ds => some ds
  | .tup ds => some ds
  | .str z => some (z.cps.toList.map fun c => .str ⟨#[c]⟩)
  | .ct ds => some ds
  | _ => none
def mItems (m : M D) : M (List D) := bnd m fun d => opt (dItems d)
theorem walks_list {K : PySem.W.Frag} {mg : Str → Option Value} {F : Hp} {a : Addr} {xs : List V} {ds : List D} (h : F a = some (.lst xs)) (l : RpL K mg F ds xs) : Walks K mg (Itl K a) ds F := by
  refine ⟨_, _, by rw [l.len]; exact walk_list (xs := xs), fun H s => SqL.of (s _ _ h), fun i H1 F1 x H2 hi s1 s2 y => ?_⟩
  obtain ⟨rfl, y⟩ := y
  obtain ⟨v, h1, h2⟩ := l.get (List.getElem?_eq_getElem hi)
  rw [h1] at y; cases y
  exact ⟨F1, ds[i], Al.refl, List.getElem?_eq_getElem hi, Rp.mono s1 _ _ h2⟩
theorem walks_tup {K : PySem.W.Frag} {mg : Str → Option Value} {F : Hp} {a : Addr} {xs : List V} {ds : List D} (h : SqT K F a xs) (l : RpL K mg F ds xs) : Walks K mg (Itt K a) ds F := by
  refine ⟨_, _, by rw [l.len]; exact walk_tup (xs := xs), fun H s => seqC_mono s h, fun i H1 F1 x H2 hi s1 s2 y => ?_⟩
  obtain ⟨rfl, y⟩ := y
  obtain ⟨v, h1, h2⟩ := l.get (List.getElem?_eq_getElem hi)
  rw [h1] at y; cases y
  exact ⟨F1, ds[i], Al.refl, List.getElem?_eq_getElem hi, Rp.mono s1 _ _ h2⟩
theorem walks_str {K : PySem.W.Frag} {mg : Str → Option Value} {F : Hp} {z : Str} : Walks K mg (Its z) (z.cps.toList.map fun c => .str ⟨#[c]⟩) F := by
  refine ⟨_, _, by rw [List.length_map, Array.length_toList]; exact walk_str (z := z), fun H s => trivial, fun i H1 F1 x H2 hi s1 s2 y => ?_⟩
  obtain ⟨rfl, c, hc, rfl⟩ := y
  refine ⟨F1, .str ⟨#[c]⟩, Al.refl, ?_, by rw [rp_str]⟩
  rw [List.getElem?_map, Array.getElem?_toList, hc]; rfl
theorem RunAt.got {K : PySem.W.Frag} {mg : Str → Option Value} {A : Type} {e e1 : En} {σ : St} {H F : Hp} {m : M A} {x : A} {P : A → En → Hp → Hp → Prop} (h : RunAt K mg T W e F m σ H P) (q : m e = .ok x e1) : RunAt K mg T W e F m σ H fun a e' H' F' => a = x ∧ e' = e1 ∧ P a e' H' F' := by
  unfold RunAt at h ⊢
  rw [q] at h ⊢
  exact fun H' F' er mv => ⟨rfl, rfl, h H' F' er mv⟩
theorem PIor {tg iter : Expr} {t t' : TI} (h : PI X tg iter t) (h' : PI X tg iter t') : PI X tg iter (fun σ H R => t σ H R ∨ t' σ H R) := ⟨fun pins s σ H R I q => q.elim (h.run pins s σ H R I) (h'.run pins s σ H R I)⟩
theorem ji_v {tg : Expr} (ha : JV X T W a ma) : JI X T W tg a (mItems ma) := by
  refine PIimp (PIor (pi_list ha) (PIor (pi_tup ha) (pi_str ha))) fun σ H R ⟨e, F, er, h⟩ => ?_
  cases q : ma e with
  | ok d e1 =>
    cases d with
    | lst ds =>
      refine .inl ⟨e, F, er, (h.bind.got q).mono fun d e1 H1 F1 er1 mv1 h1 v hv => ?_⟩
      obtain ⟨rfl, rfl, h1⟩ := h1
      rw [rp_lst] at hv
      obtain ⟨a, xs, rfl, hv, l⟩ := hv
      exact ⟨a, rfl, ⟨xs, SqL.of (er1.sub _ _ hv)⟩, h1 H1 F1 er1 Mv.refl _ (walks_list hv l)⟩
    | tup ds =>
      refine .inr (.inl ⟨e, F, er, (h.bind.got q).mono fun d e1 H1 F1 er1 mv1 h1 v hv => ?_⟩)
      obtain ⟨rfl, rfl, h1⟩ := h1
      rw [rp_tup] at hv
      obtain ⟨a, xs, rfl, hv, l⟩ := hv
      exact ⟨a, rfl, ⟨xs, seqT_mono er1.sub hv⟩, h1 H1 F1 er1 Mv.refl _ (walks_tup (SqT.of hv) l)⟩
    | ct ds =>
      refine .inr (.inl ⟨e, F, er, (h.bind.got q).mono fun d e1 H1 F1 er1 mv1 h1 v hv => ?_⟩)
      obtain ⟨rfl, rfl, h1⟩ := h1
      rw [rp_ct] at hv
      obtain ⟨a, xs, rfl, hv, l⟩ := hv
      exact ⟨a, rfl, ⟨xs, seqC_mono er1.sub hv⟩, h1 H1 F1 er1 Mv.refl _ (walks_tup hv l)⟩
    | str z =>
      refine .inr (.inr ⟨e, F, er, (h.bind.got q).mono fun d e1 H1 F1 er1 mv1 h1 v hv => ?_⟩)
      obtain ⟨rfl, rfl, h1⟩ := h1
      rw [rp_str] at hv
      exact ⟨z, hv, h1 H1 F1 er1 Mv.refl _ walks_str⟩
    | _ => unfold RunAt mItems bnd at h; rw [q] at h; exact h.elim
  | exc x e1 =>
    refine .inl ⟨e, F, er, ?_⟩
    unfold RunAt mItems bnd at h; unfold RunAt; rw [q] at h ⊢; exact h
  | bad => unfold RunAt mItems bnd at h; rw [q] at h; exact h.elim
def rngL (lo hi : Int) : List D := (List.range (hi - lo).toNat).map fun (i : Nat) => D.int (lo + i)
def okR (i : Int) : Bool := decide (-(2 ^ 62) ≤ i) && decide (i < 2 ^ 62)
def gRng : List D → Option (List D)
  | [.int n] => if okR n = true then some (rngL 0 n) else none
  | _ => none
def gRng2 : List D → Option (List D)
  | [.int a, .int b] => if (okR a && okR b) = true then some (rngL a b) else none
  | _ => none
def mRng (ms : M (List D)) : M (List D) := bnd ms fun ds => opt (gRng ds)
def mRng2 (ms : M (List D)) : M (List D) := bnd ms fun ds => opt (gRng2 ds)
theorem walks_range {K : PySem.W.Frag} {mg : Str → Option Value} {F : Hp} {lo hi : Int} : Walks K mg (Itr lo (hi - lo).toNat) (rngL lo hi) F := by
  refine ⟨_, _, by unfold rngL; rw [List.length_map, List.length_range]; exact walk_range, fun H s => trivial, fun i H1 F1 x H2 hi s1 s2 y => ?_⟩
  obtain ⟨rfl, rfl⟩ := y
  refine ⟨F1, .int (lo + i), Al.refl, ?_, by rw [rp_int]⟩
  unfold rngL at hi ⊢
  rw [List.length_map, List.length_range] at hi
  rw [List.getElem?_map, List.getElem?_range hi]; rfl
theorem ji_range1 {tg : Expr} {p : Pos} {ms : M (List D)} (hg : Gl X "range") (hm : X.mg "range" = none) (ha : JA X T W [a] ms) (hs : starEach [a] X.env = [(false, eval a X.env)] := by rfl) : JI X T W tg (.Call (.Name "range" p) [a] [] pos) (mRng ms) := by
  refine PIimp (pi_range1 hg hm ha hs) fun σ H R ⟨e, F, er, h⟩ => ⟨e, F, er, h.bind.mono fun ds e1 H1 F1 er1 mv1 h1 vs hvs => ?_⟩
  obtain ⟨z, hz, fin⟩ := h1.fin er1
  unfold gRng at hz
  split at hz
  · rename_i n
    split at hz
    · rename_i ho
      cases hz
      obtain ⟨v, rfl, r⟩ := rl_one hvs
      rw [rp_int] at r; subst r
      unfold okR at ho
      rw [Bool.and_eq_true, decide_eq_true_eq, decide_eq_true_eq] at ho
      refine ⟨n, rfl, ho.1, ho.2, fin H1 F1 Al.refl _ ?_⟩
      have := walks_range (K := X.K) (mg := X.mg) (F := F1) (lo := 0) (hi := n)
      rw [Int.sub_zero] at this
      exact this
    · cases hz
  · cases hz
theorem ji_range2 {tg : Expr} {p : Pos} {ms : M (List D)} (hg : Gl X "range") (hm : X.mg "range" = none) (ha : JA X T W [a, b] ms) (hs : starEach [a, b] X.env = [(false, eval a X.env), (false, eval b X.env)] := by rfl) (hs2 : starEach [b] X.env = [(false, eval b X.env)] := by rfl) : JI X T W tg (.Call (.Name "range" p) [a, b] [] pos) (mRng2 ms) := by
  refine PIimp (pi_range2 hg hm ha hs hs2) fun σ H R ⟨e, F, er, h⟩ => ⟨e, F, er, h.bind.mono fun ds e1 H1 F1 er1 mv1 h1 vs hvs => ?_⟩
  obtain ⟨z, hz, fin⟩ := h1.fin er1
  unfold gRng2 at hz
  split at hz
  · rename_i i j
    split at hz
    · rename_i ho
      cases hz
      obtain ⟨v, w, rfl, r, r'⟩ := rl_two hvs
      rw [rp_int] at r r'; subst r r'
      unfold okR at ho
      simp only [Bool.and_eq_true, decide_eq_true_eq] at ho
      exact ⟨i, j, rfl, ⟨ho.1.1, ho.1.2, ho.2.1, ho.2.2⟩, fin H1 F1 Al.refl _ walks_range⟩
    · cases hz
  · cases hz
theorem ER.put {K : PySem.W.Frag} {mg : Str → Option Value} {e : En} {σ : St} {H F : Hp} {i : Nat} {d d' : D} {p : Addr} {o : HO} (er : ER K mg T e σ H F) (h : e[i]? = some (.own d)) (hp : σ[i]? = some (some (.ref p))) (ow : OwnAt K mg (upd H p o) F p d') :
    ER K mg T (e.set i (.own d')) σ (upd H p o) F ∧ Mv e σ H F (e.set i (.own d')) σ (upd H p o) F := by
  have hi : i < e.length := (List.getElem?_eq_some_iff.mp h).1
  obtain ⟨p', h1, h2, h3⟩ := er.own i d h
  rw [hp] at h1; cases h1
  obtain ⟨o0, ho0⟩ := h3.there
  have own : ∀ (j : Nat) (x : D), (e.set i (Sl.own d'))[j]? = some (.own x) → (j ≠ i ∧ e[j]? = some (.own x)) ∨ (j = i ∧ x = d') := fun j x q => by
    by_cases hj : j = i
    · subst hj
      rw [List.getElem?_set_self hi] at q; cases q; exact .inr ⟨rfl, rfl⟩
    · rw [List.getElem?_set_ne (Ne.symm hj)] at q; exact .inl ⟨hj, q⟩
  have iff : ∀ a, Ow (e.set i (Sl.own d')) σ a → Ow e σ a := fun a ⟨j, x, q1, q2⟩ => by
    rcases own j x q1 with ⟨_, w⟩ | ⟨rfl, _⟩
    · exact ⟨j, x, w, q2⟩
    · exact ⟨j, d, h, q2⟩
  refine ⟨⟨fun b u q => ?_, fun j x q => ?_, fun j x q => ?_, fun j k q x y q1 q2 q3 q4 => ?_, by rw [List.length_set]; exact er.len, er.pin, er.tb.write h3 (ow.nt upd_same)⟩, Same.refl _, fun a u q n => ⟨fun _ => ?_, fun z => n (iff a z)⟩, fun a u q => .inl q, fun a q => ?_⟩
  · rw [upd_ne (ne_of_none q h2)]; exact er.sub b u q
  · have hj : j ≠ i := by rintro rfl; rw [List.getElem?_set_self hi] at q; cases q
    rw [List.getElem?_set_ne (Ne.symm hj)] at q
    exact er.val j x q
  · rcases own j x q with ⟨hj, w⟩ | ⟨rfl, rfl⟩
    · obtain ⟨p', g1, g2, g3⟩ := er.own j x w
      refine ⟨p', g1, g2, g3.keep (Same.refl _) fun o' ho' => ?_⟩
      rw [upd_ne]; exact ho'
      rintro rfl
      exact hj (er.inj j i p' x d w h g1 hp)
    · exact ⟨p, hp, h2, ow⟩
  · rcases own j x q1 with ⟨hj, w1⟩ | ⟨hj, _⟩ <;> rcases own k y q2 with ⟨hk, w2⟩ | ⟨hk, _⟩
    · exact er.inj j k q x y w1 w2 q3 q4
    · rw [hk] at q4 ⊢; exact er.inj j i q x d w1 h q3 q4
    · rw [hj] at q3 ⊢; exact er.inj i k q d y h w2 q3 q4
    · rw [hj, hk]
  · rw [upd_ne]; exact q
    rintro rfl
    exact n ⟨i, d, h, hp⟩
  · by_cases hb : a = p
    · subst hb; rw [upd_same] at q; cases q
    · rw [upd_ne hb] at q; exact q
def chkL (i : Nat) : M Unit := fun e => match e[i]? with
  | some (.own (.lst _)) => .ok () e
  | _ => .bad
def putL (i : Nat) (f : List D → Option (List D)) : M Fl := fun e => match e[i]? with
  | some (.own (.lst ds)) => match f ds with
    | some ds' => .ok .nx (e.set i (.own (.lst ds')))
    | none => .bad
  | _ => .bad
theorem chk_fin {K : PySem.W.Frag} {mg : Str → Option Value} {e : En} {σ : St} {H F : Hp} {i : Nat} {Dn : Ends} {k : M Fl} (h : RunS K mg T W e F (bnd (chkL i) fun _ => k) σ H Dn) (er : ER K mg T e σ H F) : ∃ p xs, σ[i]? = some (some (.ref p)) ∧ H p = some (.lst xs) ∧ RunS K mg T W e F k σ H Dn := by
  cases q : e[i]? with
  | none => unfold RunS bnd chkL at h; rw [q] at h; exact h.elim
  | some sl =>
    cases sl with
    | no => unfold RunS bnd chkL at h; rw [q] at h; exact h.elim
    | val d => unfold RunS bnd chkL at h; rw [q] at h; exact h.elim
    | own d =>
      cases d with
      | lst ds =>
        obtain ⟨p, h1, h2, xs, h3, h4⟩ := er.own i _ q
        exact ⟨p, xs, h1, h3, h.after (by unfold bnd chkL; rw [q]) Mv.refl⟩
      | _ => unfold RunS bnd chkL at h; rw [q] at h; exact h.elim
theorem put_fin {K : PySem.W.Frag} {mg : Str → Option Value} {e : En} {σ : St} {H F : Hp} {i : Nat} {Dn : Ends} {f : List D → Option (List D)} (h : RunS K mg T W e F (putL i f) σ H Dn) (er : ER K mg T e σ H F) : ∃ p ds ds' xs, σ[i]? = some (some (.ref p)) ∧ H p = some (.lst xs) ∧ RpL K mg F ds xs ∧ f ds = some ds' ∧
    ∀ xs', RpL K mg F ds' xs' → Dn.nx σ (upd H p (.lst xs')) := by
  cases q : e[i]? with
  | none => unfold RunS putL at h; rw [q] at h; exact h.elim
  | some sl =>
    cases sl with
    | no => unfold RunS putL at h; rw [q] at h; exact h.elim
    | val d => unfold RunS putL at h; rw [q] at h; exact h.elim
    | own d =>
      cases d with
      | lst ds =>
        obtain ⟨p, h1, h2, xs, h3, h4⟩ := er.own i _ q
        cases qf : f ds with
        | none => unfold RunS putL at h; simp only [q, qf] at h
        | some ds' =>
          refine ⟨p, ds, ds', xs, h1, h3, h4, qf, fun xs' l => ?_⟩
          obtain ⟨er2, mv2⟩ := er.put (o := .lst xs') (d' := .lst ds') q h1 ⟨xs', upd_same, l⟩
          unfold RunS putL at h
          simp only [q, qf] at h
          exact h σ _ F er2 mv2
      | _ => unfold RunS putL at h; rw [q] at h; exact h.elim
def sApp (i : Nat) (m : M D) : M Fl := bnd (chkL i) fun _ => bnd m fun d => putL i fun ds => if ds.length < sizeLine then some (ds ++ [d]) else none
theorem js_append {i : Nat} {x : Str} {pn apos cpos : Pos} (hN : X.N[i]? = some x) (hv : Vis X.env.scope x) (ha : JV X T W a ma)
    (hd : (x == ("__debug__" : Str)) = false := by decide) (hcd : (x == ("__classdict__" : Str)) = false := by decide)
    (hst : swapsWith (.Call (.Attribute (.Name x pn) "append" apos) [a] [] cpos) none pos.line X.env = pure false := by rfl)
    (hbase : attributeBase (.Name x pn) "append" X.env (eval (.Name x pn) X.env) = eval (.Name x pn) X.env := by rfl)
    (hfew : ((backTo cpos (starEach [a] X.env)).all (fun x => !x.1) && (backToKw cpos (keywordEach [] X.env)).all (fun x => x.1.isSome)
      && decide ([a].length + ([] : List Keyword).length + (if ([] : List Keyword).isEmpty then 0 else 1) < 30)) = true := by rfl)
    (hline : (apos.endLine == cpos.line) = true := by rfl) (hs : starEach [a] X.env = (false, eval a X.env) :: starEach [] X.env := by rfl) :
    JS X T W (.Expr (.Call (.Attribute (.Name x pn) "append" apos) [a] [] cpos) pos) (sApp i ma) := by
  refine PSimp (ps_expr (pe_bm PySem.F.plainAttrs_list PySem.F.slot_list_append PySem.F.type_list_append mt_append (pe_var hN hv hd hcd) (pa_cons ha pa_nil hs) hbase hfew hline hs rfl) hst) fun Dn σ H ⟨e, F, er, h⟩ => ?_
  obtain ⟨p, xs, h1, h2, h⟩ := chk_fin h er
  refine ⟨_, h1, .inl ⟨rfl, xs, SqL.of h2⟩, e, F, er, h.bind.mono fun d e1 H1 F1 er1 mv1 h3 v hv => ?_⟩
  obtain ⟨p', ds, ds', ys, g1, g2, g3, g4, g5⟩ := put_fin h3 er1
  rw [h1] at g1; cases g1
  split at g4
  · rename_i hz
    cases g4
    exact ⟨p, ys, v, rfl, rfl, g2, by rw [← g3.len]; exact hz, g5 _ (g3.append (by rw [rl_cons]; exact ⟨v, [], rfl, hv, by rw [rl_nil]⟩))⟩
  · cases g4
def sPutI (i : Nat) (mi m : M D) : M Fl := bnd m fun d => bnd (chkL i) fun _ => bnd mi fun k => putL i fun ds => match k with
  | .int j => (ixN ds.length j).map fun n => ds.set n d
  | _ => none
theorem js_putI {i : Nat} {x : Str} {pn ps : Pos} {mi : M D} (hN : X.N[i]? = some x) (hv : Vis X.env.scope x) (ha : JV X T W a ma) (hi : JV X T W b mi)
    (hd : (x == ("__debug__" : Str)) = false := by decide) (hcd : (x == ("__classdict__" : Str)) = false := by decide)
    (hs : swapsWithSole [.Subscript (.Name x pn) b ps] a pos.line X.env = pure false := by rfl) (hw : swappedStores [.Subscript (.Name x pn) b ps] a X.env = pure none := by rfl)
    (h1 : (assignEach [.Subscript (.Name x pn) b ps] X.env).map (·.2) = [assign (.Subscript (.Name x pn) b ps) X.env] := by rfl)
    (hb : ∀ v, assign (.Subscript (.Name x pn) b ps) X.env v = (do
      let ov ← holding [v] (eval (.Name x pn) X.env)
      let iv ← holding [v, ov] (eval b X.env)
      standAt ps
      holding [v, ov, iv] (setItem ov iv v)
      release [v, ov, iv] []) := by intro _; rfl) :
    JS X T W (.Assign [.Subscript (.Name x pn) b ps] a pos) (sPutI i mi ma) := by
  refine PSimp (ps_asg ha (pg_sub (pe_var hN hv hd hcd) hi set_list hb) hs hw h1) fun Dn σ H ⟨e, F, er, h⟩ => ⟨e, F, er, h.bind.mono fun d e1 H1 F1 er1 mv1 h3 v hv => ?_⟩
  obtain ⟨p, xs, g1, g2, h4⟩ := chk_fin h3 er1
  refine ⟨_, g1, e1, F1, er1, h4.bind.mono fun k e2 H2 F2 er2 mv2 h5 w hw => ?_⟩
  obtain ⟨p', ds, ds', ys, g3, g4, g5, g6, g7⟩ := put_fin h5 er2
  rw [g1] at g3; cases g3
  split at g6
  · rename_i j
    rw [Option.map_eq_some_iff] at g6
    obtain ⟨n, g6, rfl⟩ := g6
    rw [rp_int] at hw
    exact ⟨p, ys, j, n, rfl, hw, g4, by rw [← g5.len]; exact g6, g7 _ (RpL.set (Rp.mono mv2.sub _ _ hv) n g5)⟩
  · cases g6
end
end Sr
namespace Sr
variable [TabL]
open PySem hiding start
open PySem.Spec L2
open PyProof.Rows hiding St
section
variable (K : PySem.W.Frag) (mg : Str → Option Value)
def spF1 (ro : Bool) (n : Nat) (f : Fnc) : Sp := fun vs H Q E => ∃ (p : Addr) (o : D) (ws : List V) (ds : List D) (F : Hp), vs = .ref p :: ws ∧ Same F H ∧ TbOk H F ∧ F p = none ∧ OwnAt K mg H F p o ∧ RpL K mg F ds ws ∧ ds.length + 1 = n ∧
  match f o ds with
  | .ok d o' => ∀ H' F', Fr (some p) H F H' F' → F' p = none → OwnAt K mg H' F' p o' → Res K mg ro (some p) d H Q H' F'
  | .exc x o' => ∀ H' F' cl dd, Fr (some p) H F H' F' → F' p = none → OwnAt K mg H' F' p o' → XR K mg x cl dd H' F' → E cl dd H'
  | .bad => False
end
def st0 (nl : Nat) (ds : List D) : En := ds.map Sl.val ++ List.replicate (nl - ds.length) Sl.no
def st1 (nl : Nat) (o : D) (ds : List D) : En := Sl.own o :: st0 (nl - 1) ds
def fin0 (ro : Bool) : Out Fl → Rs
  | .ok .nx _ => if ro = true then .bad else .ok .non .non
  | .ok (.rt d) _ => if ro = true then .bad else .ok d .non
  | .ok (.ro d) _ => .ok d .non
  | .ok _ _ => .bad
  | .exc x _ => .exc x .non
  | .bad => .bad
def fin1 (ro : Bool) : Out Fl → Rs
  | .ok fl e => match (e[0]? : Option Sl) with
    | some (Sl.own o) => match fl with
      | .nx => if ro = true then .bad else .ok .non o
      | .rt d => if ro = true then .bad else .ok d o
      | .ro d => .ok d o
      | _ => .bad
    | _ => .bad
  | .exc x e => match (e[0]? : Option Sl) with
    | some (Sl.own o) => .exc x o
    | _ => .bad
  | .bad => .bad
def mkF0 (nl : Nat) (ro : Bool) (s : M Fl) : Fnc := fun _ ds => fin0 ro (s (st0 nl ds))
def mkF1 (nl : Nat) (ro : Bool) (s : M Fl) : Fnc := fun o ds => fin1 ro (s (st1 nl o ds))
section
variable {K : PySem.W.Frag} {mg : Str → Option Value}
theorem st0_get {nl : Nat} {ds : List D} {i : Nat} {sl : Sl} (h : (st0 nl ds)[i]? = some sl) : (∃ d, ds[i]? = some d ∧ sl = .val d) ∨ sl = .no := by
  unfold st0 at h
  rw [List.getElem?_append] at h
  split at h
  · rw [List.getElem?_map] at h
    cases q : ds[i]? with
    | none => rw [q] at h; cases h
    | some d => rw [q] at h; cases h; exact .inl ⟨d, rfl, rfl⟩
  · rw [List.getElem?_replicate] at h
    split at h
    · cases h; exact .inr rfl
    · cases h
theorem ER.start0 {N : List Str} {vs : List V} {ds : List D} {H F : Hp} (s : Same F H) (tb : TbOk H F) (l : RpL K mg F ds vs) (hl : vs.length ≤ N.length) : ER K mg [] (st0 N.length ds) (start N vs) H F := by
  refine ⟨s, fun i d h => ?_, fun i d h => ?_, fun i j p d d' h => ?_, ?_, (fun p h => nomatch h), tb⟩
  · rcases st0_get h with ⟨d', h1, h2⟩ | h2
    · cases h2
      obtain ⟨v, h3, h4⟩ := l.get h1
      refine ⟨v, ?_, h4⟩
      unfold start
      rw [List.getElem?_append_left (by rw [List.length_map]; exact (List.getElem?_eq_some_iff.mp h3).1), List.getElem?_map, h3]; rfl
    · cases h2
  · rcases st0_get h with ⟨d', h1, h2⟩ | h2 <;> cases h2
  · rcases st0_get h with ⟨d', h1, h2⟩ | h2 <;> cases h2
  · unfold st0 start
    simp only [List.length_append, List.length_map, List.length_replicate, l.len]
theorem ER.start1 {N : List Str} {ws : List V} {ds : List D} {H F : Hp} {p : Addr} {o : D} (s : Same F H) (tb : TbOk H F) (fp : F p = none) (ow : OwnAt K mg H F p o) (l : RpL K mg F ds ws) (hl : ws.length + 1 ≤ N.length) : ER K mg [(0, p)] (st1 N.length o ds) (start N (.ref p :: ws)) H F := by
  have own : ∀ (i : Nat) (d : D), (st1 N.length o ds)[i]? = some (.own d) → i = 0 ∧ d = o := fun i d h => by
    unfold st1 at h
    cases i with
    | zero => simp at h; exact ⟨rfl, h.symm⟩
    | succ i =>
      rw [List.getElem?_cons_succ] at h
      rcases st0_get h with ⟨d', h1, h2⟩ | h2 <;> cases h2
  refine ⟨s, fun i d h => ?_, fun i d h => ?_, fun i j q d d' h h' => fun _ _ => by rw [(own i d h).1, (own j d' h').1], ?_, fun q h => ?_, tb⟩
  · unfold st1 at h
    cases i with
    | zero => simp at h
    | succ i =>
      rw [List.getElem?_cons_succ] at h
      rcases st0_get h with ⟨d', h1, h2⟩ | h2
      · cases h2
        obtain ⟨v, h3, h4⟩ := l.get h1
        refine ⟨v, ?_, h4⟩
        unfold start
        rw [List.map_cons, List.cons_append, List.getElem?_cons_succ, List.getElem?_append_left (by rw [List.length_map]; exact (List.getElem?_eq_some_iff.mp h3).1), List.getElem?_map, h3]; rfl
      · cases h2
  · obtain ⟨rfl, rfl⟩ := own i d h
    exact ⟨p, rfl, fp, ow⟩
  · unfold st1 st0 start
    simp only [List.length_append, List.length_map, List.length_replicate, List.length_cons, l.len]
    omega
  · rw [List.mem_singleton] at h; subst h; exact .of rfl
theorem no_ow0 {nl : Nat} {ds : List D} {σ : St} {a : Addr} : ¬ Ow (st0 nl ds) σ a := by
  rintro ⟨i, d, h, _⟩
  rcases st0_get h with ⟨d', h1, h2⟩ | h2 <;> cases h2
theorem ow1 {N : List Str} {ds : List D} {o : D} {ws : List V} {p a : Addr} (h : Ow (st1 N.length o ds) (start N (.ref p :: ws)) a) : a = p := by
  obtain ⟨i, d, h, h'⟩ := h
  unfold st1 at h
  cases i with
  | zero =>
    have e : (start N (.ref p :: ws))[0]? = some (some (.ref p)) := rfl
    rw [e] at h'; cases h'; rfl
  | succ i =>
    rw [List.getElem?_cons_succ] at h
    rcases st0_get h with ⟨d', h1, h2⟩ | h2 <;> cases h2
theorem Mv.fr0 {nl : Nat} {ds : List D} {e' : En} {σ σ' : St} {H F H' F' : Hp} (er : ER K mg [] e' σ' H' F') (mv : Mv (st0 nl ds) σ H F e' σ' H' F') : Fr none H F H' F' :=
  ⟨mv.sub, er.sub, fun a o h z _ => (mv.keep a o h no_ow0).1 z, fun a o h => by
    rcases mv.new a o h with h | h | h
    · exact .inl h
    · exact .inr h
    · exact (no_ow0 h).elim, mv.there, er.tb⟩
theorem Mv.fr1 {N : List Str} {ds : List D} {o o' : D} {ws : List V} {p : Addr} {e' : En} {σ' : St} {H F H' F' : Hp} (er : ER K mg [(0, p)] e' σ' H' F') (h0 : e'[0]? = some (.own o')) (mv : Mv (st1 N.length o ds) (start N (.ref p :: ws)) H F e' σ' H' F') : Fr (some p) H F H' F' ∧ F' p = none ∧ OwnAt K mg H' F' p o' := by
  obtain ⟨p', h1, h2, h3⟩ := er.own 0 o' h0
  rw [(er.pin (0, p) List.mem_cons_self).1] at h1; cases h1
  refine ⟨⟨mv.sub, er.sub, fun a u h zz n => (mv.keep a u h fun z => n (by rw [ow1 z])).1 zz, fun a u h => ?_, mv.there, er.tb⟩, h2, h3⟩
  rcases mv.new a u h with g | g | g
  · exact .inl g
  · exact .inr g
  · rw [ow1 g, h2] at h; cases h
end
section
variable {P : Program} {w : World} {K : PySem.W.Frag} {mg : Str → Option Value} {base : Heap} {x qual : Str} {params : Arguments} {body : List Stmt} {scope : Scope} {dvs : List V} {kws : List (Str × V)} {f : Addr} {fd : FuncData}
abbrev WE0 (E : XK) : WX := fun cls d _ H => E cls d H
theorem res_v {ro : Bool} {p : Option Addr} {d : D} {H H' F' : Hp} {Q : VK} {v : V} (hr : ro = false) (h : Res K mg ro p d H Q H' F') (r : Rp K mg F' d v) : Q v H' := by
  subst hr; exact h v r
theorem pss_ghost {X : Cx} {body : List Stmt} {t : TS} (h : PSs X body t) : PSs X body (fun D σ H => t { D with rt := QG D.rt } σ H) := by
  refine ⟨fun pins s σ H D I hw => wpAny_mono (h.run pins s σ H _ I hw) (fun fl s' hs => ?_) fun _ _ e => e⟩
  cases fl with
  | ret u =>
    obtain ⟨v, σ', H', J, rv, q⟩ := hs
    rcases q with q | ⟨d, o, hd, mu, q⟩
    · exact ⟨v, σ', H', J, rv, q⟩
    · obtain ⟨od, J⟩ := J.lock hd mu
      exact ⟨v, σ', _, J, rv, q od⟩
  | next => exact hs
  | brk => exact hs
  | cont => exact hs
theorem res_o {d : D} {H F H' F' : Hp} {Q : VK} {q : Addr} {p : Option Addr} {ro : Bool} {C : Hp → Hp → Prop} (h : ∀ H' F', Fr p H F H' F' → C H' F' → Res K mg ro p d H Q H' F') (hC : ∀ H'' F'', Same F' F'' → (∀ a o, a ≠ q → H' a = some o → H'' a = some o) → (∀ a, a ≠ q → F'' a = F' a) → C H'' F'') (c0 : C H' F') (fr : Fr p H F H' F') (hq : H q = none) (fq : F' q = none) (ow : OwnAt K mg H' F' q d) : QG Q (.ref q) H' := by
  cases ro with
  | true => exact .inl (h H' F' fr c0 q hq fq ow)
  | false =>
    have s : ∀ o, Same F' (upd F' q o) := fun o => same_upd fq
    by_cases nd : isDkD d = false
    · obtain ⟨o, ho⟩ := ow.there
      refine .inl (h H' (upd F' q o) ⟨fr.sub.trans (s o), fun b u e => ?_, fr.keep, fun b u e => ?_, fr.there, fr.tb.updF (ow.nt ho)⟩ (hC _ _ (s o) (fun _ _ _ z => z) fun a ha => upd_ne ha) _ (ow.rp fq ho nd))
      · by_cases hb : b = q
        · subst hb; rw [upd_same] at e; cases e; exact ho
        · rw [upd_ne hb] at e; exact fr.fin b u e
      · by_cases hb : b = q
        · subst hb; exact .inr hq
        · rw [upd_ne hb] at e; exact fr.new b u e
    · cases d with
      | dk ds =>
        obtain ⟨xs, h1, h2⟩ := ow
        refine .inr ⟨q, .dK xs, h1, True.intro, fun od => h _ (upd F' q (.frz od (.dK xs))) ⟨fr.sub.trans (s _), fun b u e => ?_, fun a o ha nt pa => ?_, fun b u e => ?_, fun a ha => ?_, (fr.tb.upW (fun ps z => by rw [h1] at z; cases z) (fun c z => by rw [h1] at z; cases z) (fun _ z => by cases z)).updF (fun _ z => by cases z)⟩ (hC _ _ (s _) (fun a o ha z => by rw [upd_ne ha]; exact z) fun a ha => upd_ne ha) _ ?_⟩
        · by_cases hb : b = q
          · subst hb; rw [upd_same] at e ⊢; exact e
          · rw [upd_ne hb] at e ⊢; exact fr.fin b u e
        · have haq : a ≠ q := by rintro rfl; rw [ha] at hq; cases hq
          rw [upd_ne haq]; exact fr.keep a o ha nt pa
        · by_cases hb : b = q
          · subst hb; exact .inr hq
          · rw [upd_ne hb] at e; exact fr.new b u e
        · by_cases hb : a = q
          · subst hb; rw [upd_same] at ha; cases ha
          · rw [upd_ne hb] at ha; exact fr.there a ha
        · unfold Rp
          exact ⟨q, xs, rfl, ⟨od, upd_same⟩, RpK.mono (s _) _ _ h2⟩
      | _ => exact absurd rfl nd
theorem fnG_of {N ps : List Str} {k : Nat} {sp : Sp} (G : FunD K x qual params body scope dvs kws f fd) (S : FnScope N ps scope) (len : ∀ vs H Q E, sp vs H Q E → vs.length = ps.length)
    (hbody : ∀ (cdv : Value) (_ : fd.code = cdv) (A : Around) (outer : List Env) (s : Shared) (H : Hp) (vs : List V) (Q : VK) (E : XK), Room k (A.deeper (envOfC qual scope s.heap.objs.size f cdv)) → A.guards = some [] → sp vs H Q E →
      ∃ t, PSs (cxOf (L2N.CX P w) P w K mg base N qual scope f cdv A outer s H E) body t ∧ t { nx := fun _ H' => Q .non H', rt := QG Q } (start N vs) H) :
    FnG P w K mg base (k + 1) f fd ps sp := by
  obtain ⟨oc, od, dV, kV, doc, pm, an, cdv, ct, osl, rfl, lk, hcd, _, _⟩ := G.ex
  refine ⟨len, fun A outer s H args us vs Q E hr hgu e0 hb r hsp => ?_⟩
  have KX : K.In s.heap := e0.mod.kin.keeps fun b o q => (e0.bs b o q).1
  have lim : s.heap.NoLimit := e0.mod.nolimit.keeps fun b o q => (e0.bs b o q).1
  refine codeAny_call_function hr.depth (KX _ _ lk) rfl S.co S.gen rfl (PySem.W.codeRec_of KX hcd) (hb _ _ _ _ ?_)
  refine wpAny_newFunctionEnv_cells S.kind (fun ⟨n, v⟩ hy => ?_) fun env he s1 y => ?_
  · rcases S.par n (List.of_mem_zip hy).1 with q | q
    · exact .inl q
    · exact .inr ⟨q, PySem.W.cellsFrom_some _ _ _ (.inl q)⟩
  · subst he
    refine ⟨lim.keeps y.toInCall.keep, codeAny_func ?_⟩
    obtain ⟨t, ht, hq⟩ := hbody cdv rfl A outer s H vs Q E (hr.deeper _) hgu hsp
    have I := inv_start (CX := L2N.CX P w) (mg := mg) (E := E) S hr.hd e0 (len _ _ _ _ hsp) r y
    refine wpAny_mono (ht.run [] s1 (start N vs) H _ I hq) (fun fl s' hs => ?_) fun _ _ hs => hs
    match fl, hs with
    | .ret u, ⟨v, σ', H', J, rv, q⟩ =>
      rcases q with q | ⟨d, o, hd, mu, q⟩
      · exact ⟨v, H', J.os, J.bare, J.base, J.hok, rv, q⟩
      · obtain ⟨od, J⟩ := J.lock hd mu
        exact ⟨v, _, J.os, J.bare, J.base, J.hok, rv, q od⟩
    | .next, ⟨σ', H', J, q⟩ => exact ⟨.non, H', J.os, J.bare, J.base, J.hok, rfl, q⟩
    | .brk, ⟨_, _, _, q⟩ => exact q.elim
    | .cont, ⟨_, _, _, q⟩ => exact q.elim
theorem fn0g {N ps : List Str} {k nl np : Nat} {ro : Bool} {s : M Fl} (hnl : N.length = nl) (hnp : ps.length = np) (G : FunD K x qual params body scope dvs kws f fd) (S : FnScope N ps scope)
    (hb : ∀ (cdv : Value) (_ : fd.code = cdv) (A : Around) (outer : List Env) (s0 : Shared) (H : Hp) (E : XK), Room k (A.deeper (envOfC qual scope s0.heap.objs.size f cdv)) → A.guards = some [] → JSs (cxOf (L2N.CX P w) P w K mg base N qual scope f cdv A outer s0 H E) [] (WE0 E) body s) :
    FnG P w K mg base (k + 1) f fd ps (spF0 K mg ro np (mkF0 nl ro s)) := by
  subst hnl hnp
  refine fnG_of G S (fun vs H Q E h => ?_) (fun cdv ec A outer s0 H vs Q E hr hgu h => ?_)
  · obtain ⟨ds, F, _, _, l, hl, _⟩ := h
    rw [← l.len]; exact hl
  · obtain ⟨ds, F, sub, tb, l, hl, h⟩ := h
    have hN : ps.length ≤ N.length := by have := congrArg List.length S.pre; rw [List.length_take] at this; omega
    refine ⟨_, hb cdv ec A outer s0 H E hr hgu, st0 N.length ds, F, ER.start0 sub tb l (by rw [← l.len]; omega), ?_⟩
    unfold RunS
    unfold mkF0 at h
    cases q : s (st0 N.length ds) with
    | ok fl e1 =>
      rw [q] at h
      cases fl with
      | nx =>
        cases ro with
        | true => exact h.elim
        | false => exact fun σ' H' F' er mv => res_v rfl (h H' F' (mv.fr0 er)) (by rw [rp_non])
      | rt d =>
        cases ro with
        | true => exact h.elim
        | false => exact fun σ' H' F' v er mv r => .inl (res_v rfl (h H' F' (mv.fr0 er)) r)
      | ro d => exact fun σ' H' F' p er mv hp fp np ow => res_o (C := fun _ _ => True) (fun H' F' fr _ => h H' F' fr) (fun _ _ _ _ _ => trivial) trivial (mv.fr0 er) (hp.elim id fun z => (no_ow0 z).elim) fp ow
      | bk => exact h.elim
      | ct => exact h.elim
    | exc x e1 =>
      rw [q] at h
      intro σ' H' F' cl dd er mv xr
      exact h H' F' cl dd (mv.fr0 er) xr
    | bad => rw [q] at h; exact h.elim
theorem fn1g {N ps : List Str} {k nl np : Nat} {ro : Bool} {s : M Fl} (hnl : N.length = nl) (hnp : ps.length = np) (G : FunD K x qual params body scope dvs kws f fd) (S : FnScope N ps scope)
    (hb : ∀ (cdv : Value) (_ : fd.code = cdv) (A : Around) (outer : List Env) (s0 : Shared) (H : Hp) (E : XK) (p : Addr), Room k (A.deeper (envOfC qual scope s0.heap.objs.size f cdv)) → A.guards = some [] → JSs (cxOf (L2N.CX P w) P w K mg base N qual scope f cdv A outer s0 H E) [(0, p)] (WE0 E) body s) :
    FnG P w K mg base (k + 1) f fd ps (spF1 K mg ro np (mkF1 nl ro s)) := by
  subst hnl hnp
  refine fnG_of G S (fun vs H Q E h => ?_) (fun cdv ec A outer s0 H vs Q E hr hgu h => ?_)
  · obtain ⟨p, o, ws, ds, F, rfl, _, _, _, _, l, hl, _⟩ := h
    rw [List.length_cons, ← l.len]; exact hl
  · obtain ⟨p, o, ws, ds, F, rfl, sub, tb, fp, ow, l, hl, h⟩ := h
    have hN : ps.length ≤ N.length := by have := congrArg List.length S.pre; rw [List.length_take] at this; omega
    refine ⟨_, hb cdv ec A outer s0 H E p hr hgu, st1 N.length o ds, F, ER.start1 sub tb fp ow l (by rw [← l.len]; omega), ?_⟩
    unfold RunS
    unfold mkF1 at h
    cases q : s (st1 N.length o ds) with
    | ok fl e1 =>
      rw [q] at h
      unfold fin1 at h
      dsimp only at h
      cases q0 : (e1[0]? : Option Sl) with
      | none => rw [q0] at h; exact h.elim
      | some sl =>
        rw [q0] at h
        cases sl with
        | no => exact h.elim
        | val d => exact h.elim
        | own o' =>
          dsimp only at h
          cases fl with
          | nx =>
            cases ro with
            | true => exact h.elim
            | false =>
              intro σ' H' F' er mv
              obtain ⟨f1, f2, f3⟩ := mv.fr1 er q0
              exact res_v rfl (h H' F' f1 f2 f3) (by rw [rp_non])
          | rt d =>
            cases ro with
            | true => exact h.elim
            | false =>
              intro σ' H' F' v er mv r
              obtain ⟨f1, f2, f3⟩ := mv.fr1 er q0
              exact .inl (res_v rfl (h H' F' f1 f2 f3) r)
          | ro d =>
            intro σ' H' F' pp er mv hp fp' np ow'
            obtain ⟨f1, f2, f3⟩ := mv.fr1 er q0
            obtain ⟨o1, ho1⟩ := ow.there
            have hpp : p ≠ pp := by
              rintro rfl
              exact np ⟨0, o', q0, (er.pin (0, p) List.mem_cons_self).1⟩
            have hp : H pp = none := hp.elim id fun z => absurd (ow1 z).symm hpp
            refine res_o (ro := ro) (C := fun H'' F'' => F'' p = none ∧ OwnAt K mg H'' F'' p o') (fun H2 F2 fr c => h H2 F2 fr c.1 c.2) (fun H'' F'' sm k1 k2 => ⟨by rw [k2 p hpp]; exact f2, f3.keep sm fun o z => k1 p o hpp z⟩) ⟨f2, f3⟩ f1 hp fp' ow'
          | bk => exact h.elim
          | ct => exact h.elim
    | exc x e1 =>
      rw [q] at h
      unfold fin1 at h
      dsimp only at h
      cases q0 : (e1[0]? : Option Sl) with
      | none => rw [q0] at h; exact h.elim
      | some sl =>
        rw [q0] at h
        cases sl with
        | no => exact h.elim
        | val d => exact h.elim
        | own o' =>
          intro σ' H' F' cl dd er mv xr
          obtain ⟨f1, f2, f3⟩ := mv.fr1 er q0
          exact h H' F' cl dd f1 f2 f3 xr
    | bad => rw [q] at h; exact h.elim
theorem fn0 {N ps : List Str} {k nl np : Nat} {ro : Bool} {s : M Fl} (hnl : N.length = nl) (hnp : ps.length = np) (G : FunD K x qual params body scope dvs kws f fd) (S : FnScope N ps scope)
    (hb : ∀ (cdv : Value) (A : Around) (outer : List Env) (s0 : Shared) (H : Hp) (E : XK), Room k (A.deeper (envOfC qual scope s0.heap.objs.size f cdv)) → A.guards = some [] → JSs (cxOf (L2N.CX P w) P w K mg base N qual scope f cdv A outer s0 H E) [] (WE0 E) body s) :
    FnG P w K mg base (k + 1) f fd ps (spF0 K mg ro np (mkF0 nl ro s)) := fn0g hnl hnp G S fun cdv _ => hb cdv
theorem fn1 {N ps : List Str} {k nl np : Nat} {ro : Bool} {s : M Fl} (hnl : N.length = nl) (hnp : ps.length = np) (G : FunD K x qual params body scope dvs kws f fd) (S : FnScope N ps scope)
    (hb : ∀ (cdv : Value) (A : Around) (outer : List Env) (s0 : Shared) (H : Hp) (E : XK) (p : Addr), Room k (A.deeper (envOfC qual scope s0.heap.objs.size f cdv)) → A.guards = some [] → JSs (cxOf (L2N.CX P w) P w K mg base N qual scope f cdv A outer s0 H E) [(0, p)] (WE0 E) body s) :
    FnG P w K mg base (k + 1) f fd ps (spF1 K mg ro np (mkF1 nl ro s)) := fn1g hnl hnp G S fun cdv _ => hb cdv
theorem fn0L {N ps : List Str} {k nl np : Nat} {ro : Bool} {s : M Fl} {c : Addr} (hnl : N.length = nl) (hnp : ps.length = np) (G : FunD K x qual params body scope dvs kws f fd) (S : FnScope N ps scope) (hc : fd.code = .ref c)
    (hb : ∀ (A : Around) (outer : List Env) (s0 : Shared) (H : Hp) (E : XK), Room k (A.deeper (envOfC qual scope s0.heap.objs.size f (.ref c))) → A.guards = some [] → JSs (cxOf (L2N.CX P w) P w K mg base N qual scope f (.ref c) A outer s0 H E) [] (WE0 E) body s) :
    FnG P w K mg base (k + 1) f fd ps (spF0 K mg ro np (mkF0 nl ro s)) := fn0g hnl hnp G S fun cdv e => by
  obtain rfl := e.symm.trans hc
  exact hb
end
end Sr
namespace Sr
variable [TabL]
open PySem hiding start
open PySem.Spec L2
open PyProof.Rows hiding St
section
variable {K : PySem.W.Frag} {mg : Str → Option Value} {T : Pn} {W : WX} {e : En} {σ : St} {H F H' F' : Hp}
theorem ER.fr (er : ER K mg T e σ H F) (fr : Fr none H F H' F') : ER K mg T e σ H' F' ∧ Mv e σ H F e σ H' F' := by
  have s : ∀ a o, H a = some o → NTb o → H' a = some o := fun a o h zz => fr.keep a o h zz (fun z => nomatch z)
  refine ⟨⟨fr.fin, fun i d h => ?_, fun i d h => ?_, er.inj, er.len, er.pinM fr.sub, fr.tb⟩, fr.sub, fun a o h n => ⟨s a o h, n⟩, fun a o h => ?_, fr.there⟩
  · obtain ⟨v, h1, h2⟩ := er.val i d h
    exact ⟨v, h1, Rp.mono fr.sub _ _ h2⟩
  · obtain ⟨p, h1, h2, h3⟩ := er.own i d h
    refine ⟨p, h1, ?_, h3.keep fr.sub fun o ho => s p o ho (h3.nt ho)⟩
    obtain ⟨o, ho⟩ := h3.there
    cases q : F' p with
    | none => rfl
    | some u =>
      rcases fr.new p u q with z | z
      · rw [h2] at z; cases z
      · rw [ho] at z; cases z
  · rcases fr.new a o h with z | z
    · exact .inl z
    · exact .inr (.inl z)
theorem ER.fr1 {i : Nat} {o o' : D} {p : Addr} (er : ER K mg T e σ H F) (h0 : e[i]? = some (.own o)) (hp : σ[i]? = some (some (.ref p))) (fr : Fr (some p) H F H' F') (fp : F' p = none) (ow : OwnAt K mg H' F' p o') : ER K mg T (e.set i (.own o')) σ H' F' ∧ Mv e σ H F (e.set i (.own o')) σ H' F' := by
  have hi : i < e.length := (List.getElem?_eq_some_iff.mp h0).1
  have own : ∀ (j : Nat) (x : D), (e.set i (Sl.own o'))[j]? = some (.own x) → (j ≠ i ∧ e[j]? = some (.own x)) ∨ (j = i ∧ x = o') := fun j x q => by
    by_cases hj : j = i
    · subst hj
      rw [List.getElem?_set_self hi] at q; cases q; exact .inr ⟨rfl, rfl⟩
    · rw [List.getElem?_set_ne (Ne.symm hj)] at q; exact .inl ⟨hj, q⟩
  have iff : ∀ a, Ow (e.set i (Sl.own o')) σ a → Ow e σ a := fun a ⟨j, x, q1, q2⟩ => by
    rcases own j x q1 with ⟨_, w⟩ | ⟨rfl, _⟩
    · exact ⟨j, x, w, q2⟩
    · exact ⟨j, o, h0, q2⟩
  refine ⟨⟨fr.fin, fun j d h => ?_, fun j d h => ?_, fun j k q x y q1 q2 q3 q4 => ?_, by rw [List.length_set]; exact er.len, er.pinM fr.sub, fr.tb⟩, fr.sub, fun a u h n => ⟨fun zz => fr.keep a u h zz fun z => n ?_, fun z => n (iff a z)⟩, fun a u h => ?_, fr.there⟩
  · have hj : j ≠ i := by rintro rfl; rw [List.getElem?_set_self hi] at h; cases h
    rw [List.getElem?_set_ne (Ne.symm hj)] at h
    obtain ⟨v, h1, h2⟩ := er.val j d h
    exact ⟨v, h1, Rp.mono fr.sub _ _ h2⟩
  · rcases own j d h with ⟨hj, w⟩ | ⟨rfl, rfl⟩
    · obtain ⟨q, h1, h2, h3⟩ := er.own j d w
      have hqp : q ≠ p := by
        rintro rfl
        exact hj (er.inj j i q d o w h0 h1 hp)
      obtain ⟨u, hu⟩ := h3.there
      refine ⟨q, h1, ?_, h3.keep fr.sub fun v hv => fr.keep q v hv (h3.nt hv) fun z => hqp (Option.some.inj z).symm⟩
      cases c : F' q with
      | none => rfl
      | some y =>
        rcases fr.new q y c with z | z
        · rw [h2] at z; cases z
        · rw [hu] at z; cases z
    · exact ⟨p, hp, fp, ow⟩
  · rcases own j x q1 with ⟨hj, w1⟩ | ⟨hj, _⟩ <;> rcases own k y q2 with ⟨hk, w2⟩ | ⟨hk, _⟩
    · exact er.inj j k q x y w1 w2 q3 q4
    · rw [hk] at q4 ⊢; exact er.inj j i q x o w1 h0 q3 q4
    · rw [hj] at q3 ⊢; exact er.inj i k q o y h0 w2 q3 q4
    · rw [hj, hk]
  · cases z; exact ⟨i, o, h0, hp⟩
  · rcases fr.new a u h with z | z
    · exact .inl z
    · exact .inr (.inl z)
end
def ap0 (f : Fnc) (ds : List D) : M D := fun e => match f .non ds with
  | .ok d _ => .ok d e
  | .exc x _ => .exc x e
  | .bad => .bad
def ap1 (f : Fnc) (i : Nat) (ds : List D) : M D := fun e => match e[i]? with
  | some (.own o) => match f o ds with
    | .ok d o' => .ok d (e.set i (.own o'))
    | .exc x o' => .exc x (e.set i (.own o'))
    | .bad => .bad
  | _ => .bad
def mC0 (f : Fnc) (dds : List D) (ms : M (List D)) : M D := bnd ms fun ds => ap0 f (ds ++ dds)
def chkO (i : Nat) : M Unit := fun e => match e[i]? with
  | some (.own _) => .ok () e
  | _ => .bad
def mC1 (f : Fnc) (i : Nat) (dds : List D) (ms : M (List D)) : M D := bnd (chkO i) fun _ => bnd ms fun ds => ap1 f i (ds ++ dds)
section
variable {K : PySem.W.Frag} {mg : Str → Option Value} {T : Pn} {W : WX} {e : En} {σ : St} {H F : Hp} {f : Fnc} {ds : List D} {n : Nat}
theorem ap0_v {vs : List V} {Q : VK} (h : RunAt K mg T W e F (ap0 f ds) σ H fun d _ H' F' => ∀ v, Rp K mg F' d v → Q v H') (er : ER K mg T e σ H F) (l : RpL K mg F ds vs) (hn : ds.length = n) : spF0 K mg false n f vs H Q (fun cl dd H' => W cl dd σ H') := by
  refine ⟨ds, F, er.sub, er.tb, l, hn, ?_⟩
  unfold RunAt ap0 at h
  cases q : f .non ds with
  | ok d o =>
    simp only [q] at h
    intro H' F' fr
    obtain ⟨er', mv⟩ := er.fr fr
    exact h H' F' er' mv
  | exc x o =>
    simp only [q] at h
    intro H' F' cl dd fr xr
    obtain ⟨er', mv⟩ := er.fr fr
    exact h H' F' cl dd er' mv xr
  | bad => simp only [q] at h
theorem ap0_o {vs : List V} {Q : VK} {H0 : Hp} (h : RunAt K mg T W e F (ap0 f ds) σ H fun d e' H' F' => ∀ p, H0 p = none → F' p = none → ¬ Ow e' σ p → OwnAt K mg H' F' p d → Q (.ref p) H') (hH : ∀ p, H p = none → H0 p = none) (er : ER K mg T e σ H F) (l : RpL K mg F ds vs) (hn : ds.length = n) : spF0 K mg true n f vs H Q (fun cl dd H' => W cl dd σ H') := by
  refine ⟨ds, F, er.sub, er.tb, l, hn, ?_⟩
  unfold RunAt ap0 at h
  cases q : f .non ds with
  | ok d o =>
    simp only [q] at h
    intro H' F' fr p hp fp ow
    obtain ⟨er', mv⟩ := er.fr fr
    exact h H' F' er' mv p (hH p hp) fp (Ow.ne_of_free er hp) ow
  | exc x o =>
    simp only [q] at h
    intro H' F' cl dd fr xr
    obtain ⟨er', mv⟩ := er.fr fr
    exact h H' F' cl dd er' mv xr
  | bad => simp only [q] at h
theorem ap1_v {i : Nat} {p : Addr} {vs : List V} {Q : VK} (h : RunAt K mg T W e F (ap1 f i ds) σ H fun d _ H' F' => ∀ v, Rp K mg F' d v → Q v H') (er : ER K mg T e σ H F) (hp : σ[i]? = some (some (.ref p))) (l : RpL K mg F ds vs) (hn : ds.length + 1 = n) : spF1 K mg false n f (.ref p :: vs) H Q (fun cl dd H' => W cl dd σ H') := by
  unfold RunAt ap1 at h
  cases q0 : e[i]? with
  | none => simp only [q0] at h
  | some sl =>
    cases sl with
    | no => simp only [q0] at h
    | val d => simp only [q0] at h
    | own o =>
      simp only [q0] at h
      obtain ⟨p', h1, h2, h3⟩ := er.own i o q0
      rw [hp] at h1; cases h1
      refine ⟨p, o, vs, ds, F, rfl, er.sub, er.tb, h2, h3, l, hn, ?_⟩
      cases q : f o ds with
      | ok d o' =>
        simp only [q] at h
        intro H' F' fr fp ow
        obtain ⟨er', mv⟩ := er.fr1 q0 hp fr fp ow
        exact h H' F' er' mv
      | exc x o' =>
        simp only [q] at h
        intro H' F' cl dd fr fp ow xr
        obtain ⟨er', mv⟩ := er.fr1 q0 hp fr fp ow
        exact h H' F' cl dd er' mv xr
      | bad => simp only [q] at h
theorem chkO_fin {A : Type} {i : Nat} {k : M A} {P : A → En → Hp → Hp → Prop} (h : RunAt K mg T W e F (bnd (chkO i) fun _ => k) σ H P) (er : ER K mg T e σ H F) : ∃ p, σ[i]? = some (some (.ref p)) ∧ RunAt K mg T W e F k σ H P := by
  unfold RunAt bnd chkO at h
  cases q : e[i]? with
  | none => simp only [q] at h
  | some sl =>
    cases sl with
    | no => simp only [q] at h
    | val d => simp only [q] at h
    | own d =>
      simp only [q] at h
      obtain ⟨p, h1, h2, h3⟩ := er.own i d q
      exact ⟨p, h1, h⟩
end
theorem len_nil {e e' : En} {ds : List D} (h : mNil e = .ok ds e') : ds.length = 0 := by cases h; rfl
theorem len_cons {n : Nat} {m : M D} {ms : M (List D)} (hh : ∀ (ds : List D) (e e' : En), ms e = .ok ds e' → ds.length = n) (ds : List D) (e e' : En) (h : mCons m ms e = .ok ds e') : ds.length = n + 1 := by
  unfold mCons bnd at h
  cases q : m e with
  | ok d e1 =>
    simp only [q] at h
    cases q2 : ms e1 with
    | ok d2 e2 => simp only [q2, ret] at h; cases h; rw [List.length_cons, hh _ _ _ q2]
    | exc x e2 => simp only [q2] at h; cases h
    | bad => simp only [q2] at h; cases h
  | exc x e1 => simp only [q] at h; cases h
  | bad => simp only [q] at h; cases h
structure JL (X : Cx) (T : Pn) (W : WX) (es : List Expr) (ms : M (List D)) : Prop where
  ja : JA X T W es ms
  ln : ∀ (ds : List D) (e e' : En), ms e = .ok ds e' → ds.length = es.length
theorem jl_nil {X : Cx} {T : Pn} {W : WX} : JL X T W [] mNil := ⟨ja_nil, fun _ _ _ h => len_nil h⟩
theorem jl_cons {X : Cx} {T : Pn} {W : WX} {e : Expr} {es : List Expr} {m : M D} {ms : M (List D)} (ha : JV X T W e m) (hr : JL X T W es ms) (hs : starEach (e :: es) X.env = (false, eval e X.env) :: starEach es X.env := by rfl) : JL X T W (e :: es) (mCons m ms) :=
  ⟨ja_cons ha hr.ja hs, len_cons hr.ln⟩
structure Fn (X : Cx) (k : Nat) (x : Str) (sp : Sp) (ps : List Str) (dvs : List V) : Prop where
  ex : ∃ f fd ds, FnG X.prog X.w X.K X.mg X.base k f fd ps sp ∧ X.mg x = some (.ref f) ∧ PySem.W.keepIn X.K (.ref f) = true ∧ Binds X.K fd ps ds ∧ Vals dvs ds
section
variable {X : Cx} {k : Nat} {f : Addr} {fd : FuncData} {ps : List Str} {sp : Sp} {dvs : List V} {ds : List Value} {W : WX} {x : Str} {p pos : Pos} {e : Expr} {es : List Expr} {t : TA}
theorem run_g {pins : List (Addr × Obj)} {σ : St} {H : Hp} {s : Shared} {Q : VK} {us : List Value} {vs : List V} (F : FnG X.prog X.w X.K X.mg X.base k f fd ps sp) (hr : Room k X.A) (hgu : X.A.guards = some [])
    (hb : Binds X.K fd ps ds) (hd : Vals dvs ds) (tk : L2N.Takes X W) (I : Inv X pins σ H s) (r : Vals vs us) (h : sp (vs ++ dvs) H Q (WE W σ)) : wpAny (model X.prog X.w) X.A (call (.ref f) us) (EP X pins σ Q) X.xe s := by
  have r2 : Vals (vs ++ dvs) (us ++ ds) := r.append hd
  have hl : (us ++ ds).length = ps.length := by rw [← r2.length]; exact F.len _ _ _ _ h
  refine wpAny_call (codeAny_mono (F.run X.A X.stack s H _ _ _ Q _ hr hgu I.env0 (hb s us I.kIn hl) r2 h) ?_)
  intro r s' hq
  match r, hq with
  | .error e, hq => exact L2N.passAt tk σ pins H s e s' I hq
  | .ok (.ret u), hq => exact I.after hq
  | .ok .next, hq => exact hq.elim
  | .ok .brk, hq => exact hq.elim
  | .ok .cont, hq => exact hq.elim
theorem pe_callG (F : FnG X.prog X.w X.K X.mg X.base k f fd ps sp) (hr : Room k X.A) (hgu : X.A.guards = some []) (hg : Gl X x) (hm : X.mg x = some (.ref f)) (hk : PySem.W.keepIn X.K (.ref f) = true) (hb : Binds X.K fd ps ds) (hd : Vals dvs ds) (tk : L2N.Takes X W)
    (ha : PA X (e :: es) t) (hdb : (x == ("__debug__" : Str)) = false := by decide) (he : starEach (e :: es) X.env = (false, eval e X.env) :: starEach es X.env := by rfl) (hpl : (backTo pos (starEach es X.env)).any (·.1) = false := by rfl) :
    PE X (.Call (.Name x p) (e :: es) [] pos) (tCallSD sp dvs (fun σ => WE W σ) t) := by
  refine ⟨fun pins s σ H Q I h => wpAny_Call_Name_kw (ld_glob I hg hm ?_ hdb)⟩
  refine PySem.W.callWith_K (h₀ := X.base) I.ok.mod.kin hk (thn (ha.run pos pins s σ H _ I h) fun us s1 ⟨vs, H1, I1, r, q⟩ => ⟨I1.kIn, ?_⟩) he hpl
  exact run_g F hr hgu hb hd tk I1 r q
end
section
variable {X : Cx} {T : Pn} {W : WX} {pos p : Pos} {a b : Expr} {es : List Expr} {ma mb : M D} {ms : M (List D)} {f : Fnc} {k n : Nat} {x : Str} {ps : List Str} {dvs : List V} {dds : List D}
theorem jv_call0 (G : Fn X k x (spF0 X.K X.mg false n f) ps dvs) (hr : Room k X.A) (hgu : X.A.guards = some []) (tk : L2N.Takes X W) (hdd : ∀ F, RpL X.K X.mg F dds dvs) (hg : Gl X x) (ha : JL X T W (a :: es) ms) (hn : (a :: es).length + dds.length = n := by rfl)
    (hdb : (x == ("__debug__" : Str)) = false := by decide) (he : starEach (a :: es) X.env = (false, eval a X.env) :: starEach es X.env := by rfl) (hpl : (backTo pos (starEach es X.env)).any (·.1) = false := by rfl) :
    JV X T W (.Call (.Name x p) (a :: es) [] pos) (mC0 f dds ms) := by
  obtain ⟨fa, fd, ds0, FO, hm, hk, hb, hd⟩ := G.ex
  refine PEimp (pe_callG FO hr hgu hg hm hk hb hd tk ha.ja hdb he hpl) fun σ H Q ⟨e, F, er, h⟩ => ⟨e, F, er, ?_⟩
  have hb2 := h.bind
  unfold RunAt at hb2 ⊢
  cases q : ms e with
  | ok ds e1 =>
    rw [q] at hb2
    intro H1 F1 er1 mv1 vs hvs
    exact ap0_v (hb2 H1 F1 er1 mv1) er1 (hvs.append (hdd F1)) (by rw [List.length_append, ha.ln ds e e1 q]; exact hn)
  | exc x e1 => rw [q] at hb2; exact hb2
  | bad => rw [q] at hb2; exact hb2
theorem jo_call0 (G : Fn X k x (spF0 X.K X.mg true n f) ps dvs) (hr : Room k X.A) (hgu : X.A.guards = some []) (tk : L2N.Takes X W) (hdd : ∀ F, RpL X.K X.mg F dds dvs) (hg : Gl X x) (ha : JL X T W (a :: es) ms) (hn : (a :: es).length + dds.length = n := by rfl)
    (hdb : (x == ("__debug__" : Str)) = false := by decide) (he : starEach (a :: es) X.env = (false, eval a X.env) :: starEach es X.env := by rfl) (hpl : (backTo pos (starEach es X.env)).any (·.1) = false := by rfl) :
    JO X T W (.Call (.Name x p) (a :: es) [] pos) (mC0 f dds ms) := by
  obtain ⟨fa, fd, ds0, FO, hm, hk, hb, hd⟩ := G.ex
  refine PEimp (pe_callG FO hr hgu hg hm hk hb hd tk ha.ja hdb he hpl) fun σ H Q ⟨e, F, er, h⟩ => ⟨e, F, er, ?_⟩
  have hb2 := h.bind
  unfold RunAt at hb2 ⊢
  cases q : ms e with
  | ok ds e1 =>
    rw [q] at hb2
    intro H1 F1 er1 mv1 vs hvs
    exact ap0_o (hb2 H1 F1 er1 mv1) mv1.there er1 (hvs.append (hdd F1)) (by rw [List.length_append, ha.ln ds e e1 q]; exact hn)
  | exc x e1 => rw [q] at hb2; exact hb2
  | bad => rw [q] at hb2; exact hb2
theorem jv_call1 {i : Nat} {y : Str} {py : Pos} (G : Fn X k x (spF1 X.K X.mg false n f) ps dvs) (hr : Room k X.A) (hgu : X.A.guards = some []) (tk : L2N.Takes X W) (hdd : ∀ F, RpL X.K X.mg F dds dvs) (hg : Gl X x) (hN : X.N[i]? = some y) (hv : Vis X.env.scope y) (ha : JL X T W es ms) (hn : es.length + dds.length + 1 = n := by rfl)
    (hdb : (x == ("__debug__" : Str)) = false := by decide) (he : starEach (.Name y py :: es) X.env = (false, eval (.Name y py) X.env) :: starEach es X.env := by rfl) (hpl : (backTo pos (starEach es X.env)).any (·.1) = false := by rfl)
    (hd2 : (y == ("__debug__" : Str)) = false := by decide) (hcd : (y == ("__classdict__" : Str)) = false := by decide) :
    JV X T W (.Call (.Name x p) (.Name y py :: es) [] pos) (mC1 f i dds ms) := by
  obtain ⟨fa, fd, ds0, FO, hm, hk, hb, hd⟩ := G.ex
  refine PEimp (pe_callG FO hr hgu hg hm hk hb hd tk (pa_cons (pe_var hN hv hd2 hcd) ha.ja he) hdb he hpl) fun σ H Q ⟨e, F, er, h⟩ => ?_
  obtain ⟨p, hp, h⟩ := chkO_fin h er
  refine ⟨_, hp, e, F, er, ?_⟩
  have hb2 := h.bind
  unfold RunAt at hb2 ⊢
  cases q : ms e with
  | ok ds e1 =>
    rw [q] at hb2
    intro H1 F1 er1 mv1 vs hvs
    exact ap1_v (hb2 H1 F1 er1 mv1) er1 hp (hvs.append (hdd F1)) (by rw [List.length_append, ha.ln ds e e1 q]; exact hn)
  | exc x e1 => rw [q] at hb2; exact hb2
  | bad => rw [q] at hb2; exact hb2
end
end Sr
namespace Sr
variable [TabL]
open PySem hiding start
open PySem.Spec L2
open PyProof.Rows hiding St
def putD (f : Str) (d : D) : List (Str × D) → List (Str × D)
  | [] => [(f, d)]
  | (g, x) :: r => if g = f then (g, d) :: r else (g, x) :: putD f d r
section
variable {K : PySem.W.Frag} {mg : Str → Option Value} {F : Hp}
theorem RpF.get {f : Str} {d : D} : ∀ {fs : List (Str × D)} {gs : List (Str × V)}, RpF K mg F fs gs → fs.lookup f = some d → ∃ v, gs.lookup f = some v ∧ Rp K mg F d v
  | [], gs, _, e => by cases e
  | (k, x) :: fs, gs, h, e => by
    rw [rf_cons] at h
    obtain ⟨v, vs, rfl, r, h⟩ := h
    rw [List.lookup_cons] at e ⊢
    split at e
    · cases e; exact ⟨v, rfl, r⟩
    · exact RpF.get h e
theorem RpF.put {f : Str} {d : D} {v : V} (r : Rp K mg F d v) : ∀ {fs : List (Str × D)} {gs : List (Str × V)}, RpF K mg F fs gs → RpF K mg F (putD f d fs) (putF f v gs)
  | [], gs, h => by
    rw [rf_nil] at h; subst h
    unfold putD putF
    rw [rf_cons]; exact ⟨v, [], rfl, r, by rw [rf_nil]⟩
  | (k, x) :: fs, gs, h => by
    rw [rf_cons] at h
    obtain ⟨w, vs, rfl, q, h⟩ := h
    unfold putD putF
    split
    · rw [rf_cons]; exact ⟨v, vs, rfl, r, h⟩
    · rw [rf_cons]; exact ⟨w, _, rfl, q, RpF.put r h⟩
end
def gFld (c f : Str) : D → Option D
  | .obj c' fs => if c' = c then fs.lookup f else none
  | _ => none
def mFldB (c f : Str) (m : M Bv) : M D := bnd m fun b => bnd (der b) fun d => opt (gFld c f d)
section
variable {X : Cx} {T : Pn} {W : WX} {pos : Pos} {a b : Expr} {es : List Expr} {ma mb : M D} {m1 : M Bv} {ms : M (List D)} {f : Fnc} {k n : Nat} {x c g : Str} {C : Addr}
theorem fld_ok {H F : Hp} {d z : D} {v : V} (s : Same F H) (r : Rq X.K X.mg H F d v) (hc : Cl X c C) (e : gFld c g d = some z) : ∃ a dx fs w, v = .ref a ∧ H a = some (.ins C dx fs) ∧ fs.lookup g = some w ∧ Rp X.K X.mg F z w := by
  cases d <;> simp only [gFld, reduceCtorEq] at e
  split at e
  · rename_i hcc
    subst hcc
    obtain ⟨a, C', dx, gs, rfl, h1, h2, h3⟩ := r
    rw [hc.mg] at h1; cases h1
    obtain ⟨w, h4, h5⟩ := h3.get e
    exact ⟨a, dx, gs, w, rfl, h2, h4, h5⟩
  · cases e
def gA (i : Nat) (c f : Str) : D → M Unit := fun d e => match e[i]? with
  | some (.own (.obj c' fs)) => if c' = c ∧ fs.length < 1000 then .ok () (e.set i (.own (.obj c (putD f d fs)))) else .bad
  | _ => .bad
theorem ne_attr {i : Nat} : NoExc (gA i c g) := fun d e x e' h => by
  unfold gA at h
  split at h
  · split at h <;> cases h
  · cases h
theorem jg_attr {i : Nat} {y : Str} {pn : Pos} (hc : Cl X c C) (hn : NoAttr X.K C g) (hN : X.N[i]? = some y) (hv : Vis X.env.scope y) (hd : (y == ("__debug__" : Str)) = false := by decide) (hcd : (y == ("__classdict__" : Str)) = false := by decide) :
    JG X T W (.Attribute (.Name y pn) g pos) (gA i c g) := by
  refine ⟨fun pins s σ H v u Q I r h => ?_⟩
  obtain ⟨e, F, d, er, rd, h⟩ := h
  unfold gA at h
  cases q : e[i]? with
  | none => simp only [q] at h
  | some sl =>
    cases sl with
    | no => simp only [q] at h
    | val z => simp only [q] at h
    | own z =>
      cases z with
      | obj c' fs =>
        simp only [q] at h
        split at h
        · rename_i u' e' hh
          split at hh
          · rename_i hcc
            cases hh
            obtain ⟨p, h1, h2, C', dx, gs, h3, h4, h5⟩ := er.own i _ q
            rw [hcc.1, hc.mg] at h3; cases h3
            rw [assign_Attribute]
            refine wpAny_bind (wpAny_holding (thn ((pe_var (pos := pn) hN hv hd hcd).run pins s σ H (fun x H1 => x = .ref p ∧ H1 = H) I ⟨_, h1, rfl, rfl⟩) fun ov s1 ⟨x, H1, I1, r1, ex, eH⟩ => ?_))
            subst ex eH
            obtain rfl : ov = Value.ref p := r1
            refine wpAny_bind (wpAny_standAt (wpAny_bind (wpAny_holding (setattr_ok I1 h4 hc.cl hn (by rw [← h5.len]; exact hcc.2) r fun s2 I2 => ?_))))
            obtain ⟨er2, mv2⟩ := er.put (o := .ins C dx (putF g v gs)) (d' := .obj c (putD g d fs)) q h1 ⟨C, dx, _, hc.mg, upd_same, h5.put rd⟩
            exact wpAny_release ⟨σ, _, I2, h σ _ F er2 mv2⟩
          · cases hh
        · exact h.elim
      | _ => simp only [q] at h
end
end Sr
namespace Sr
variable [TabL]
open PySem hiding start
open PySem.Spec L2
open PyProof.Rows hiding St
theorem RunAt.eq {K : PySem.W.Frag} {mg : Str → Option Value} {T : Pn} {W : WX} {A : Type} {e : En} {σ : St} {H F : Hp} {m : M A} {P : A → En → Hp → Hp → Prop} (h : RunAt K mg T W e F m σ H P) : RunAt K mg T W e F m σ H fun a e' H' F' => m e = .ok a e' ∧ P a e' H' F' := by
  unfold RunAt at h ⊢
  cases q : m e with
  | ok a e' => rw [q] at h; exact fun H' F' er mv => ⟨rfl, h H' F' er mv⟩
  | exc x e' => rw [q] at h; exact h
  | bad => rw [q] at h; exact h
def sNever : M Fl := fun _ => .bad
section
variable {X : Cx} {k n : Nat} {f C : Addr} {fd : FuncData} {ps ks : List Str} {sp : Sp} {W : WX} {g : List Value → List Value → List Value} {gV : List V → List V → List V}
theorem run_mk {pins : List (Addr × Obj)} {σ : St} {H : Hp} {s : Shared} {Q : VK} {us ws : List Value} {vs zs : List V} (M0 : Mk X.K C f)
    (F0 : FnG X.prog X.w X.K X.mg X.base k f fd ps sp) (hr : Room (k + 1) X.A) (hgu : X.A.guards = some []) (hb : KBn X.K fd ps (n + 1) ks g gV) (tk : L2N.Takes X W)
    (I : Inv X pins σ H s) (r : Vals vs us) (rz : Vals zs ws) (l1 : vs.length = n) (l2 : zs.length = ks.length)
    (h : ∀ x dx, H x = none → H dx = none → dx ≠ x → sp (gV (.ref x :: vs) zs) (upd (upd H dx (.own x)) x (.ins C dx [])) (fun v H2 => v = .non ∧ Q (.ref x) H2) (WE W σ)) :
    wpAny (model X.prog X.w) X.A (call (.ref C) us (ks.zip ws)) (EP X pins σ Q) X.xe s := by
  have f1 : H (s.heap.objs.size + 1) = none := I.hok.fresh (by omega)
  have f0 : H s.heap.objs.size = none := I.hok.fresh (by omega)
  have hq := h _ _ f1 f0 (Nat.ne_of_lt (Nat.lt_succ_self _))
  have I2 := Inv.made (C := C) I
  have r1 : Vals (V.ref _ :: vs) (Value.ref (s.heap.objs.size + 1) :: us) := .cons rfl r
  have n1 : (Value.ref (s.heap.objs.size + 1) :: us).length = n + 1 := by rw [List.length_cons, ← r.length, l1]
  refine wpAny_call (make_map (f := f) I.kIn M0.makes M0.init (beq_iff_eq.mp M0.fn) ?_)
  refine codeAny_mono (F0.run _ X.stack _ _ ⟨_, ks.zip ws⟩ (g _ ws) _ _ (WE W σ) (hr.make C us _) (by simpa [Around.under, Code.guards, Code.isGuard, guardIds, pushGuards] using hgu) (I2.env0.make C us _) (hb.to _ _ ws I2.kIn n1 (rz.length.symm.trans l2)) (hb.rel r1 rz) hq) ?_
  intro r s' hq'
  match r, hq' with
  | .error e, hq' => exact L2N.passAt tk σ pins _ _ e s' I2 hq'
  | .ok (.ret u), hq' =>
    obtain ⟨v, H', I3, rv, ev, q3⟩ := I2.after hq'
    subst ev
    exact ⟨rv, V.ref (s.heap.objs.size + 1), H', I3, rfl, q3⟩
  | .ok .next, hq' => exact hq'.elim
  | .ok .brk, hq' => exact hq'.elim
  | .ok .cont, hq' => exact hq'.elim
end
structure JK (X : Cx) (T : Pn) (W : WX) (kws : List Keyword) (ms : M (List D)) : Prop where
  pk : PK X kws (TAs X.K X.mg T W ms)
  ln : ∀ (ds : List D) (e e' : En), ms e = .ok ds e' → ds.length = kws.length
theorem PKimp {X : Cx} {es : List Keyword} {t t' : TA} (h : PK X es t) (k : ∀ σ H Q, t' σ H Q → t σ H Q) : PK X es t' := ⟨fun pos pins s σ H Q I q => h.run pos pins s σ H Q I (k σ H Q q)⟩
theorem jk_nil {X : Cx} {T : Pn} {W : WX} : JK X T W [] mNil := ⟨PKimp pk_nil fun σ H Q ⟨e, F, er, h⟩ => h.rfin er H F Al.refl _ (by rw [rl_nil]), fun _ _ _ h => len_nil h⟩
structure Mkr (X : Cx) (k : Nat) (c : Str) (C : Addr) (sp : Sp) (ps : List Str) (n : Nat) (ks : List Str) (gV : List V → List V → List V) : Prop where
  cl : Cl X c C
  ex : ∃ f fd g, Mk X.K C f ∧ FnG X.prog X.w X.K X.mg X.base k f fd ps sp ∧ KBn X.K fd ps (n + 1) ks g gV
def apM (c : Str) (f : Fnc) (ds : List D) : M D := fun e => match f (.obj c []) ds with
  | .ok .non o => .ok o e
  | .ok _ _ => .bad
  | .exc x _ => .exc x e
  | .bad => .bad
def mMk (c : Str) (f : Fnc) (gD : List D → List D → List D) (ms mk : M (List D)) : M D := bnd ms fun ds => bnd mk fun es => apM c f (gD ds es)
section
variable {X : Cx} {T : Pn} {W : WX} {pos p : Pos} {a : Expr} {es : List Expr} {kws : List Keyword} {ms mk : M (List D)} {f : Fnc} {k n np : Nat} {c : Str} {C : Addr} {ps ks : List Str} {gV : List V → List V → List V} {gD : List D → List D → List D}
theorem apM_o {K : PySem.W.Frag} {mg : Str → Option Value} {e : En} {σ : St} {H F H0 : Hp} {ds : List D} {vs : List V} {Q : VK} {x dx : Addr}
    (h : RunAt K mg T W e F (apM c f ds) σ H fun d e' H' F' => ∀ p, H0 p = none → F' p = none → ¬ Ow e' σ p → OwnAt K mg H' F' p d → Q (.ref p) H') (hH : ∀ p, H p = none → H0 p = none) (er : ER K mg T e σ H F) (l : RpL K mg F ds vs) (hn : ds.length + 1 = n)
    (hm : mg c = some (.ref C)) (hx : H x = none) (hdx : H dx = none) (hne : dx ≠ x) : spF1 K mg false n f (.ref x :: vs) (upd (upd H dx (.own x)) x (.ins C dx [])) (fun v H2 => v = .non ∧ Q (.ref x) H2) (fun cl dd H' => W cl dd σ H') := by
  have s0 : Same H (upd (upd H dx (.own x)) x (.ins C dx [])) := fun b o q => by
    rw [upd_ne (ne_of_none q hx), upd_ne (ne_of_none q hdx)]; exact q
  refine ⟨x, .obj c [], vs, ds, F, rfl, er.sub.trans s0, (er.tb.push hdx (by first | assumption | (intro _ z; exact nomatch z) | (intro _ z; cases z))).push (by rw [upd_ne (Ne.symm hne)]; exact hx) (by first | assumption | (intro _ z; exact nomatch z) | (intro _ z; cases z)), er.sub.free hx, ⟨C, dx, [], hm, upd_same, by rw [rf_nil]⟩, l, hn, ?_⟩
  have conv : ∀ H' F', Fr (some x) (upd (upd H dx (.own x)) x (.ins C dx [])) F H' F' → Fr none H F H' F' := fun H' F' fr =>
    ⟨fr.sub, fr.fin, fun b o q zz _ => fr.keep b o (s0 b o q) zz fun z => (ne_of_none q hx) (Option.some.inj z).symm, fun b o q => (fr.new b o q).imp id fun z => s0.free z, fun b q => s0.free (fr.there b q), fr.tb⟩
  unfold RunAt apM at h
  cases q : f (.obj c []) ds with
  | ok d o' =>
    simp only [q] at h
    intro H' F' fr fp ow v hv
    obtain ⟨er', mv⟩ := er.fr (conv H' F' fr)
    cases d with
    | non =>
      rw [rp_non] at hv
      exact ⟨hv, h H' F' er' mv x (hH x hx) fp (Ow.ne_of_free er hx) ow⟩
    | _ => exact h.elim
  | exc x' o' =>
    simp only [q] at h
    intro H' F' cl dd fr fp ow xr
    obtain ⟨er', mv⟩ := er.fr (conv H' F' fr)
    exact h H' F' cl dd er' mv xr
  | bad => simp only [q] at h
theorem jo_make (G : Mkr X k c C (spF1 X.K X.mg false np f) ps n ks gV) (hr : Room (k + 1) X.A) (hgu : X.A.guards = some []) (tk : L2N.Takes X W) (hg : Gl X c) (ha : JL X T W (a :: es) ms) (hkw : JK X T W kws mk)
    (hrel : ∀ (ds es : List D) (vs zs : List V) (F : Hp) (x : Addr), RpL X.K X.mg F ds vs → RpL X.K X.mg F es zs → ds.length = n → es.length = ks.length → ∃ ws, gV (.ref x :: vs) zs = .ref x :: ws ∧ RpL X.K X.mg F (gD ds es) ws ∧ (gD ds es).length + 1 = np)
    (hn : (a :: es).length = n := by rfl) (hkl : kws.length = ks.length := by rfl)
    (hall : (backToKw pos (keywordEach kws X.env)).all (·.1.isSome) = true := by rfl) (hks : (backToKw pos (keywordEach kws X.env)).filterMap (·.1) = ks := by rfl) (hdb : (c == ("__debug__" : Str)) = false := by decide)
    (he : starEach (a :: es) X.env = (false, eval a X.env) :: starEach es X.env := by rfl) (hpl : ((backTo pos (starEach (a :: es) X.env)).any (·.1) || (backToKw pos (keywordEach kws X.env)).any (·.1.isNone)) = false := by rfl) :
    JO X T W (.Call (.Name c p) (a :: es) kws pos) (mMk c f gD ms mk) := by
  obtain ⟨fa, fd, g, M0, F0, hb⟩ := G.ex
  refine ⟨fun pins s σ H Q I h => ?_⟩
  obtain ⟨e, F, er, h⟩ := h
  refine wpAny_Call_Name_kw (ld_glob I hg G.cl.mg ?_ hdb)
  refine PySem.W.callWith_KW (h₀ := X.base) I.ok.mod.kin M0.kp hall (thn (ha.ja.run pos pins s σ H (fun vs H1 => TAs X.K X.mg T W mk σ H1 fun zs H2 => vs.length = n ∧ zs.length = ks.length ∧ ∀ x dx, H2 x = none → H2 dx = none → dx ≠ x → spF1 X.K X.mg false np f (gV (.ref x :: vs) zs) (upd (upd H2 dx (.own x)) x (.ins C dx [])) (fun v H3 => v = .non ∧ Q (.ref x) H3) (WE W σ)) I ?_) fun us s1 ⟨vs, H1, I1, r, q⟩ => ?_) hpl he
  · refine ⟨e, F, er, h.bind.eq.mono fun ds e1 H1 F1 er1 mv1 h1 vs hvs => ⟨e1, F1, er1, h1.2.bind.eq.mono fun es e2 H2 F2 er2 mv2 h2 zs hzs => ?_⟩⟩
    have hl1 : ds.length = n := (ha.ln ds e e1 h1.1).trans hn
    have hl2 : es.length = ks.length := (hkw.ln es e1 e2 h2.1).trans hkl
    refine ⟨by rw [← hvs.len]; exact hl1, by rw [← hzs.len]; exact hl2, fun x dx hx hdx hne => ?_⟩
    obtain ⟨ws, e1', e2', e3'⟩ := hrel ds es vs zs F2 x (RpL.mono mv2.sub _ _ hvs) hzs hl1 hl2
    rw [e1']
    exact apM_o h2.2 (fun p hp => mv1.there p (mv2.there p hp)) er2 e2' e3' G.cl.mg hx hdx hne
  · refine thn (hkw.pk.run pos pins s1 σ H1 _ I1 q) fun ws s2 ⟨zs, H2, I2, rz, l1, l2, q2⟩ => ⟨I2.kIn, ?_⟩
    rw [hks]
    exact run_mk M0 F0 hr hgu hb tk I2 r rz l1 l2 q2
end
end Sr
namespace Sr
variable [TabL]
open PySem hiding start
open PySem.Spec L2
open PyProof.Rows hiding St
section
variable {X : Cx} {T : Pn} {W : WX} {pos : Pos} {a : Expr} {ma : M D}
def rRepr (K : PySem.W.Frag) : List V → Hp → VK → Prop := fun xs H Q => ∃ (q : Addr) (p : PyData), xs = [.ref q] ∧ Dp K H (.ref q) p ∧ p.showable = true ∧ p.hasDict = false ∧ p.depth ≤ 64 ∧ p.shown.length ≤ sizeLine ∧ Q (.str p.shown) H
theorem call_reprD (hgu : X.A.guards = some []) (hu : X.A.units + 100 < cLine) : CallR X (.builtin "repr") (rRepr X.K) := by
  intro pins s σ H xs us Q I r h
  obtain ⟨q, p, rfl, hp, h1, h2, h3, h4, hq⟩ := h
  obtain ⟨u, rfl, ru⟩ := vals1 r
  obtain rfl : u = Value.ref q := ru
  obtain ⟨as, rd⟩ := Dp.reads I p _ _ hp rfl
  exact repr_of_reads' rd h1 (PyData.noDict_hsm h2) hgu (by omega) (fun _ _ e => e) (fun h' u tk hk => ⟨.str _, H, I.kept hk, ⟨_, rfl⟩, hq⟩) h4
def gRepr : D → Option D
  | .lst ds => match toP (.lst ds) with
    | some p => if (p.showable && !p.hasDict && decide (p.depth ≤ 64) && decide (p.shown.length ≤ sizeLine)) = true then some (.str p.shown) else none
    | none => none
  | .tup ds => match toP (.tup ds) with
    | some p => if (p.showable && !p.hasDict && decide (p.depth ≤ 64) && decide (p.shown.length ≤ sizeLine)) = true then some (.str p.shown) else none
    | none => none
  | _ => none
theorem c_repr (hgu : X.A.guards = some []) (hu : X.A.units + 100 < cLine) : Cal1 X (.builtin "repr") gRepr := by
  intro H F x d d' s r e
  unfold gRepr at e
  split at e
  · rename_i ds
    split at e
    · rename_i p hp
      split at e
      · rename_i hh
        cases e
        simp only [Bool.and_eq_true, Bool.not_eq_true', decide_eq_true_eq] at hh
        have hdp := Rq.dp s hp r
        obtain ⟨q, xs, rfl, _⟩ := r
        exact ⟨_, call_reprD hgu hu, fun Q qq => ⟨q, p, rfl, hdp, hh.1.1.1, hh.1.1.2, hh.1.2, hh.2, qq H F _ Al.refl (by rw [rp_str])⟩⟩
      · cases e
    · cases e
  · rename_i ds
    split at e
    · rename_i p hp
      split at e
      · rename_i hh
        cases e
        simp only [Bool.and_eq_true, Bool.not_eq_true', decide_eq_true_eq] at hh
        have hdp := Rq.dp s hp r
        rw [rq_tup] at r
        obtain ⟨q, xs, rfl, _⟩ := r
        exact ⟨_, call_reprD hgu hu, fun Q qq => ⟨q, p, rfl, hdp, hh.1.1.1, hh.1.1.2, hh.1.2, hh.2, qq H F _ Al.refl (by rw [rp_str])⟩⟩
      · cases e
    · cases e
  · cases e
def IsiK (K : PySem.W.Frag) (mg : Str → Option Value) (u : Value) (g : D → Option Bool) : Prop := ∀ (H F : Hp) (d : D) (v : V) (b : Bool), Same F H → Rp K mg F d v → g d = some b → ∃ t, TyX K H v t ∧ PySem.W.kitOne K t u = some b
abbrev Isi (X : Cx) (u : Value) (g : D → Option Bool) : Prop := IsiK X.K X.mg u g
def mIsi (g : D → Option Bool) (m : M D) : M D := bnd m fun d => opt ((g d).map D.bl)
theorem runIsi {g : D → Option Bool} {u : Value} {cv : V} {σ : St} {H : Hp} {Q : VK} (hi : Isi X u g) (hc : ClsV cv u) (h : TV X.K X.mg T W (mIsi g ma) σ H Q) : TV X.K X.mg T W ma σ H fun v H1 => rIsi X.K [v, cv] H1 Q := by
  obtain ⟨e, F, er, h⟩ := h
  refine ⟨e, F, er, h.bind.mono fun d e1 H1 F1 er1 mv1 h1 v hv => ?_⟩
  obtain ⟨z, hz, fin⟩ := h1.fin er1
  rw [Option.map_eq_some_iff] at hz
  obtain ⟨b, hb, rfl⟩ := hz
  obtain ⟨t, h2, h3⟩ := hi H1 F1 d v b er1.sub hv hb
  exact ⟨v, cv, t, u, b, rfl, hc, h2, h3, fin H1 F1 Al.refl _ (by rw [rp_bl])⟩
theorem jv_isiB {g : D → Option Bool} {y : Str} {n : String} {p p2 : Pos} (hi : Isi X (.type n) g) (hg : Gl X "isinstance") (hm : X.mg "isinstance" = none) (hy : Gl X y) (hmy : X.mg y = none) (hv : bootBuiltins y = some (.type n)) (ha : JV X T W a ma)
    (hnn : y ≠ "__name__" := by decide) (hdy : (y == ("__debug__" : Str)) = false := by decide)
    (he : starEach [a, .Name y p2] X.env = (false, eval a X.env) :: starEach [.Name y p2] X.env := by rfl) (he2 : starEach [.Name y p2] X.env = (false, eval (.Name y p2) X.env) :: starEach [] X.env := by rfl) :
    JV X T W (.Call (.Name "isinstance" p) [a, .Name y p2] [] pos) (mIsi g ma) :=
  PEimp (pe_callB call_isi hg hm (by decide +kernel) (pa_cons ha (pa_cons (pe_bltn (v := .ty n) hy hmy hv rfl hnn hdy) pa_nil he2) he) (by decide) (by decide) he (by rfl)) fun σ H Q h => runIsi hi (.ty n) h
theorem jv_isiC {g : D → Option Bool} {y : Str} {C : Addr} {p p2 : Pos} (hi : Isi X (.ref C) g) (hg : Gl X "isinstance") (hm : X.mg "isinstance" = none) (hy : Gl X y) (hmy : X.mg y = some (.ref C)) (ha : JV X T W a ma)
    (hdy : (y == ("__debug__" : Str)) = false := by decide)
    (he : starEach [a, .Name y p2] X.env = (false, eval a X.env) :: starEach [.Name y p2] X.env := by rfl) (he2 : starEach [.Name y p2] X.env = (false, eval (.Name y p2) X.env) :: starEach [] X.env := by rfl) :
    JV X T W (.Call (.Name "isinstance" p) [a, .Name y p2] [] pos) (mIsi g ma) :=
  PEimp (pe_callB call_isi hg hm (by decide +kernel) (pa_cons ha (pa_cons (pe_glob (v := .ref C) hy hmy rfl hdy) pa_nil he2) he) (by decide) (by decide) he (by rfl)) fun σ H Q h => runIsi hi (.own C) h
def dKind : D → Option (Kd ⊕ Str)
  | .non => some (.inl .non)
  | .bl _ => some (.inl .bool)
  | .int _ => some (.inl .int)
  | .str _ => some (.inl .str)
  | .byt _ => some (.inl .bytes)
  | .lst _ => some (.inl .list)
  | .tup _ => some (.inl .tuple)
  | .dk _ => some (.inl .dict)
  | .dt _ => some (.inl .dict)
  | .obj c _ => some (.inr c)
  | .scr _ => none
  | .ct _ => none
  | .dl _ => none
  | .dq _ => none
  | .dn _ => none
structure ClI (K : PySem.W.Frag) (mg : Str → Option Value) (c : Str) (C : Addr) : Prop where
  cl : ClK K mg c C
  ha : PySem.W.findIn K (.ref C) "__class__" = some (some (.builtin "object.__class__"))
  hn : PySem.W.specialIn K (.builtin "object.__class__") "__get__" = some (some (.builtin "getset_descriptor.__get__"))
  ht : PySem.W.takesIn K (.builtin "object.__class__") = some true
  hm : PySem.W.mroIn K C (.type "object") = some true
section
variable {K : PySem.W.Frag} {mg : Str → Option Value}
theorem tyx_ok {H F : Hp} {d : D} {v : V} {n : Kd} (s : Same F H) (r : Rp K mg F d v) (h : dKind d = some (.inl n)) : TyX K H v (.type n.nm) := by
  cases d <;> simp only [dKind, Option.some.injEq, Sum.inl.injEq, reduceCtorEq] at h
  · subst h; rw [rp_non] at r; subst r; exact .base .non
  · subst h; rw [rp_bl] at r; subst r; exact .base (.bl _)
  · subst h; rw [rp_int] at r; subst r; exact .base (.int _)
  · subst h; rw [rp_str] at r; subst r; exact .base (.str _)
  · subst h; rw [rp_byt] at r; subst r; exact .byt _
  · subst h; rw [rp_lst] at r; obtain ⟨a, xs, rfl, q, _⟩ := r; exact .base (.lst (s _ _ q))
  · subst h; rw [rp_tup] at r
    obtain ⟨a, xs, rfl, q, _⟩ := r
    exact .base (.tup (s _ _ q))
  · subst h; rw [rp_dk] at r; obtain ⟨a, xs, rfl, q, _⟩ := r; obtain ⟨o, q⟩ := q; exact .fDict (s _ _ q)
  · subst h; unfold Rp at r; obtain ⟨a, xs, rfl, q, _⟩ := r; exact .base (.dT (s _ _ q))
theorem tyx_obj {H F : Hp} {c : Str} {C : Addr} {fs : List (Str × D)} {v : V} (s : Same F H) (r : Rp K mg F (.obj c fs) v) (h : ClI K mg c C) : TyX K H v (.ref C) := by
  rw [rp_obj] at r
  obtain ⟨a, C', dx, gs, rfl, h1, h2, _⟩ := r
  rw [h.cl.mg] at h1; cases h1
  exact .base (.ins (s _ _ h2) h.cl.cl h.ha h.hn h.ht h.hm)
def gIsi (tb : Kd → Option Bool) (to : Str → Option Bool) (d : D) : Option Bool := match dKind d with
  | some (.inl n) => tb n
  | some (.inr c) => to c
  | none => none
theorem isi_of {u : Value} {tb : Kd → Option Bool} {to : Str → Option Bool} (h1 : ∀ n b, tb n = some b → PySem.W.kitOne K (.type n.nm) u = some b) (h2 : ∀ c b, to c = some b → ∃ C, ClI K mg c C ∧ PySem.W.kitOne K (.ref C) u = some b) : IsiK K mg u (gIsi tb to) := by
  intro H F d v b s r e
  unfold gIsi at e
  split at e
  · rename_i n hk
    exact ⟨_, tyx_ok s r hk, h1 n b e⟩
  · rename_i c hk
    obtain ⟨C, hC, hb⟩ := h2 c b e
    cases d <;> simp only [dKind, Option.some.injEq, Sum.inr.injEq, reduceCtorEq] at hk
    subst hk
    exact ⟨_, tyx_obj s r hC, hb⟩
  · cases e
def tInt : Kd → Option Bool
  | .bool => some true
  | .int => some true
  | _ => some false
def tOnly (k : Kd) : Kd → Option Bool := fun n => some (decide (n = k))
theorem tInt_ok : ∀ n b, tInt n = some b → PySem.W.kitOne K (.type n.nm) (.type "int") = some b := by
  intro n b h
  cases n <;> cases h <;> exact kit_ty (by decide +kernel)
theorem tBool_ok : ∀ n b, tOnly .bool n = some b → PySem.W.kitOne K (.type n.nm) (.type "bool") = some b := by
  intro n b h
  cases n <;> cases h <;> exact kit_ty (by decide +kernel)
theorem tStr_ok : ∀ n b, tOnly .str n = some b → PySem.W.kitOne K (.type n.nm) (.type "str") = some b := by
  intro n b h
  cases n <;> cases h <;> exact kit_ty (by decide +kernel)
theorem tTuple_ok : ∀ n b, tOnly .tuple n = some b → PySem.W.kitOne K (.type n.nm) (.type "tuple") = some b := by
  intro n b h
  cases n <;> cases h <;> exact kit_ty (by decide +kernel)
end
end
end Sr
namespace Sr
variable [TabL]
open PySem hiding start
open PySem.Spec L2
open PyProof.Rows hiding St
def gLt (a b : D) : Option D := (gI0 (fun i j => .bl (decide (i < j))) a b).or (gLtT a b)
def gLe : D → D → Option D := gI0 fun i j => .bl (decide (i ≤ j))
def gGt : D → D → Option D := gI0 fun i j => .bl (decide (j < i))
def gGe : D → D → Option D := gI0 fun i j => .bl (decide (j ≤ i))
structure Pl (X : Cx) (k : Nat) : Prop where
  room : Room k X.A
  gu : X.A.guards = some []
section
variable {X : Cx} {k : Nat}
theorem Pl.u64 (h : Pl X k) : X.A.units + 64 < cLine := h.room.units
theorem Pl.u100 (h : Pl X k) : X.A.units + 100 < cLine := by have := h.room.un; omega
theorem Pl.u0 (h : Pl X k) : X.A.units < cLine := h.room.units0
theorem Pl.u1 (h : Pl X k) : X.A.units + 1 < cLine := by have := h.room.un; omega
theorem p_lt (h : Pl X k) : Op2 X (compareOp .Lt) gLt := o_lt.or (o_ltT h.u0)
theorem p_le : Op2 X (compareOp .LtE) gLe := o_le
theorem p_gt : Op2 X (compareOp .Gt) gGt := o_gt
end
section
variable {X : Cx} {T : Pn} {W : WX} {pos p : Pos} {a : Expr} {es : List Expr} {ma : M D} {ms : M (List D)} {f : Fnc} {k j n : Nat} {x c g : Str} {ps : List Str} {dvs : List V} {dds : List D} {C : Addr}
theorem jv_gI {i : Int} (hg : Gl X x) (h : ∃ t, X.mg x = some (.int i t)) (hx : (x == ("__debug__" : Str)) = false := by decide) : JV X T W (.Name x pos) (ret (.int i)) := by
  obtain ⟨t, h⟩ := h
  exact jv_glob (v := .int i) hg h ⟨t, rfl⟩ (fun F => by rw [rp_int]) hx
theorem jv_gS {z : Str} (hg : Gl X x) (h : ∃ t, X.mg x = some (.str z t)) (hx : (x == ("__debug__" : Str)) = false := by decide) : JV X T W (.Name x pos) (ret (.str z)) := by
  obtain ⟨t, h⟩ := h
  exact jv_glob (v := .str z) hg h ⟨t, rfl⟩ (fun F => by rw [rp_str]) hx
theorem runCalV {fv : Value} {g1 : D → Option D} {σ : St} {H : Hp} {Q : VK} (hc : Cal1 X fv g1) (h : TV X.K X.mg T W (m1 g1 ma) σ H Q) : TV X.K X.mg T W ma σ H fun v H1 => rAnyC X fv [v] H1 Q := by
  obtain ⟨e, F, er, h⟩ := h
  refine ⟨e, F, er, h.bind.mono fun d e1 H1 F1 er1 mv1 h1 v hv => ?_⟩
  obtain ⟨z, hz, fin⟩ := h1.fin er1
  obtain ⟨r, hr, q⟩ := hc H1 F1 v d z er1.sub (Rp.rq er1.sub hv) hz
  exact ⟨r, hr, q Q fun H' F' z al hz => fin H' F' al z hz⟩
theorem jv_callV1 {id : String} {g1 : D → Option D} (hc : Cal1 X (.builtin id) g1) (hg : Gl X x) (hm : X.mg x = none) (hv : bootBuiltins x = some (.builtin id)) (ha : JV X T W a ma) (hn : x ≠ "__name__" := by decide) (hdb : (x == ("__debug__" : Str)) = false := by decide)
    (he : starEach [a] X.env = (false, eval a X.env) :: starEach [] X.env := by rfl) : JV X T W (.Call (.Name x p) [a] [] pos) (m1 g1 ma) :=
  PEimp (pe_callB callAny hg hm hv (pa_cons ha pa_nil he) hn hdb he rfl) fun σ H Q h => runCalV hc h
theorem jv_callT1 {id : String} {g1 : D → Option D} (hc : Cal1 X (.type id) g1) (hg : Gl X x) (hm : X.mg x = none) (hv : bootBuiltins x = some (.type id)) (ha : JV X T W a ma) (hn : x ≠ "__name__" := by decide) (hdb : (x == ("__debug__" : Str)) = false := by decide)
    (he : starEach [a] X.env = (false, eval a X.env) :: starEach [] X.env := by rfl) : JV X T W (.Call (.Name x p) [a] [] pos) (m1 g1 ma) :=
  PEimp (pe_callTy callAny hg hm hv (pa_cons ha pa_nil he) hn hdb he rfl) fun σ H Q h => runCalV hc h
theorem jv_fldV (hc : Cl X c C) (hn : NoAttr X.K C g) (ha : JV X T W a ma) (hb : attributeBase a g X.env (eval a X.env) = eval a X.env := by rfl) : JV X T W (.Attribute a g pos) (m1 (gFld c g) ma) := by
  refine PEimp (pe_fld ha hb) fun σ H Q ⟨e, F, er, h⟩ => ⟨e, F, er, h.bind.mono fun d e1 H1 F1 er1 mv1 h1 v hv => ?_⟩
  obtain ⟨z, hz, fin⟩ := h1.fin er1
  obtain ⟨a, dx, fs, w, rfl, h4, h5, h6⟩ := fld_ok er1.sub (Rp.rq er1.sub hv) hc hz
  exact ⟨a, C, dx, fs, w, rfl, h4, hc.cl, hn, h5, fin H1 F1 Al.refl w h6⟩
structure Prp (X : Cx) (k : Nat) (c : Str) (C : Addr) (y g : Str) : Prop where
  cl : Cl X c C
  ex : ∃ pp ga fd, PropOf X.K C y pp ga ∧ FnOk X.prog X.w X.K X.mg X.base CX0 k ga fd ["self"] (getSp C g) ∧ Binds X.K fd ["self"] []
theorem jv_propV {y : Str} (G : Prp X k c C y g) (hp : Pl X j) (ha : JV X T W a ma) (hj : k + 1 ≤ j := by decide) (hab : attributeBase a y X.env (eval a X.env) = eval a X.env := by rfl) : JV X T W (.Attribute a y pos) (m1 (gFld c g) ma) := by
  obtain ⟨pp, ga, fd, h1, h2, h3⟩ := G.ex
  refine PEimp (pe_prop (E := E0) (dvs := []) ha G.cl.cl h1 h2 (hp.room.mono hj) h3 .nil pass0 hab) fun σ H Q ⟨e, F, er, h⟩ => ⟨e, F, er, h.bind.mono fun d e1 H1 F1 er1 mv1 h1 v hv => ?_⟩
  obtain ⟨z, hz, fin⟩ := h1.fin er1
  obtain ⟨a, dx, fs, w, rfl, h4, h5, h6⟩ := fld_ok er1.sub (Rp.rq er1.sub hv) G.cl hz
  exact ⟨a, dx, fs, rfl, h4, a, dx, fs, w, rfl, h4, h5, fin H1 F1 Al.refl w h6⟩
theorem jv_c0 (G : Fn X k x (spF0 X.K X.mg false n f) ps dvs) (hp : Pl X j) (tk : L2N.Takes X W) (hdd : ∀ F, RpL X.K X.mg F dds dvs) (hg : Gl X x) (ha : JL X T W (a :: es) ms) (hk : k ≤ j := by decide) (hn : (a :: es).length + dds.length = n := by rfl)
    (hdb : (x == ("__debug__" : Str)) = false := by decide) (he : starEach (a :: es) X.env = (false, eval a X.env) :: starEach es X.env := by rfl) (hpl : (backTo pos (starEach es X.env)).any (·.1) = false := by rfl) :
    JV X T W (.Call (.Name x p) (a :: es) [] pos) (mC0 f dds ms) := jv_call0 G (hp.room.mono hk) hp.gu tk hdd hg ha hn hdb he hpl
theorem jo_c0 (G : Fn X k x (spF0 X.K X.mg true n f) ps dvs) (hp : Pl X j) (tk : L2N.Takes X W) (hdd : ∀ F, RpL X.K X.mg F dds dvs) (hg : Gl X x) (ha : JL X T W (a :: es) ms) (hk : k ≤ j := by decide) (hn : (a :: es).length + dds.length = n := by rfl)
    (hdb : (x == ("__debug__" : Str)) = false := by decide) (he : starEach (a :: es) X.env = (false, eval a X.env) :: starEach es X.env := by rfl) (hpl : (backTo pos (starEach es X.env)).any (·.1) = false := by rfl) :
    JO X T W (.Call (.Name x p) (a :: es) [] pos) (mC0 f dds ms) := jo_call0 G (hp.room.mono hk) hp.gu tk hdd hg ha hn hdb he hpl
theorem jv_c1 (i : Nat) {y : Str} {py : Pos} (G : Fn X k x (spF1 X.K X.mg false n f) ps dvs) (hp : Pl X j) (tk : L2N.Takes X W) (hdd : ∀ F, RpL X.K X.mg F dds dvs) (hg : Gl X x) (hN : X.N[i]? = some y) (hv : Vis X.env.scope y) (ha : JL X T W es ms) (hk : k ≤ j := by decide) (hn : es.length + dds.length + 1 = n := by rfl)
    (hdb : (x == ("__debug__" : Str)) = false := by decide) (he : starEach (.Name y py :: es) X.env = (false, eval (.Name y py) X.env) :: starEach es X.env := by rfl) (hpl : (backTo pos (starEach es X.env)).any (·.1) = false := by rfl)
    (hd2 : (y == ("__debug__" : Str)) = false := by decide) (hcd : (y == ("__classdict__" : Str)) = false := by decide) :
    JV X T W (.Call (.Name x p) (.Name y py :: es) [] pos) (mC1 f i dds ms) := jv_call1 G (hp.room.mono hk) hp.gu tk hdd hg hN hv ha hn hdb he hpl hd2 hcd
theorem nodd : ∀ F, RpL X.K X.mg F [] [] := fun F => by rw [rl_nil]
end
abbrev FnC (P : Program) (w : World) (K : PySem.W.Frag) (mg : Str → Option Value) (base : Heap) (k : Nat) (x : Str) (sp : Sp) (ps : List Str) (dvs : List V) : Prop :=
  ∃ f fd ds, FnG P w K mg base k f fd ps sp ∧ mg x = some (.ref f) ∧ PySem.W.keepIn K (.ref f) = true ∧ Binds K fd ps ds ∧ Vals dvs ds
end Sr
namespace Sr
open PySem hiding start
open PySem.Spec L2
open PyProof.Rows hiding St
theorem DefZ.funD {K : PySem.W.Frag} {d : DefZ} (e : fnZ K (d.ad K) = d.val) (c : d.ok K = true) : ∃ fd, FunD K d.name d.qual (defArgs d.st) (defBody d.st) (defScope d.st) [] d.kwd (d.ad K) fd := by
  obtain ⟨kp, c2⟩ := He.ba c
  unfold fnZ at e
  cases q : K.lookup (d.ad K) with
  | none => rw [q] at c2; cases c2
  | some o =>
    obtain ⟨oc, od, dt, osl⟩ := o
    rw [q] at c2 e
    cases dt with
    | func fd =>
      obtain ⟨n1, n2, n3, n4, n5, n6, n7, n8, n9, n10, n11, n12, n13, n14, n15⟩ := fd
      have e2 : (some (n1, n2, n3, n4, n5, n6, n7, n15) : He.FnW) = some (d.name, d.qual, defArgs d.st, .stmts (defBody d.st), defScope d.st, mainGlobals, [], builtinsNs) := e
      simp only [Option.some.injEq, Prod.mk.injEq] at e2
      obtain ⟨h1, h2, h3, h4, h5, h6, h7, h8⟩ := e2
      subst h1 h2 h3 h4 h5 h6 h7 h8
      have c3 : (PySem.W.codeIn K n13 d.qual && (He.dflB K n8 [] && He.kwdB K n9 d.kwd)) = true := c2
      obtain ⟨k1, k2⟩ := He.ba c3
      obtain ⟨k3, k4⟩ := He.ba k2
      exact ⟨_, ⟨oc, od, n8, n9, n10, n11, n12, n13, n14, osl, rfl, q, k1, He.dflB_ok k3, He.kwdB_ok k4⟩, kp⟩
    | _ => cases c2
section
variable {fa : List He.Fa} {fn : List DefZ} {ex : PySem.W.Frag → Bool} {K : PySem.W.Frag}
theorem SaysZ.fact (c : SaysZ fa fn ex K) (i : Nat) {f : He.Fa} (h : fa[i]? = some f := by rfl) : f.ok K = true := List.all_eq_true.mp c.all.1 f (List.mem_of_getElem? h)
theorem SaysZ.def_ (c : SaysZ fa fn ex K) (i : Nat) {d : DefZ} (h : fn[i]? = some d := by rfl) : ∃ fd, FunD K d.name d.qual (defArgs d.st) (defBody d.st) (defScope d.st) [] d.kwd (d.ad K) fd := by
  have e : fn.map (fun d => fnZ K (d.ad K)) = fn.map DefZ.val := congrArg (fun z : AlZ => z.2) c
  have e2 : (fn.map fun d => fnZ K (d.ad K))[i]? = (fn.map DefZ.val)[i]? := by rw [e]
  rw [List.getElem?_map, List.getElem?_map, h] at e2
  exact DefZ.funD (Option.some.inj e2) (List.all_eq_true.mp c.all.2.1 d (List.mem_of_getElem? h))
end
theorem propB_ok {K : PySem.W.Frag} {c f : Str} (h : propB K c f = true) : PropOf K (He.ga K c) f (prG K c f).1 (prG K c f).2 := by
  unfold propB at h
  simp only [Bool.and_eq_true, decide_eq_true_eq] at h
  obtain ⟨h1, h2, h3, h4⟩ := h
  refine ⟨h1, h2, h3, ?_⟩
  split at h4
  · rename_i g r e
    rw [decide_eq_true_eq] at h4
    rw [← h4]; exact ⟨r, e⟩
  · cases h4
theorem cliB_ok {K : PySem.W.Frag} {mg : Str → Option Value} {c : Str} (hc : ClK K mg c (He.ga K c)) (h : cliB K c = true) : ClI K mg c (He.ga K c) := by
  unfold cliB at h
  simp only [Bool.and_eq_true, decide_eq_true_eq] at h
  exact ⟨hc, h.1, h.2.1, h.2.2.1, h.2.2.2⟩
theorem noKd_ok {K : PySem.W.Frag} {c : Str} (h : noKd K c = true) : ∀ n b, (fun _ : Kd => some false) n = some b → PySem.W.kitOne K (.type n.nm) (.ref (He.ga K c)) = some b := by
  intro n b e
  cases e
  have hm : n ∈ allKd := by cases n <;> decide
  exact of_decide_eq_true (List.all_eq_true.mp h n hm)
theorem ownB_ok {K : PySem.W.Frag} {mg : Str → Option Value} {u : Value} {l : List (Str × Bool)} (h : ownB K u l = true) (hC : ∀ q ∈ l, ClI K mg q.1 (He.ga K q.1)) : ∀ c b, l.lookup c = some b → ∃ C, ClI K mg c C ∧ PySem.W.kitOne K (.ref C) u = some b := by
  intro c b e
  have hm : (c, b) ∈ l := PySem.mem_of_lookup e
  exact ⟨_, hC (c, b) hm, of_decide_eq_true (List.all_eq_true.mp h (c, b) hm)⟩
def gMul : D → D → Option D := gMulI
theorem o_mul [TabL] {X : Cx} : Op2 X (binaryOp .Mult) gMul := o_mulI
end Sr
namespace Sr
variable [TabL]
open PySem hiding start
open PySem.Spec L2
open PyProof.Rows hiding St
theorem bt_len : bootBuiltins "len" = some (.builtin "len") := by decide +kernel
theorem bt_max : bootBuiltins "max" = some (.builtin "max") := by decide +kernel
theorem bt_min : bootBuiltins "min" = some (.builtin "min") := by decide +kernel
theorem bt_repr : bootBuiltins "repr" = some (.builtin "repr") := by decide +kernel
theorem bt_all : bootBuiltins "all" = some (.builtin "all") := by decide +kernel
theorem bt_int : bootBuiltins "int" = some (.type "int") := by decide +kernel
theorem bt_bool : bootBuiltins "bool" = some (.type "bool") := by decide +kernel
theorem bt_str : bootBuiltins "str" = some (.type "str") := by decide +kernel
theorem bt_tuple : bootBuiltins "tuple" = some (.type "tuple") := by decide +kernel
theorem fn_get {P : Program} {w : World} {K : PySem.W.Frag} {mg : Str → Option Value} {base : Heap} {x qual f : Str} {st : Stmt} {kws : List (Str × V)} {fa C : Addr} {fd : FuncData} {p1 p2 p3 : Pos} (G : FunD K x qual (defArgs st) (defBody st) (defScope st) [] kws fa fd) (cl : Cls K C) (hn : NoAttr K C f)
    (S : FnScope ["self"] ["self"] (defScope st)) (hb : defBody st = [.Return (some (.Attribute (.Name "self" p1) f p2)) p3]) : FnOk P w K mg base CX0 1 fa fd ["self"] (getSp C f) := by
  refine G.ok S (fun vs H Q E h => ?_) (fun cdv A outer s H vs Q E hr h => ?_)
  · obtain ⟨a, dx, fs, v, rfl, _⟩ := h
    rfl
  · obtain ⟨a, dx, fs, v, rfl, h1, h2, h3⟩ := h
    have hv : Vis (defScope st) "self" := by
      rcases S.par "self" (by simp) with q | q
      · exact .inl q
      · exact .inr (.inl q)
    rw [hb]
    refine ⟨_, pss_one (ps_ret (pe_fld (pe_var (i := 0) rfl hv) rfl)), ?_⟩
    exact ⟨_, rfl, a, C, dx, fs, v, rfl, h1, cl, hn, h2, h3⟩
theorem kbn0 {K : PySem.W.Frag} {fd : FuncData} {ps : List Str} (h : Binds K fd ps []) : KBn K fd ps ps.length [] (fun us _ => us) (fun vs _ => vs) := by
  refine ⟨fun s us ws X l1 l2 => ?_, fun r _ => r⟩
  have e : ws = [] := List.length_eq_zero_iff.mp l2
  subst e
  have b := h s us X (by rw [List.append_nil]; exact l1)
  rw [List.append_nil] at b
  exact b
end Sr
namespace Sr
open PySem hiding start
open L2
section
variable {A B : Type}
theorem bnd_ok {m : M A} {f : A → M B} {e e' : En} {a : A} (h : m e = .ok a e') : bnd m f e = f a e' := by unfold bnd; rw [h]
theorem bnd_exc {m : M A} {f : A → M B} {e e' : En} {x : Ex} (h : m e = .exc x e') : bnd m f e = .exc x e' := by unfold bnd; rw [h]
theorem sq_nx {s u : M Fl} {e e' : En} (h : s e = .ok .nx e') : sq s u e = u e' := by unfold sq; rw [h]
theorem lp_nx {b k : M Fl} {e e' : En} (h : b e = .ok .nx e') : lp b k e = k e' := by unfold lp; rw [h]
end
def turn (w : D → M Unit) (b : M Fl) (d : D) : M Fl := bnd (w d) fun _ => b
theorem forL_cons_nx {w : D → M Unit} {b : M Fl} {d : D} {ds : List D} {e e' : En} (h : turn w b d e = .ok .nx e') : forL w b (d :: ds) e = forL w b ds e' := by
  unfold turn bnd at h
  show bnd (w d) (fun _ => lp b (forL w b ds)) e = _
  unfold bnd
  cases q : w d e with
  | ok u e1 => rw [q] at h; exact lp_nx h
  | exc x e1 => rw [q] at h; cases h
  | bad => rw [q] at h; cases h
end Sr
namespace Sr
open PySem hiding start
open L2
def irng (lo hi : Int) : List Int := (List.range (hi - lo).toNat).map fun (i : Nat) => lo + i
theorem rngL_eq (lo hi : Int) : rngL lo hi = (irng lo hi).map D.int := by
  unfold rngL irng
  rw [List.map_map]; rfl
theorem irng_mem {lo hi i : Int} (h : i ∈ irng lo hi) : lo ≤ i ∧ i < hi := by
  unfold irng at h
  rw [List.mem_map] at h
  obtain ⟨n, h1, rfl⟩ := h
  rw [List.mem_range] at h1
  omega
theorem forL_map {A B : Type} {w : D → M Unit} {b : M Fl} (f : B → D) (R : A → En → Prop) (step : A → B → A) (a : A) (xs : List B) (e : En)
    (hs : ∀ pre x post, xs = pre ++ x :: post → ∀ e, R (pre.foldl step a) e → ∃ e', turn w b (f x) e = .ok .nx e' ∧ R (step (pre.foldl step a) x) e') (h0 : R a e) : ∃ e', forL w b (xs.map f) e = .ok .nx e' ∧ R (xs.foldl step a) e' := by
  suffices H : ∀ (pre post : List B) (e : En), xs = pre ++ post → R (pre.foldl step a) e → ∃ e', forL w b (post.map f) e = .ok .nx e' ∧ R (xs.foldl step a) e' from H [] xs e rfl h0
  intro pre post
  induction post generalizing pre with
  | nil => intro e h hR; rw [List.append_nil] at h; subst h; exact ⟨e, rfl, hR⟩
  | cons x post ih =>
    intro e h hR
    obtain ⟨e1, h1, h2⟩ := hs pre x post h e hR
    obtain ⟨e2, h3, h4⟩ := ih (pre ++ [x]) e1 (by rw [h]; simp) (by rw [List.foldl_append]; exact h2)
    exact ⟨e2, by rw [List.map_cons, forL_cons_nx h1]; exact h3, h4⟩
theorem cmul_l {i j : Int} (h1 : -18446744073709551616 < i) (h2 : i < 18446744073709551616) : cMul i j = true := by
  unfold cMul; simp; left; exact ⟨h1, h2⟩
def PenOk (o : D) : Prop := ∃ a b c : Int, o = .lst [.int a, .int b, .int c] ∧ 0 ≤ a ∧ 0 ≤ b ∧ b ≤ 2147483647
end Sr
namespace Sr
open PySem hiding start
open L2
structure Sh (d : D) (k n : Nat) (p : PyData) : Prop where
  eq : toP d = some p
  sh : p.showable = true
  nd : p.hasDict = false
  dp : p.depth ≤ k
  ln : p.shown.length ≤ n
structure ShL (ds : List D) (k n : Nat) (ps : List PyData) : Prop where
  eq : toPL ds = some ps
  sh : PyData.showableAll ps = true
  nd : PyData.hasDictAll ps = false
  dp : PyData.depthAll ps ≤ k
  ln : piled (PyData.shownAll ps) ≤ n
theorem tupleText_le (ts : List Str) : (tupleText ts).length ≤ piled ts + 3 := by
  unfold tupleText
  rw [strLen_append, strLen_append]
  have h1 : (("(" : Str)).length = 1 := by decide +kernel
  have h2 : (((if ts.length == 1 then ",)" else ")" : String) : Str)).length ≤ 2 := by split <;> decide +kernel
  cases ts with
  | nil =>
    have h3 : (Str.join ", " ([] : List Str)).length = 0 := by decide +kernel
    rw [h3]; omega
  | cons t r =>
    have h3 := join_length_add (t :: r) (by simp)
    omega
theorem short99 (i : Int) (h : 0 ≤ i ∧ i < 100) : (PyData.shown (.int i)).length ≤ 2 ∧ i.natAbs.log2 < 1920 := by
  have H : ∀ n : Fin 100, (PyData.shown (.int (n.val : Int))).length ≤ 2 ∧ (n.val : Int).natAbs.log2 < 1920 := by decide +kernel
  have := H ⟨i.toNat, by omega⟩
  have e : ((i.toNat : Nat) : Int) = i := by omega
  rw [e] at this
  exact this
theorem sh_int {i : Int} (h0 : 0 ≤ i) (h1 : i < 100) : Sh (.int i) 0 2 (.int i) := by
  obtain ⟨h2, h3⟩ := short99 i ⟨h0, h1⟩
  exact ⟨rfl, by simp only [PyData.showable, decide_eq_true_eq]; exact h3, rfl, Nat.le_refl _, h2⟩
theorem shl_nil : ShL [] 0 0 [] := ⟨rfl, rfl, rfl, Nat.le_refl _, Nat.le_refl _⟩
theorem shl_cons {d : D} {ds : List D} {k k' n n' : Nat} {p : PyData} {ps : List PyData} (h : Sh d k n p) (hs : ShL ds k' n' ps) : ShL (d :: ds) (max k k') (n + 2 + n') (p :: ps) := by
  refine ⟨by simp only [toPL, h.eq, hs.eq, Option.bind_some, Option.map_some], by simp only [PyData.showableAll, h.sh, hs.sh, Bool.and_self], by simp only [PyData.hasDictAll, h.nd, hs.nd, Bool.or_self], ?_, ?_⟩
  · have := h.dp; have := hs.dp; simp only [PyData.depthAll]; omega
  · have := h.ln; have := hs.ln; simp only [PyData.shownAll, piled_cons]; omega
theorem sh_tup {ds : List D} {k n : Nat} {ps : List PyData} (h : ShL ds k n ps) : Sh (.tup ds) (k + 1) (n + 3) (.tuple ps) := by
  refine ⟨by simp only [toP, h.eq, Option.map_some], by simp only [PyData.showable]; exact h.sh, by simp only [PyData.hasDict]; exact h.nd, ?_, ?_⟩
  · have := h.dp; simp only [PyData.depth]; omega
  · have := tupleText_le (PyData.shownAll ps); have := h.ln; simp only [PyData.shown]; omega
theorem repr_tup {ds : List D} {k n : Nat} {p : PyData} (h : Sh (.tup ds) k n p) (hk : k ≤ 64) (hn : n ≤ 16777216) : gRepr (.tup ds) = some (.str p.shown) := by
  have h1 := h.dp; have h2 := h.ln
  have hs : sizeLine = 16777216 := by decide
  simp only [gRepr, h.eq, h.sh, h.nd, Bool.not_false, Bool.and_true, Bool.true_and, Bool.and_eq_true, decide_eq_true_eq]
  rw [if_pos ⟨by omega, by rw [hs]; omega⟩]
end Sr
namespace Sr
variable [TabL]
open PySem hiding start
open PySem.Spec L2
open PyProof.Rows hiding St
def W0 : WX := fun _ _ _ _ => False
theorem takes0 {X : Cx} : L2N.Takes X W0 := fun u s' ⟨a, B, sI, pins, σ, H, cls, d, e, I, nb, up, sky, na, os, ag, w⟩ => w.elim
def wipE : List Nat → En → En
  | [], e => e
  | v :: vs, e => (wipE vs e).set v .no
def rst : List Nat → En → En → En
  | [], _, e2 => e2
  | v :: vs, e1, e2 => (rst vs e1 e2).set v (match e1[v]? with
    | some (.val d) => .val d
    | _ => .no)
theorem wipE_len : ∀ (vs : List Nat) (e : En), (wipE vs e).length = e.length
  | [], _ => rfl
  | v :: vs, e => by unfold wipE; rw [List.length_set, wipE_len vs e]
theorem rst_len : ∀ (vs : List Nat) (e1 e : En), (rst vs e1 e).length = e.length
  | [], _, _ => rfl
  | v :: vs, e1, e => by unfold rst; rw [List.length_set, rst_len vs e1 e]
theorem wipE_get : ∀ {vs : List Nat} {e : En} {j : Nat} {x : Sl}, (wipE vs e)[j]? = some x → x ≠ .no → j ∉ vs ∧ e[j]? = some x
  | [], e, j, x, h, _ => ⟨by simp, h⟩
  | v :: vs, e, j, x, h, n => by
    unfold wipE at h
    by_cases hj : v = j
    · subst hj
      by_cases hl : v < (wipE vs e).length
      · rw [List.getElem?_set_self hl] at h; cases h; exact (n rfl).elim
      · rw [List.getElem?_eq_none (by rw [List.length_set]; omega)] at h; cases h
    · rw [List.getElem?_set_ne hj] at h
      obtain ⟨h1, h2⟩ := wipE_get h n
      exact ⟨by simp only [List.mem_cons, not_or]; exact ⟨fun q => hj q.symm, h1⟩, h2⟩
theorem rst_get : ∀ {vs : List Nat} {e1 e : En} {j : Nat} {x : Sl}, (rst vs e1 e)[j]? = some x → x ≠ .no → (j ∉ vs ∧ e[j]? = some x) ∨ ((∃ d, x = .val d) ∧ e1[j]? = some x)
  | [], e1, e, j, x, h, _ => .inl ⟨by simp, h⟩
  | v :: vs, e1, e, j, x, h, n => by
    unfold rst at h
    by_cases hj : v = j
    · subst hj
      by_cases hl : v < (rst vs e1 e).length
      · rw [List.getElem?_set_self hl] at h
        cases q : e1[v]? with
        | none => rw [q] at h; cases h; exact (n rfl).elim
        | some s =>
          rw [q] at h
          cases s with
          | no => cases h; exact (n rfl).elim
          | own d => cases h; exact (n rfl).elim
          | val d => cases h; exact .inr ⟨⟨d, rfl⟩, rfl⟩
      · rw [List.getElem?_eq_none (by rw [List.length_set]; omega)] at h; cases h
    · rw [List.getElem?_set_ne hj] at h
      rcases rst_get h n with ⟨h1, h2⟩ | h1
      · exact .inl ⟨by simp only [List.mem_cons, not_or]; exact ⟨fun q => hj q.symm, h1⟩, h2⟩
      · exact .inr h1
theorem wipe_get {σ : St} {j : Nat} : ∀ {vs : List Nat}, (wipe σ vs)[j]? = if j ∈ vs ∧ j < σ.length then some none else σ[j]?
  | [] => by simp [wipe]
  | v :: vs => by
    unfold wipe
    by_cases hj : v = j
    · subst hj
      by_cases hl : v < σ.length
      · rw [List.getElem?_set_self (by rw [wipe_length]; exact hl), if_pos ⟨by simp, hl⟩]
      · rw [List.getElem?_eq_none (by rw [List.length_set, wipe_length]; omega), if_neg (fun z => hl z.2), List.getElem?_eq_none (by omega)]
    · rw [List.getElem?_set_ne hj, wipe_get (vs := vs)]
      have : j ∈ v :: vs ↔ j ∈ vs := by simp only [List.mem_cons]; exact ⟨fun z => z.elim (fun q => (hj q.symm).elim) id, .inr⟩
      simp only [this]
theorem wipe_set {σ : St} {i : Nat} {x : Option V} {vs : List Nat} (h : i ∈ vs) : wipe (σ.set i x) vs = wipe σ vs := by
  refine List.ext_getElem? fun j => ?_
  rw [wipe_get, wipe_get, List.length_set]
  by_cases hj : j ∈ vs ∧ j < σ.length
  · rw [if_pos hj, if_pos hj]
  · rw [if_neg hj, if_neg hj]
    by_cases hij : i = j
    · subst hij
      have : ¬ i < σ.length := fun z => hj ⟨h, z⟩
      rw [List.getElem?_eq_none (by rw [List.length_set]; omega), List.getElem?_eq_none (by omega)]
    · rw [List.getElem?_set_ne hij]
section
variable {K : PySem.W.Frag} {mg : Str → Option Value} {T : Pn} {W : WX} {e e0 e1 e2 : En} {σ σ0 : St} {H F H0 F0 H1 F1 F2 : Hp} {p : Addr} {o : HO} {vs : List Nat}
theorem Mv.updNew (m : Mv e0 σ0 H0 F0 e σ H F) (n : H0 p = none) : Mv e0 σ0 H0 F0 e σ (upd H p o) F := by
  refine ⟨m.sub, fun a u h w => ?_, m.new, fun a h => ?_⟩
  · obtain ⟨h1, h2⟩ := m.keep a u h w
    exact ⟨fun zz => by rw [upd_ne (ne_of_none h n)]; exact h1 zz, h2⟩
  · by_cases ha : a = p
    · subst ha; exact n
    · rw [upd_ne ha] at h; exact m.there a h
theorem ER.wip (er : ER K mg T e σ H F) (hT : ∀ v ∈ vs, NoP T v) : ER K mg T (wipE vs e) (wipe σ vs) H F ∧ Mv e σ H F (wipE vs e) (wipe σ vs) H F := by
  have ow : ∀ a, Ow (wipE vs e) (wipe σ vs) a → Ow e σ a := fun a ⟨j, d, h1, h2⟩ => by
    obtain ⟨h3, h4⟩ := wipE_get h1 (fun z => nomatch z)
    rw [wipe_out h3] at h2
    exact ⟨j, d, h4, h2⟩
  refine ⟨⟨er.sub, fun i d h => ?_, fun i d h => ?_, fun i j q d d' h1 h2 h3 h4 => ?_, by rw [wipE_len, wipe_length]; exact er.len, fun q hq => ?_, er.tb⟩, Same.refl _, fun a u h n => ⟨fun _ => h, fun z => n (ow a z)⟩, fun a u h => .inl h, fun a h => h⟩
  · obtain ⟨h1, h2⟩ := wipE_get h (fun z => nomatch z)
    obtain ⟨v, h3, h4⟩ := er.val i d h2
    exact ⟨v, by rw [wipe_out h1]; exact h3, h4⟩
  · obtain ⟨h1, h2⟩ := wipE_get h (fun z => nomatch z)
    obtain ⟨v, h3, h4⟩ := er.own i d h2
    exact ⟨v, by rw [wipe_out h1]; exact h3, h4⟩
  · obtain ⟨g1, g2⟩ := wipE_get h1 (fun z => nomatch z)
    obtain ⟨g3, g4⟩ := wipE_get h2 (fun z => nomatch z)
    rw [wipe_out g1] at h3; rw [wipe_out g3] at h4
    exact er.inj i j q d d' g2 g4 h3 h4
  · exact (er.pin q hq).slot (wipe_out (fun z => hT _ z q hq rfl))
theorem ER.rst (er : ER K mg T e2 (wipe σ vs) H F2) (er1 : ER K mg T e1 σ H1 F1) (mv : Mv e1 σ H1 F1 e2 (wipe σ vs) H F2) (hl : e2.length = e1.length) : ER K mg T (Sr.rst vs e1 e2) σ H F2 ∧ Mv e1 σ H1 F1 (Sr.rst vs e1 e2) σ H F2 := by
  have ow : ∀ j d, (Sr.rst vs e1 e2)[j]? = some (.own d) → j ∉ vs ∧ e2[j]? = some (.own d) := fun j d h => by
    rcases rst_get h (fun z => nomatch z) with h1 | ⟨⟨d', h1⟩, _⟩
    · exact h1
    · cases h1
  refine ⟨⟨er.sub, fun i d h => ?_, fun i d h => ?_, fun i j q d d' h1 h2 h3 h4 => ?_, by rw [rst_len, hl]; exact er1.len, er1.pinM mv.sub, er.tb⟩, mv.sub, fun a u h n => ?_, mv.new, mv.there⟩
  · rcases rst_get h (fun z => nomatch z) with ⟨h1, h2⟩ | ⟨_, h2⟩
    · obtain ⟨v, h3, h4⟩ := er.val i d h2
      exact ⟨v, by rw [wipe_out h1] at h3; exact h3, h4⟩
    · obtain ⟨v, h3, h4⟩ := er1.val i d h2
      exact ⟨v, h3, Rp.mono mv.sub _ _ h4⟩
  · obtain ⟨h1, h2⟩ := ow i d h
    obtain ⟨v, h3, h4⟩ := er.own i d h2
    exact ⟨v, by rw [wipe_out h1] at h3; exact h3, h4⟩
  · obtain ⟨g1, g2⟩ := ow i d h1
    obtain ⟨g3, g4⟩ := ow j d' h2
    exact er.inj i j q d d' g2 g4 (by rw [wipe_out g1]; exact h3) (by rw [wipe_out g3]; exact h4)
  · obtain ⟨h1, h2⟩ := mv.keep a u h n
    refine ⟨h1, fun ⟨j, d, q1, q2⟩ => h2 ?_⟩
    obtain ⟨g1, g2⟩ := ow j d q1
    exact ⟨j, d, g2, by rw [wipe_out g1]; exact q2⟩
end
def TH (K : PySem.W.Frag) (mg : Str → Option Value) (T : Pn) (vs : List Nat) (w : D → M Unit) : TG := fun v σ H Q => ∃ e F d, ER K mg T e σ H F ∧ Rp K mg F d v ∧
  match w d e with
  | .ok _ e' => ∀ σ' H' F', ER K mg T e' σ' H' F' → Mv e σ H F e' σ' H' F' → wipe σ' vs = wipe σ vs → Q σ' H'
  | _ => False
def THs (K : PySem.W.Frag) (mg : Str → Option Value) (T : Pn) (vs : List Nat) (w : List D → M Unit) : TGs := fun us σ H Q => ∃ e F ds, ER K mg T e σ H F ∧ RpL K mg F ds us ∧
  match w ds e with
  | .ok _ e' => ∀ σ' H' F', ER K mg T e' σ' H' F' → Mv e σ H F e' σ' H' F' → wipe σ' vs = wipe σ vs → Q σ' H'
  | _ => False
abbrev JH (X : Cx) (T : Pn) (vs : List Nat) (tg : Expr) (w : D → M Unit) : Prop := PG X tg (TH X.K X.mg T vs w)
abbrev JHs (X : Cx) (T : Pn) (vs : List Nat) (tg : List Expr) (w : List D → M Unit) : Prop := PGs X tg (THs X.K X.mg T vs w)
def lcL (w : D → M Unit) (t : M Bool) (el : M D) (vs : List Nat) : List D → List D → M (List D)
  | [], acc => ret acc
  | d :: ds, acc => bnd (w d) fun _ => bnd t fun b => if b = true then bnd el fun y => (if acc.length < sizeLine then fun e => lcL w t el vs ds (acc ++ [y]) (wipE vs e) else fun _ => .bad) else fun e => lcL w t el vs ds acc (wipE vs e)
def mLc (vs : List Nat) (m : M (List D)) (w : D → M Unit) (t : M Bool) (el : M D) : M D := bnd m fun ds e1 => match lcL w t el vs ds [] (wipE vs e1) with
  | .ok acc e2 => .ok (.lst acc) (rst vs e1 e2)
  | _ => .bad
def mYes : M Bool := ret true
theorem bnd_inv {A B : Type} {m : M A} {f : A → M B} {e e2 : En} {b : B} (h : bnd m f e = .ok b e2) : ∃ a e1, m e = .ok a e1 ∧ f a e1 = .ok b e2 := by
  unfold bnd at h
  cases q : m e with
  | ok a e1 => rw [q] at h; exact ⟨a, e1, rfl, h⟩
  | exc x e1 => rw [q] at h; cases h
  | bad => rw [q] at h; cases h
section
variable {X : Cx} {T : Pn} {W : WX} {pos : Pos}
theorem jh_name {i : Nat} {x : Str} {vs : List Nat} (hT : NoP T i) (hN : X.N.Nodup) (hi : X.N[i]? = some x) (hx : Loc X.env.scope x) (hm : i ∈ vs) (hf : X.fn x = true ∨ X.env.scope.names.lookup x = some .local := by first | exact .inl rfl | exact .inr rfl | assumption) : JH X T vs (.Name x pos) (gN i) := by
  refine ⟨fun pins s σ H v u Q I r h => (pg_name hN hi hx hf).run pins s σ H v u Q I r ?_⟩
  obtain ⟨e, F, d, er, rd, h⟩ := h
  obtain ⟨er2, mv2⟩ := er.setV hT rd
  exact h _ H F er2 mv2 (wipe_set hm)
theorem jhs_nil {vs : List Nat} : JHs X T vs [] gsN := by
  refine ⟨fun pins s σ H us u Q I r h => pgs_nil.run pins s σ H us u Q I r ?_⟩
  obtain ⟨e, F, ds, er, rd, h⟩ := h
  cases ds with
  | nil => rw [rl_nil] at rd; exact ⟨rd, h σ H F er Mv.refl rfl⟩
  | cons d ds => exact h.elim
theorem jhs_cons {e : Expr} {es : List Expr} {vs : List Nat} {w : D → M Unit} {ws : List D → M Unit} (h1 : JH X T vs e w) (h2 : JHs X T vs es ws)
    (hs : (assignEach (e :: es) X.env).map (·.2) = assign e X.env :: (assignEach es X.env).map (·.2) := by rfl) : JHs X T vs (e :: es) (gsC w ws) := by
  refine ⟨fun pins s σ H us u Q I r h => (pgs_cons h1 h2 hs).run pins s σ H us u Q I r ?_⟩
  obtain ⟨e, F, ds, er, rd, h⟩ := h
  cases ds with
  | nil => exact h.elim
  | cons d ds =>
    rw [rl_cons] at rd
    obtain ⟨v, us, rfl, rd, rl⟩ := rd
    refine ⟨v, us, rfl, e, F, d, er, rd, ?_⟩
    simp only [gsC, bnd] at h
    cases q : w d e with
    | ok u e1 =>
      rw [q] at h
      dsimp only at h ⊢
      intro σ1 H1 F1 er1 mv1 w1
      refine ⟨e1, F1, ds, er1, RpL.mono mv1.sub _ _ rl, ?_⟩
      cases q2 : ws ds e1 with
      | ok u e2 => rw [q2] at h; exact fun σ' H' F' er' mv' w2 => h σ' H' F' er' (mv1.trans mv') (w2.trans w1)
      | exc x e2 => rw [q2] at h; exact h
      | bad => rw [q2] at h; exact h
    | exc x e1 => rw [q] at h; exact h
    | bad => rw [q] at h; exact h
theorem jh_tup {es : List Expr} {k : Nat} {vs : List Nat} {ws : List D → M Unit} {n : Nat} (hc : X.calm = true) (h : JHs X T vs es ws)
    (hn : (assignEach es X.env).length = n := by rfl) (hst : (assignEach es X.env).findIdx? (·.1) = none := by rfl) : JH X T vs (.Tuple es k pos) (gT n ws) := by
  refine ⟨fun pins s σ H v u Q I r q => (pg_tup hc h hn hst).run pins s σ H v u Q I r ?_⟩
  obtain ⟨e, F, d, er, rd, q⟩ := q
  unfold gT at q
  split at q
  · rename_i u e' hh
    split at hh
    · rename_i ds
      rw [rp_tup] at rd
      obtain ⟨a, xs, rfl, rd, rl⟩ := rd
      split at hh
      · rename_i hl
        refine ⟨a, xs, rfl, seqT_mono er.sub rd, by rw [← rl.len]; exact hl, e, F, ds, er, rl, ?_⟩
        rw [hh]; exact q
      · cases hh
    · rename_i ds
      rw [rp_ct] at rd
      obtain ⟨a, xs, rfl, rd, rl⟩ := rd
      split at hh
      · rename_i hl
        refine ⟨a, xs, rfl, seqC_mono er.sub rd, by rw [← rl.len]; exact hl, e, F, ds, er, rl, ?_⟩
        rw [hh]; exact q
      · cases hh
    · cases hh
  · exact q.elim
abbrev JTs (X : Cx) (T : Pn) (W : WX) (ifs : List Expr) (m : M Bool) : Prop := PTs X ifs (TT' X.K X.mg T W m)
theorem jts_nil : JTs X T W [] mYes := ⟨fun pins s σ H Q I ⟨e, F, er, h⟩ => pts_nil.run pins s σ H Q I (h H F er Mv.refl)⟩
theorem jts_one {c : Expr} {t : M Bool} (h : JT X T W c t) : JTs X T W [c] t := pts_one h
theorem lc_imp {vs : List Nat} {m : M (List D)} {w : D → M Unit} {t : M Bool} {el : M D} {σ : St} {H : Hp} {Q : VK} (hT : ∀ v ∈ vs, NoP T v) (h : TO X.K X.mg T W (mLc vs m w t el) σ H Q) : tLc (TIt X.K X.mg T W m) (TH X.K X.mg T vs w) (TT' X.K X.mg T W0 t) (TV X.K X.mg T W0 el) vs σ H Q := by
  obtain ⟨e, F, er, h⟩ := h
  refine ⟨e, F, er, h.bind.mono fun ds e1 H1 F1 er1 mv1 h1 J wk D hD => ?_⟩
  obtain ⟨G, Y, wlk, hG, hY⟩ := wk
  unfold RunAt at h1
  cases q : lcL w t el vs ds [] (wipE vs e1) with
  | exc x e2 => simp only [q] at h1
  | bad => simp only [q] at h1
  | ok acc eF =>
    simp only [q] at h1
    obtain ⟨erw, mvw⟩ := er1.wip (vs := vs) hT
    have fD : F1 D = none := er1.sub.free hD
    have nD : ¬ Ow (wipE vs e1) (wipe σ vs) D := Ow.ne_of_free erw hD
    refine lc_it wlk (fun i H' => ∃ e2 F2 ac xs, ER X.K X.mg T e2 (wipe σ vs) H' F2 ∧ Mv e1 σ H1 F1 e2 (wipe σ vs) H' F2 ∧ F2 D = none ∧ ¬ Ow e2 (wipe σ vs) D ∧ H' D = some (.lst xs) ∧ RpL X.K X.mg F2 ac xs ∧ lcL w t el vs (ds.drop i) ac e2 = .ok acc eF)
      ⟨wipE vs e1, F1, [], [], erw.updFree fD nD, mvw.updNew hD, fD, nD, upd_same, by rw [rl_nil], q⟩ (fun i H' _ ⟨e2, F2, ac, xs, er2, mv2, _⟩ => hG H' (mv2.sub.trans er2.sub)) ?_ ?_
    · rintro i x H2 H3 hi ⟨e2, F2, ac, xs, er2, mv2, fD2, nD2, hD2, rl2, q2⟩ y
      obtain ⟨F3, d, al, hd, rd⟩ := hY i H2 F2 x H3 hi mv2.sub er2.sub y
      have er3 := er2.al al
      have mv3 := mv2.trans (Mv.al er2 al)
      have keepD : ∀ {e4 : En} {σ4 : St} {H4 F4 : Hp}, Mv e2 (wipe σ vs) H2 F2 e4 σ4 H4 F4 → H4 D = some (.lst xs) ∧ ¬ Ow e4 σ4 D ∧ F4 D = none := fun {e4 σ4 H4 F4} mv => by
        obtain ⟨k1, k2⟩ := mv.keep D _ hD2 nD2
        refine ⟨k1 (by first | assumption | (intro _ z; exact nomatch z) | (intro _ z; cases z)), k2, ?_⟩
        cases z : F4 D with
        | none => rfl
        | some u =>
          rcases mv.new D u z with z | z | z
          · rw [fD2] at z; cases z
          · rw [hD2] at z; cases z
          · exact (nD2 z).elim
      have hdr : ds.drop i = d :: ds.drop (i + 1) := by
        rw [List.drop_eq_getElem_cons hi]
        have : ds[i] = d := by rw [List.getElem?_eq_getElem hi] at hd; exact Option.some.inj hd
        rw [this]
      rw [hdr] at q2
      unfold lcL at q2
      obtain ⟨_, e4, w4, q2⟩ := bnd_inv q2
      obtain ⟨b, e5, t5, q2⟩ := bnd_inv q2
      refine ⟨e2, F3, d, er3, rd, ?_⟩
      rw [w4]
      intro σ4 H4 F4 er4 mv4 ws
      refine ⟨ws.trans (by refine List.ext_getElem? fun j => ?_; rw [wipe_get, wipe_get, wipe_length]; by_cases hj : j ∈ vs ∧ j < σ.length <;> simp only [hj, if_true, if_false, and_self]), e4, F4, er4, RunAt.of t5 fun H5 F5 er5 mv5 => ?_⟩
      cases b with
      | false =>
        rw [if_neg (by decide)] at q2 ⊢
        have mm := ((Mv.al er2 al).trans mv4).trans mv5
        obtain ⟨k1, k2, k3⟩ := keepD mm
        obtain ⟨er6, mv6⟩ := er5.wip (vs := vs) hT
        have wz : wipe σ4 vs = wipe σ vs := ws.trans (by refine List.ext_getElem? fun j => ?_; rw [wipe_get, wipe_get, wipe_length]; by_cases hj : j ∈ vs ∧ j < σ.length <;> simp only [hj, if_true, if_false, and_self])
        rw [wz] at er6 mv6
        have mm2 := mm.trans mv6
        obtain ⟨_, k2', _⟩ := keepD mm2
        exact ⟨_, F5, ac, xs, er6, mv2.trans mm2, k3, k2', k1, RpL.mono mm.sub _ _ rl2, q2⟩
      | true =>
        rw [if_pos rfl] at q2 ⊢
        obtain ⟨y', e6, el6, q2⟩ := bnd_inv q2
        refine ⟨e5, F5, er5, RunAt.of el6 fun H6 F6 er6 mv6 v hv => ?_⟩
        have mm := (((Mv.al er2 al).trans mv4).trans mv5).trans mv6
        obtain ⟨k1, k2, k3⟩ := keepD mm
        split at q2
        · rename_i hz
          obtain ⟨er7, mv7⟩ := er6.wip (vs := vs) hT
          have wz : wipe σ4 vs = wipe σ vs := ws.trans (by refine List.ext_getElem? fun j => ?_; rw [wipe_get, wipe_get, wipe_length]; by_cases hj : j ∈ vs ∧ j < σ.length <;> simp only [hj, if_true, if_false, and_self])
          rw [wz] at er7 mv7
          have mm2 := mm.trans mv7
          obtain ⟨_, k2', _⟩ := keepD mm2
          have rl6 := RpL.mono mm.sub _ _ rl2
          refine ⟨xs, k1, by rw [← rl2.len]; exact hz, _, F6, ac ++ [y'], xs ++ [v], er7.updFree k3 k2', (mv2.trans mm2).updNew hD, k3, k2', upd_same, rl6.append (by rw [rl_cons]; exact ⟨v, [], rfl, hv, by rw [rl_nil]⟩), q2⟩
        · cases q2
    · rintro H2 ⟨e2, F2, ac, xs, er2, mv2, fD2, nD2, hD2, rl2, q2⟩
      rw [List.drop_length] at q2
      have hl : e2.length = e1.length := by rw [er2.len, wipe_length, er1.len]
      cases q2
      obtain ⟨er3, mv3⟩ := er2.rst er1 mv2 hl
      refine h1 H2 F2 er3 mv3 D (mv1.there D hD) fD2 (fun z => nD2 (by
        obtain ⟨j, d, q1, q2⟩ := z
        rcases rst_get q1 (fun z => nomatch z) with ⟨g1, g2⟩ | ⟨⟨d', g1⟩, _⟩
        · exact ⟨j, d, g2, by rw [wipe_out g1]; exact q2⟩
        · cases g1)) ⟨xs, hD2, rl2⟩
theorem mLc_nd {vs : List Nat} {m : M (List D)} {w : D → M Unit} {t : M Bool} {el : M D} : ∀ (d : D) (e e1 : En), mLc vs m w t el e = .ok d e1 → isDkD d = false := by
  intro d e e1 h
  unfold mLc at h
  obtain ⟨ds, e2, _, h⟩ := bnd_inv h
  try dsimp only at h
  split at h
  · cases h; rfl
  · cases h
theorem to_tv {K : PySem.W.Frag} {mg : Str → Option Value} {m : M D} {σ : St} {H : Hp} {Q : VK} (h : TV K mg T W m σ H Q) (nd : ∀ d e e1, m e = .ok d e1 → isDkD d = false) : TO K mg T W m σ H Q := by
  obtain ⟨e, F, er, q⟩ := h
  refine ⟨e, F, er, ?_⟩
  unfold RunAt at q ⊢
  cases z : m e with
  | ok d e1 =>
    rw [z] at q
    intro H' F' er' mv' p hp fp np ow
    obtain ⟨o, ho⟩ := ow.there
    refine q H' (upd F' p o) (er'.freeze fp np ho (ow.nt ho)) ⟨mv'.sub.trans (same_upd fp), mv'.keep, fun a u ha => ?_, mv'.there⟩ _ (ow.rp fp ho (nd _ _ _ z))
    by_cases hb : a = p
    · subst hb; exact .inr (.inl hp)
    · rw [upd_ne hb] at ha; exact mv'.new a u ha
  | exc x e1 => rw [z] at q; exact q
  | bad => rw [z] at q; exact q
theorem Pl.blk {k : Nat} {s : Shared} {H : Hp} {scope : Scope} {en : Env} {fp : List Addr} (h : Pl X k) : Pl (X.blk s H scope en fp) k := ⟨h.room, h.gu⟩
section
variable {elt tg iter : Expr} {ifs : List Expr} {scope : Scope} {m : M (List D)} {w : D → M Unit} {t : M Bool} {el : M D} {k : Nat}
theorem jo_lc (own : List (Str × Nat)) (hp : Pl X k) (hc : X.calm = true) (hN : X.N.Nodup) (hT : ∀ v ∈ own.map (·.2), NoP T v) (ok : BlkOk X.N X.env.scope scope own) (hi : JI X T W tg iter m)
    (hg : ∀ (s : Shared) (H : Hp) (C : Addr) (cl : List (Str × Addr)) (fp : List Addr), Pl (X.blk s H scope (compEnvC scope cl C X.env) fp) k → JH (X.blk s H scope (compEnvC scope cl C X.env) fp) T (own.map (·.2)) tg w)
    (ht : ∀ (s : Shared) (H : Hp) (C : Addr) (cl : List (Str × Addr)) (fp : List Addr), Pl (X.blk s H scope (compEnvC scope cl C X.env) fp) k → JTs (X.blk s H scope (compEnvC scope cl C X.env) fp) T W0 ifs t)
    (he : ∀ (s : Shared) (H : Hp) (C : Addr) (cl : List (Str × Addr)) (fp : List Addr), Pl (X.blk s H scope (compEnvC scope cl C X.env) fp) k → JV (X.blk s H scope (compEnvC scope cl C X.env) fp) T W0 elt el) (hs : ∀ x, foldedSetIterable iter X.env x = pure x := by intro _; rfl) :
    JO X T W (.ListComp elt [⟨tg, iter, ifs, 0⟩] scope pos) (mLc (own.map (·.2)) m w t el) :=
  PEimp (pe_lc (g := TH X.K X.mg T (List.map (fun q : Str × Nat => q.2) own) w) (tt := TT' X.K X.mg T W0 t) (te := TV X.K X.mg T W0 el) hc hN hi ok (fun s H C cl fp => hg s H C cl fp hp.blk) (fun s H C cl fp => ht s H C cl fp hp.blk) (fun s H C cl fp => he s H C cl fp hp.blk) hs) fun σ H Q h => lc_imp hT h
theorem js_setLc {i : Nat} {y : Str} {py spos : Pos} (own : List (Str × Nat)) (hp : Pl X k) (hc : X.calm = true) (hN : X.N.Nodup) (hT : ∀ v ∈ own.map (·.2), NoP T v) (ok : BlkOk X.N X.env.scope scope own) (hTi : NoP T i) (hy : X.N[i]? = some y) (hyl : X.env.scope.names.lookup y = some .local)
    (hsw : swapsWith (.ListComp elt [⟨tg, iter, ifs, 0⟩] scope pos) (some (.Name y py)) spos.line X.env = pure true) (hi : JI X T W tg iter m)
    (hg : ∀ (s : Shared) (H : Hp) (C : Addr) (cl : List (Str × Addr)) (fp : List Addr), Pl (X.blk s H scope (compEnvC scope cl C X.env) fp) k → JH (X.blk s H scope (compEnvC scope cl C X.env) fp) T (own.map (·.2)) tg w)
    (ht : ∀ (s : Shared) (H : Hp) (C : Addr) (cl : List (Str × Addr)) (fp : List Addr), Pl (X.blk s H scope (compEnvC scope cl C X.env) fp) k → JTs (X.blk s H scope (compEnvC scope cl C X.env) fp) T W0 ifs t)
    (he : ∀ (s : Shared) (H : Hp) (C : Addr) (cl : List (Str × Addr)) (fp : List Addr), Pl (X.blk s H scope (compEnvC scope cl C X.env) fp) k → JV (X.blk s H scope (compEnvC scope cl C X.env) fp) T W0 elt el) (hs : ∀ x, foldedSetIterable iter X.env x = pure x := by intro _; rfl) :
    JS X T W (.Assign [.Name y py] (.ListComp elt [⟨tg, iter, ifs, 0⟩] scope pos) spos) (sSet i (mLc (own.map (·.2)) m w t el)) :=
  PSimp (ps_setLc (g := TH X.K X.mg T (List.map (fun q : Str × Nat => q.2) own) w) (tt := TT' X.K X.mg T W0 t) (te := TV X.K X.mg T W0 el) hc hN hy hyl hsw hi ok (fun s H C cl fp => hg s H C cl fp hp.blk) (fun s H C cl fp => ht s H C cl fp hp.blk) (fun s H C cl fp => he s H C cl fp hp.blk) hs) fun Dn σ H h => lc_imp hT (to_tv (run_set hTi h) mLc_nd)
end
end
end Sr
namespace Sr
variable [TabL]
open PySem hiding start
open PySem.Spec L2
open PyProof.Rows hiding St
structure Rai (K : PySem.W.Frag) (mg : Str → Option Value) (x : Str) : Prop where
  g : mg x = some (.ref (He.ga K x))
  q : PySem.W.excIn K (He.ga K x) He.veBase "ValueError.__new__" = true
  k : PySem.W.keepIn K (.ref (He.ga K x)) = true
  s : PySem.W.subIn K (.ref (He.ga K x)) (.type "BaseException") = some true
  t : PySem.W.typeIn K (.ref (He.ga K x)) = some (.type "type")
theorem rai_of {K : PySem.W.Frag} {mg : Str → Option Value} {x : Str} (g : mg x = some (.ref (He.ga K x))) (c : (He.Fa.exc x).ok K = true) : Rai K mg x := by
  obtain ⟨h1, h2, h3, h4⟩ := He.exc_ok c
  exact ⟨g, h1, h2, h3, h4⟩
def sRaise (x : Str) : M Fl := fun e => .exc ⟨x, []⟩ e
section
variable {X : Cx} {T : Pn} {W : WX} {pos : Pos}
theorem js_raise {x m : Str} {j : Nat} {p p2 pos' : Pos} (hc : X.calm = true) (tk : L2N.Takes X W) (R : Rai X.K X.mg x) (hg : Gl X x) (hdb : (x == ("__debug__" : Str)) = false := by decide) :
    JS X T W (.Raise (some (.Call (.Name x p) [.Constant (.str m) j p2] [] pos')) none pos) (sRaise x) :=
  PSimp (L2N.ps_raise hc tk (L2N.pmk_own PySem.F.excBase_ValueError R.q R.g R.k (raises_own R.s R.t) hg hdb)) fun Dn σ H ⟨e, F, er, h⟩ => h σ H F _ none er Mv.refl ⟨R.g, .inl ⟨rfl, rfl⟩⟩
end
section
variable {K : PySem.W.Frag} {mg : Str → Option Value} {T : Pn} {e : En} {σ : St} {H F : Hp} {i : Nat}
theorem ER.pinnedX {a : Pa} (er : ER K mg T e σ H F) (h : PnOk K mg σ F (i, a)) : ER K mg ((i, a) :: T) e σ H F := ⟨er.sub, er.val, er.own, er.inj, er.len, fun q hq => by
  rcases List.mem_cons.mp hq with rfl | hq
  · exact h
  · exact er.pin q hq, er.tb⟩
end
section
variable {X : Cx} {T : Pn} {W : WX} {pos : Pos} {k : Nat}
theorem Pl.tr {pn : List (Addr × Obj)} {xe : Value → Shared → Prop} (h : Pl X k) : Pl (X.tr pn xe) k := ⟨h.room, h.gu⟩
def Cat (K : PySem.W.Frag) (mg : Str → Option Value) (c : Value) (ct : Str → Option Bool) : Prop := ∀ y b, ct y = some b → ∀ cl, mg y = some cl → PySem.W.exmOne K cl c = some b
def IsE (K : PySem.W.Frag) (mg : Str → Option Value) (cv : Value) (tbl : List (Str × Bool)) : Prop := ∀ c b, tbl.lookup c = some b → ∃ C, mg c = some (.ref C) ∧ ExcC K C ∧ PySem.W.kitOne K (.ref C) cv = some b
def mIsE (tbl : List (Str × Bool)) (ex : Ex) : M D := opt ((tbl.lookup ex.c).map .bl)
def rIsX (K : PySem.W.Frag) (D a : Addr) (d : Option Addr) : List V → Hp → VK → Prop := fun xs H Q => (∀ dd, d = some dd → ∃ gs, H dd = some (.xd gs)) ∧ ∃ (c : V) (cv : Value) (b : Bool), xs = [.ref a, c] ∧ (∀ u, RelV c u → u = cv) ∧ PySem.W.kitOne K (.ref D) cv = some b ∧ Q (.bl b) H
theorem call_isX {a D : Addr} {d : Option Addr} {oe : Obj} (C : ExcC X.K D) (hz : Zc (.ref D) d oe) (hf : ∃ vs, oe.data = .fields vs) (hpn : (a, oe) ∈ X.pn) : CallR X (.builtin "isinstance") (rIsX X.K D a d) := by
  intro pins s σ H xs us Q I r h
  obtain ⟨hdd, c, cv, b, rfl, hcv, e, q⟩ := h
  cases r with
  | cons rx rr =>
    cases rr with
    | cons rt rr =>
      cases rr
      cases rx
      have ec := hcv _ rt
      subst ec
      obtain ⟨hget, _⟩ := I.pin (a, oe) (List.mem_append.mpr (.inl hpn))
      obtain ⟨vs, hv⟩ := hf
      obtain ⟨od, J⟩ : ∃ od, PySem.W.InstAt s.heap a oe D od := by
        obtain ⟨oc, od, oda, osl⟩ := oe
        obtain ⟨h1, h2⟩ := hz
        dsimp only at h1 h2 hv
        subst h1 h2 hv
        cases od with
        | none => exact ⟨none, hget, rfl, rfl, trivial⟩
        | some dd =>
          obtain ⟨gs, hg⟩ := hdd dd rfl
          have hx : ObjOk X.prog X.w H s.heap dd (.xd gs) := I.hok dd _ hg
          obtain ⟨mA, hns, hr⟩ := hx
          obtain ⟨od, ho, hl⟩ := lookIn_ns hns
          exact ⟨some od, hget, rfl, rfl, ho⟩
      exact PySem.W.kia_one (PySem.W.kitx_exc (by obtain ⟨cd, hc, _⟩ := PySem.W.any_some C.hd; rw [hc]; rfl) C.hg C.hk C.hs C.ha C.hn C.ht C.hm) I.kIn J e (fun z => nomatch z) fun tk => ⟨.bl b, H, I.kept (t' := tk) fun _ _ z => z, rfl, q⟩
theorem jv_isX {a : Addr} {pa : Pa} {oe : Obj} {cls : Value} {d : Option Addr} {ex : Ex} {i : Nat} {n y : Str} {p p1 p2 : Pos} {cv : Value} {c : V} {tbl : List (Str × Bool)} {ty : TE} (hi : IsE X.K X.mg cv tbl) (hz : L2N.Zn cls d oe) (hfs : ∃ vs, oe.data = .fields vs) (hpn : (a, oe) ∈ X.pn) (hm : X.mg ex.c = some cls) (hd0 : PaX pa a d ex)
    (hcv : ∀ u, RelV c u → u = cv) (hy : PE X (.Name y p2) ty) (hty : ∀ σ H Q, Q c H → ty σ H Q)
    (hg : Gl X "isinstance") (hmi : X.mg "isinstance" = none) (hN : X.N[i]? = some n) (hv : Vis X.env.scope n) (hdn : (n == ("__debug__" : Str)) = false := by decide) (hcd : (n == ("__classdict__" : Str)) = false := by decide)
    (he : starEach [.Name n p1, .Name y p2] X.env = (false, eval (.Name n p1) X.env) :: starEach [.Name y p2] X.env := by rfl) (he2 : starEach [.Name y p2] X.env = (false, eval (.Name y p2) X.env) :: starEach [] X.env := by rfl) :
    JV X ((i, pa) :: T) W (.Call (.Name "isinstance" p) [.Name n p1, .Name y p2] [] pos) (mIsE tbl ex) := by
  cases q : tbl.lookup ex.c with
  | none => exact ⟨fun pins s σ H Q I ⟨e, F, er, h⟩ => by unfold RunAt mIsE opt at h; rw [q] at h; exact h.elim⟩
  | some b =>
    obtain ⟨C, h1, h2, h3⟩ := hi _ _ q
    rw [hm] at h1; cases h1
    refine PEimp (pe_callB (call_isX (X := X) h2 hz.zc hfs hpn) hg hmi (by decide +kernel) (pa_cons (pe_var hN hv hdn hcd) (pa_cons hy pa_nil he2) he) (by decide) (by decide) he (by rfl)) fun σ H Q ⟨e, F, er, h⟩ => ?_
    unfold mIsE at h
    rw [q] at h
    obtain ⟨z, hz', fin⟩ := h.fin er
    cases hz'
    refine ⟨_, (er.pin (i, pa) List.mem_cons_self).1, hty σ H _ ⟨hd0.dd er, c, cv, b, by rw [hd0.1], hcv, h3, ?_⟩⟩
    exact fin H F Al.refl _ (by rw [rp_bl])
theorem jv_isE {a : Addr} {pa : Pa} {oe : Obj} {cls : Value} {d : Option Addr} {pn : List (Addr × Obj)} {ex : Ex} {i : Nat} {n y : Str} {p p1 p2 : Pos} {cv : Value} {c : V} {tbl : List (Str × Bool)} {ty : TE} (hi : IsE X.K X.mg cv tbl) (hz : L2N.Zn cls d oe) (hfs : ∃ vs, oe.data = .fields vs) (hm : X.mg ex.c = some cls) (hd0 : PaX pa a d ex)
    (hcv : ∀ u, RelV c u → u = cv) (hy : PE (X.suite a ((a, oe) :: pn)) (.Name y p2) ty) (hty : ∀ σ H Q, Q c H → ty σ H Q)
    (hg : Gl X "isinstance") (hmi : X.mg "isinstance" = none) (hN : X.N[i]? = some n) (hv : Vis X.env.scope n) (hdn : (n == ("__debug__" : Str)) = false := by decide) (hcd : (n == ("__classdict__" : Str)) = false := by decide)
    (he : starEach [.Name n p1, .Name y p2] X.env = (false, eval (.Name n p1) X.env) :: starEach [.Name y p2] X.env := by rfl) (he2 : starEach [.Name y p2] X.env = (false, eval (.Name y p2) X.env) :: starEach [] X.env := by rfl) :
    JV (X.suite a ((a, oe) :: pn)) ((i, pa) :: T) W (.Call (.Name "isinstance" p) [.Name n p1, .Name y p2] [] pos) (mIsE tbl ex) :=
  jv_isX (X := X.suite a ((a, oe) :: pn)) hi hz hfs List.mem_cons_self hm hd0 hcv hy hty hg hmi hN hv hdn hcd he he2
def XfE (K : PySem.W.Frag) (mg : Str → Option Value) (f : Str) (l : List Str) : Prop := ∀ c ∈ l, ∃ C, mg c = some (.ref C) ∧ XfC K C ∧ PySem.W.findIn K (.ref C) f = some none
def mXf (l : List Str) (f : Str) (ex : Ex) : M D := opt (if ex.c ∈ l then ex.fs.lookup f else none)
theorem jv_xf {a : Addr} {pa : Pa} {oe : Obj} {cls : Value} {d : Option Addr} {ex : Ex} {i : Nat} {n f : Str} {p1 pos : Pos} {l : List Str} (hi : XfE X.K X.mg f l) (hz : L2N.Zn cls d oe) (hfs : ∃ vs, oe.data = .fields vs) (hpn : (a, oe) ∈ X.pn) (hm : X.mg ex.c = some cls) (hd0 : PaX pa a d ex)
    (hN : X.N[i]? = some n) (hv : Vis X.env.scope n) (hdn : (n == ("__debug__" : Str)) = false := by decide) (hcd : (n == ("__classdict__" : Str)) = false := by decide)
    (hb : attributeBase (.Name n p1) f X.env (eval (.Name n p1) X.env) = eval (.Name n p1) X.env := by rfl) :
    JV X ((i, pa) :: T) W (.Attribute (.Name n p1) f pos) (mXf l f ex) := by
  refine ⟨fun pins s σ H Q I ⟨e, F, er, h⟩ => ?_⟩
  unfold mXf at h
  by_cases hc : ex.c ∈ l
  · rw [if_pos hc] at h
    obtain ⟨z, hz', fin⟩ := h.fin er
    obtain ⟨C, h1, T1, hno⟩ := hi _ hc
    rw [hm] at h1; cases h1
    have P := er.pin (i, pa) List.mem_cons_self
    rcases hd0.2 with ⟨_, g2, _⟩ | ⟨dd, gs, g1, g2⟩
    · rw [g2] at hz'; cases hz'
    · obtain ⟨F1, F2⟩ := P.2 _ g1
      obtain ⟨v, l1, rv⟩ := RpF.get F2 hz'
      subst g2
      refine attr_of hb (thn ((pe_var (pos := p1) hN hv hdn hcd).run pins s σ H (fun x H1 => x = .ref a ∧ H1 = H) I ⟨_, P.1, by rw [hd0.1], rfl⟩) fun u s1 hh => ?_)
      obtain ⟨x, H1, I1, rx, ex1, eH⟩ := hh
      subst ex1
      subst eH
      obtain rfl : u = Value.ref a := rx
      obtain ⟨ha, _⟩ := I1.pin (a, oe) (List.mem_append_left _ hpn)
      obtain ⟨vs, hd⟩ := hfs
      have ea : H1 dd = some (.xd gs) := er.sub _ _ F1
      have hx : ObjOk X.prog X.w H1 s1.heap dd (.xd gs) := I1.hok dd _ ea
      obtain ⟨mA, hns, hr⟩ := hx
      obtain ⟨od, ho, hl⟩ := lookIn_ns hns
      obtain ⟨u, hu, ru⟩ := RelO.some_of (v := v) (o := mA f) (by rw [← l1]; exact hr f)
      have J : PySem.W.InstAt s1.heap a oe C (some od) := ⟨ha, hz.1, by unfold PySem.W.notCls; rw [hd] <;> rfl, by rw [hz.2.1]; exact ho⟩
      exact HandSPX.exc_get I1.kIn J T1.ga T1.gg T1.exC (PySem.W.findObj_own T1.hdC hno rfl (by rw [hl, hu])) (handed_of ru) ⟨v, H1, I1.tok _, ru, fin H1 F Al.refl _ rv⟩
  · rw [if_neg hc] at h
    unfold RunAt opt at h
    exact h.elim
end
theorem excB_ok {K : PySem.W.Frag} {x : Str} (h : excB K x = true) : ExcC K (He.ga K x) := by
  unfold excB cliB at h
  simp only [Bool.and_eq_true, decide_eq_true_eq] at h
  exact ⟨h.1, h.2.1, h.2.2.1, h.2.2.2.1, h.2.2.2.2.1, h.2.2.2.2.2.1, h.2.2.2.2.2.2.1, h.2.2.2.2.2.2.2⟩
theorem cat_of {K : PySem.W.Frag} {mg : Str → Option Value} {u : Value} {l : List (Str × Bool)} (h : catB K u l = true) (hg : ∀ q ∈ l, mg q.1 = some (.ref (He.ga K q.1))) : Cat K mg u fun y => l.lookup y := by
  intro y b e cl hm
  have hq : (y, b) ∈ l := PySem.mem_of_lookup e
  rw [hg _ hq] at hm
  cases hm
  exact of_decide_eq_true (List.all_eq_true.mp h (y, b) hq)
theorem isE_of {K : PySem.W.Frag} {mg : Str → Option Value} {u : Value} {l : List (Str × Bool)} (h : exsB K u l = true) (hg : ∀ q ∈ l, mg q.1 = some (.ref (He.ga K q.1))) : IsE K mg u l := by
  intro c b e
  have hq : (c, b) ∈ l := PySem.mem_of_lookup e
  have z := List.all_eq_true.mp h (c, b) hq
  rw [Bool.and_eq_true] at z
  exact ⟨_, hg _ hq, excB_ok z.1, of_decide_eq_true z.2⟩
end Sr
namespace Sr
variable [TabL]
open PySem hiding start
open PySem.Spec L2
open PyProof.Rows hiding St
section
variable {K : PySem.W.Frag} {mg : Str → Option Value} {F : Hp}
def cutD (ds : List D) (lo hi : Option Int) : List D := (ds.drop (HT.sIx ds.length 0 lo)).take (HT.sIx ds.length ds.length hi - HT.sIx ds.length 0 lo)
theorem RpL.cut {ds : List D} {xs : List V} (h : RpL K mg F ds xs) (lo hi : Option Int) : RpL K mg F (cutD ds lo hi) (cutV xs lo hi) := by
  unfold cutD cutV
  rw [h.len]
  exact (h.drop _).take _
end
def gSl : D → Option Int → Option Int → Option D
  | .lst ds, lo, hi => some (.lst (cutD ds lo hi))
  | .tup ds, lo, hi => some (.tup (cutD ds lo hi))
  | .str z, lo, hi => if z.length ≤ sizeLine then some (.str (cutS z lo hi)) else none
  | _, _, _ => none
def mSl (m : M D) (ml mh : M (Option Int)) : M D := bnd m fun d => bnd ml fun l => bnd mh fun h => opt (gSl d l h)
def mNoP : M (Option Int) := ret none
def asI : D → Option (Option Int)
  | .int i => some (some i)
  | _ => none
def mPart (m : M D) : M (Option Int) := bnd m fun d => opt (asI d)
def TPt (K : PySem.W.Frag) (mg : Str → Option Value) (T : Pn) (W : WX) (m : M (Option Int)) : L2.TO := fun σ H Q => ∃ e F, ER K mg T e σ H F ∧ RunAt K mg T W e F m σ H fun o _ H' F' => Q o H'
abbrev JP (X : Cx) (T : Pn) (W : WX) (e : Option Expr) (m : M (Option Int)) : Prop := PO X e (TPt X.K X.mg T W m)
theorem POimp {X : Cx} {e : Option Expr} {t t' : L2.TO} (h : PO X e t) (k : ∀ σ H Q, t' σ H Q → t σ H Q) : PO X e t' := ⟨fun pins s σ H Q I q => h.run pins s σ H Q I (k σ H Q q)⟩
section
variable {X : Cx} {T : Pn} {W : WX} {pos p2 : Pos} {a : Expr} {ma : M D} {lo hi : Option Expr} {ml mh : M (Option Int)}
theorem jp_none : JP X T W none mNoP := POimp po_none fun σ H Q ⟨e, F, er, h⟩ => h.rfin er H F Al.refl
theorem jp_some (ha : JV X T W a ma) : JP X T W (some a) (mPart ma) := by
  refine POimp (po_some ha) fun σ H Q ⟨e, F, er, h⟩ => ⟨e, F, er, h.bind.mono fun d e1 H1 F1 er1 mv1 h1 v hv => ?_⟩
  obtain ⟨z, hz, fin⟩ := h1.fin er1
  unfold asI at hz
  split at hz
  · cases hz
    rw [rp_int] at hv
    exact ⟨_, hv, fin H1 F1 Al.refl⟩
  · cases hz
theorem jv_slice (ha : JV X T W a ma) (hl : JP X T W lo ml) (hh : JP X T W hi mh) : JV X T W (.Subscript a (.Slice lo hi none p2) pos) (mSl ma ml mh) := by
  refine PEimp (pe_slice (sl_list.or (sl_tupA.or sl_str)) ha hl hh) fun σ H Q ⟨e, F, er, h⟩ => ⟨e, F, er, h.bind.mono fun d e1 H1 F1 er1 mv1 h1 v hv => ⟨e1, F1, er1, h1.bind.mono fun l e2 H2 F2 er2 mv2 h2 => ⟨e2, F2, er2, h2.bind.mono fun u e3 H3 F3 er3 mv3 h3 => ?_⟩⟩⟩
  obtain ⟨z, hz, fin⟩ := h3.fin er3
  have hv := Rp.mono (mv2.sub.trans mv3.sub) _ _ hv
  cases d with
  | lst ds =>
    cases hz
    rw [rp_lst] at hv
    obtain ⟨b, xs, rfl, hb, lr⟩ := hv
    refine .inl ⟨b, xs, rfl, SqL.of (er3.sub _ _ hb), fun p hp => fin _ _ (Al.one hp) _ ?_⟩
    rw [rp_lst]
    exact ⟨p, _, rfl, upd_same, RpL.mono (same_upd (er3.sub.free hp)) _ _ (lr.cut _ _)⟩
  | tup ds =>
    cases hz
    rw [rp_tup] at hv
    obtain ⟨b, xs, rfl, hb, lr⟩ := hv
    refine .inr (.inl ⟨b, xs, rfl, seqT_mono er3.sub hb, fun hw => fin _ _ Al.refl _ ?_, fun hw p hp => fin _ _ (Al.one hp) _ ?_⟩)
    · rw [rp_tup]
      refine ⟨b, xs, rfl, hb, ?_⟩
      have e : cutD ds l u = ds := by
        unfold cutD
        rw [lr.len, hw.1, hw.2, List.drop_zero, Nat.sub_zero, ← lr.len, List.take_length]
      rw [e]; exact lr
    · rw [rp_tup]
      exact ⟨p, _, rfl, upd_same, RpL.mono (same_upd (er3.sub.free hp)) _ _ (lr.cut _ _)⟩
  | str z =>
    simp only [gSl] at hz
    split at hz
    · cases hz
      rename_i hzl
      rw [rp_str] at hv
      exact .inr (.inr ⟨z, hv, hzl, fin _ _ Al.refl _ (by rw [rp_str])⟩)
    · cases hz
  | _ => cases hz
end
end Sr
namespace Sr
variable [TabL]
open PySem hiding start
open PySem.Spec L2
open PyProof.Rows hiding St
section
variable {X : Cx} {T : Pn} {W : WX} {pos : Pos} {a b : Expr} {ma mb : M D}
theorem run_gA {A : Around} {k : Nat} {f : Addr} {fd : FuncData} {ps : List Str} {sp : Sp} {pins : List (Addr × Obj)} {σ : St} {H : Hp} {s : Shared} {Q : VK} {us : List Value} {vs : List V} (F : FnG X.prog X.w X.K X.mg X.base k f fd ps sp) (hr : Room k A) (hgu : A.guards = some []) (hfr : A.frames = X.A.frames)
    (hb : Binds X.K fd ps []) (tk : L2N.Takes X W) (I : Inv X pins σ H s) (r : Vals vs us) (h : sp vs H Q (WE W σ)) : wpAny (model X.prog X.w) A (call (.ref f) us) (EP X pins σ Q) X.xe s := by
  have hl : us.length = ps.length := by rw [← r.length]; exact F.len _ _ _ _ h
  have e0 : Env0 X.prog X.w X.K X.mg X.base A X.stack s H := by
    have e := I.env0
    exact ⟨by rw [hfr]; exact e.frames, e.mod, e.bs, e.bsz, e.funs, e.frf, e.hok, e.bare⟩
  have hbb := hb s us I.kIn (by rw [List.append_nil]; exact hl)
  rw [List.append_nil] at hbb
  refine wpAny_call (codeAny_mono (F.run A X.stack s H _ _ _ Q _ hr hgu e0 hbb r h) fun r s' hq => ?_)
  cases r with
  | error e => exact tk e s' (L2N.XE.of_call I (fun cls d H' h => h) hq)
  | ok fl =>
    cases fl with
    | ret w => exact I.after hq
    | next => exact False.elim hq
    | brk => exact False.elim hq
    | cont => exact False.elim hq
end
end Sr
namespace Sr
variable [TabL]
open PySem hiding start
open PySem.Spec L2
open PyProof.Rows hiding St
section
variable {X : Cx} {T : Pn} {W : WX} {pos : Pos}
theorem jo_dnewK : JO X T W (.Dict [] [] pos) (ret (.dk [])) := by
  refine PEimp pe_dnewK fun σ H Q ⟨e, F, er, h⟩ => fun p hp => ?_
  have np : ¬ Ow e σ p := Ow.ne_of_free er hp
  have fp : F p = none := er.sub.free hp
  exact h (upd H p (.dK [])) F (er.updFree fp np) (Mv.refl.updNew hp) p hp fp np ⟨[], upd_same, by unfold RpK; rfl⟩
theorem jo_dnewT : JO X T W (.Dict [] [] pos) (ret (.dt [])) := by
  refine PEimp pe_dnewT fun σ H Q ⟨e, F, er, h⟩ => fun p hp => ?_
  have np : ¬ Ow e σ p := Ow.ne_of_free er hp
  have fp : F p = none := er.sub.free hp
  exact h (upd H p (.dT [])) F (er.updFree fp np) (Mv.refl.updNew hp) p hp fp np ⟨[], upd_same, by unfold RpT; rfl⟩
def mPs : List (M D × M D) → M (List (D × D))
  | [] => ret []
  | (a, b) :: r => bnd a fun x => bnd b fun y => bnd (mPs r) fun ps => ret ((x, y) :: ps)
def RpP (K : PySem.W.Frag) (mg : Str → Option Value) (F : Hp) : List (D × D) → List (V × V) → Prop
  | [], ps => ps = []
  | (x, y) :: ds, ps => ∃ v w r, ps = (v, w) :: r ∧ Rp K mg F x v ∧ Rp K mg F y w ∧ RpP K mg F ds r
theorem ps_imp {K : PySem.W.Frag} {mg : Str → Option Value} {σ : St} : ∀ (l : List (M D × M D)) (e : En) (H F : Hp) (P : List (D × D) → En → Hp → Hp → Prop) (R : List (V × V) → Hp → Prop), ER K mg T e σ H F → RunAt K mg T W e F (mPs l) σ H P →
    (∀ ds e' H' F', ER K mg T e' σ H' F' → Mv e σ H F e' σ H' F' → P ds e' H' F' → ∀ ps, RpP K mg F' ds ps → R ps H') → tPairs (l.map fun q => (TV K mg T W q.1, TV K mg T W q.2)) σ H R
  | [], e, H, F, P, R, er, h, k => k [] e H F er Mv.refl (h H F er Mv.refl) [] rfl
  | (a, b) :: l, e, H, F, P, R, er, h, k => by
    refine ⟨e, F, er, h.bind.mono fun x e1 H1 F1 er1 mv1 h1 v hv => ⟨e1, F1, er1, h1.bind.mono fun y e2 H2 F2 er2 mv2 h2 w hw => ?_⟩⟩
    refine ps_imp l e2 H2 F2 _ _ er2 h2.bind fun ds e3 H3 F3 er3 mv3 h3 ps hps => ?_
    refine k _ e3 H3 F3 er3 ((mv1.trans mv2).trans mv3) (h3 H3 F3 er3 Mv.refl) _ ⟨v, w, ps, rfl, Rp.mono (mv2.sub.trans mv3.sub) _ _ hv, Rp.mono mv3.sub _ _ hw, hps⟩
def dKey : D → Option Key
  | .int i => some (.inl i)
  | .str z => some (.inr z)
  | _ => none
def dKeys : List (D × D) → Option (List (Key × D))
  | [] => some []
  | (x, y) :: r => match dKey x, dKeys r with
    | some k, some ks => some ((k, y) :: ks)
    | _, _ => none
def putKD (kvs : List (Key × D)) (k : Key) (v : D) : List (Key × D) :=
  if (kvs.any fun kv => decide (kv.1 = k)) = true then kvs.map (fun kv => if kv.1 = k then (kv.1, v) else kv) else kvs ++ [(k, v)]
def mergeKD (kvs more : List (Key × D)) : List (Key × D) := more.foldl (fun acc kv => putKD acc kv.1 kv.2) kvs
theorem RpK.put {K : PySem.W.Frag} {mg : Str → Option Value} {F : Hp} {k : Key} {d : D} {v : V} (hv : Rp K mg F d v) {ds : List (Key × D)} {vs : List (Key × V)} (h : RpK K mg F ds vs) : RpK K mg F (putKD ds k d) (putK vs k v) := by
  unfold putKD putK
  rw [RpK.any h]
  split
  · exact RpK.map hv h
  · exact RpK.snoc hv h
theorem keys_ok {K : PySem.W.Frag} {mg : Str → Option Value} {F : Hp} : ∀ {ds : List (D × D)} {ks : List (Key × D)} {ps : List (V × V)}, dKeys ds = some ks → RpP K mg F ds ps → ∃ kvs : List (Key × V), ps = kvs.map (fun kv => (kV kv.1, kv.2)) ∧ RpK K mg F ks kvs
  | [], ks, ps, h, r => by cases h; unfold RpP at r; subst r; exact ⟨[], rfl, by unfold RpK; rfl⟩
  | (x, y) :: ds, ks, ps, h, r => by
    unfold RpP at r
    obtain ⟨v, w, ps', rfl, hx, hy, r⟩ := r
    unfold dKeys at h
    cases q1 : dKey x with
    | none => simp only [q1] at h; cases h
    | some k =>
      cases q2 : dKeys ds with
      | none => simp only [q1, q2] at h; cases h
      | some ks' =>
        simp only [q1, q2] at h
        cases h
        obtain ⟨kvs, rfl, hk⟩ := keys_ok q2 r
        refine ⟨(k, w) :: kvs, ?_, by unfold RpK; exact ⟨w, _, rfl, hy, hk⟩⟩
        rw [List.map_cons]
        congr 2
        cases x with
        | int i => cases q1; rw [rp_int] at hx; exact hx
        | str z => cases q1; rw [rp_str] at hx; exact hx
        | _ => cases q1
theorem RpK.merge {K : PySem.W.Frag} {mg : Str → Option Value} {F : Hp} : ∀ {more : List (Key × D)} {mv : List (Key × V)} {ds : List (Key × D)} {vs : List (Key × V)}, RpK K mg F more mv → RpK K mg F ds vs → RpK K mg F (mergeKD ds more) (mergeK vs mv)
  | [], mv, ds, vs, h, r => by unfold RpK at h; subst h; exact r
  | (k, d) :: more, mv, ds, vs, h, r => by
    unfold RpK at h
    obtain ⟨w, ms, rfl, hw, h⟩ := h
    show RpK K mg F (mergeKD (putKD ds k d) more) (mergeK (putK vs k w) ms)
    exact RpK.merge h (r.put hw)
def gDisp (ds : List (D × D)) : Option D := match dKeys ds with
  | some ks => if ks.length ≤ 15 then some (.dk (mergeKD [] ks)) else none
  | none => none
def mDisp (l : List (M D × M D)) : M D := bnd (mPs l) fun ds => opt (gDisp ds)
def JPs (X : Cx) (T : Pn) (W : WX) (pos : Pos) (keys : List (Option Expr)) (values : List Expr) (l : List (M D × M D)) : Prop := PPs X pos keys values (l.map fun q => (TV X.K X.mg T W q.1, TV X.K X.mg T W q.2))
theorem jps_nil : JPs X T W pos [] [] [] := pps_nil
theorem jps_cons {k v : Expr} {ks : List (Option Expr)} {vs : List Expr} {mk mv : M D} {l : List (M D × M D)} (hk : JV X T W k mk) (hv : JV X T W v mv) (hr : JPs X T W pos ks vs l) : JPs X T W pos (some k :: ks) (v :: vs) ((mk, mv) :: l) := pps_cons hk hv hr
theorem jo_disp {keys : List (Option Expr)} {values : List Expr} {l : List (M D × M D)} (h : JPs X T W pos keys values l) (hall : keys.all (·.isSome) = true := by rfl) (hl : keys.length = values.length := by rfl) (h0 : keys ≠ [] := by intro z; cases z) (h15 : keys.length ≤ 15 := by decide) :
    JO X T W (.Dict keys values pos) (mDisp l) := by
  refine PEimp (pe_disp h hall hl h0 h15) fun σ H Q ⟨e, F, er, h⟩ => fun p hp => ?_
  have np : ¬ Ow e σ p := Ow.ne_of_free er hp
  have fp : F p = none := er.sub.free hp
  have er0 : ER X.K X.mg T e σ (upd H p (.dK [])) F := er.updFree fp np
  have hb : RunAt X.K X.mg T W e F (mPs l) σ (upd H p (.dK [])) fun ds e1 H1 F1 => Mv e σ (upd H p (.dK [])) F e1 σ H1 F1 ∧ ∃ d, gDisp ds = some d ∧ ∀ H' F', ER X.K X.mg T e1 σ H' F' → Mv e σ H F e1 σ H' F' → ∀ q, H q = none → F' q = none → ¬ Ow e1 σ q → OwnAt X.K X.mg H' F' q d → Q (.ref q) H' := by
    unfold RunAt mDisp bnd at h
    unfold RunAt
    cases q : mPs l e with
    | ok ds e1 =>
      rw [q] at h
      intro H1 F1 er1 mv1
      dsimp only at h
      unfold opt at h
      cases qd : gDisp ds with
      | none => simp only [qd] at h
      | some d =>
        simp only [qd] at h
        exact ⟨mv1, d, rfl, fun H' F' er' mv' => h H' F' er' mv'⟩
    | exc x e1 =>
      rw [q] at h
      intro H1 F1 cl dd er1 mv1 xr
      exact h H1 F1 cl dd er1 ((Mv.refl.updNew (o := .dK []) hp).trans mv1) xr
    | bad => rw [q] at h; exact h
  refine ps_imp l e _ F _ _ er0 hb fun ds e1 H1 F1 er1 mv1 ⟨_, d, hd, fin⟩ ps hps => ?_
  obtain ⟨k1, k2⟩ := mv1.keep p _ upd_same np
  have k1 := k1 (by first | assumption | (intro _ z; exact nomatch z) | (intro _ z; cases z))
  have f1 : F1 p = none := by
    cases z : F1 p with
    | none => rfl
    | some u =>
      rcases mv1.new p u z with z | z | z
      · rw [fp] at z; cases z
      · rw [upd_same] at z; cases z
      · exact (np z).elim
  unfold gDisp at hd
  split at hd
  · rename_i ks hk
    split at hd
    · rename_i hz
      cases hd
      obtain ⟨kvs, rfl, rk⟩ := keys_ok hk hps
      refine ⟨k1, kvs, rfl, by rw [← RpK.len rk]; exact hz, ?_⟩
      exact fin _ F1 (er1.updFree f1 k2) (((Mv.refl.updNew (o := .dK []) hp).trans mv1).updNew hp) p hp f1 k2 ⟨_, upd_same, RpK.merge rk (by unfold RpK; rfl)⟩
    · cases hd
  · cases hd
end
end Sr
namespace Sr
open PySem hiding start
open PySem.Spec L2
open PyProof.Rows hiding St
theorem bt_ValueError : bootBuiltins "ValueError" = some (.type "ValueError") := by decide +kernel
end Sr
namespace Sr
variable [TabL]
open PySem hiding start
open PySem.Spec L2
open PyProof.Rows hiding St
def flatD : D → Bool
  | .non => true
  | .bl _ => true
  | .int _ => true
  | .str _ => true
  | _ => false
def eqF : D → D → Bool
  | .non, .non => true
  | .bl a, .bl b => a == b
  | .bl a, .int b => (if a then 1 else 0) == b
  | .int a, .bl b => a == (if b then 1 else 0)
  | .int a, .int b => a == b
  | .str a, .str b => a == b
  | _, _ => false
section
variable {K : PySem.W.Frag} {mg : Str → Option Value} {F H : Hp}
theorem flat_ok {d : D} {v : V} (r : Rp K mg F d v) (h : flatD d = true) : flatV v = true := by
  cases d <;> simp only [flatD, Bool.false_eq_true] at h
  · rw [rp_non] at r; subst r; rfl
  · rw [rp_bl] at r; subst r; rfl
  · rw [rp_int] at r; subst r; rfl
  · rw [rp_str] at r; subst r; rfl
theorem eqF_ok {d d' : D} {v v' : V} (r : Rp K mg F d v) (r' : Rp K mg F d' v') (h : flatD d = true) (h' : flatD d' = true) : eqV v v' = eqF d d' := by
  cases d <;> simp only [flatD, Bool.false_eq_true] at h <;> cases d' <;> simp only [flatD, Bool.false_eq_true] at h' <;> simp only [rp_non, rp_bl, rp_int, rp_str] at r r' <;> subst r r' <;> rfl
theorem flats_ok : ∀ {ds : List D} {vs : List V}, RpL K mg F ds vs → ds.all flatD = true → vs.all flatV = true
  | [], vs, l, _ => by rw [rl_nil] at l; subst l; rfl
  | d :: ds, vs, l, h => by
    rw [rl_cons] at l
    obtain ⟨v, vs, rfl, r, l⟩ := l
    rw [List.all_cons, Bool.and_eq_true] at h
    rw [List.all_cons, flat_ok r h.1, flats_ok l h.2]; rfl
theorem inF_ok {d : D} {v : V} (r : Rp K mg F d v) (hf : flatD d = true) : ∀ {ds : List D} {vs : List V}, RpL K mg F ds vs → ds.all flatD = true → inV v vs = ds.any fun y => eqF y d
  | [], vs, l, _ => by rw [rl_nil] at l; subst l; rfl
  | y :: ds, vs, l, h => by
    rw [rl_cons] at l
    obtain ⟨w, vs, rfl, r', l⟩ := l
    rw [List.all_cons, Bool.and_eq_true] at h
    have ih := inF_ok r hf l h.2
    unfold inV at ih ⊢
    rw [List.any_cons, List.any_cons, eqF_ok r' r h.1 hf, ih]
theorem flat_rq {d : D} {v : V} (h : flatD d = true) (r : Rq K mg H F d v) : Rp K mg F d v := by
  cases d <;> first | exact r | (simp [flatD] at h)
end
def gInL (neg : Bool) (x : D) (ds : List D) : Option D := if (flatD x && ds.all flatD) = true then some (.bl (if neg then !(ds.any fun y => eqF y x) else ds.any fun y => eqF y x)) else none
def gInG (neg : Bool) : D → D → Option D
  | .str a, .str z => match a.cps.toList with
    | [c] => some (.bl (if neg then !decide (c ∈ z.cps.toList) else decide (c ∈ z.cps.toList)))
    | _ => none
  | x, .lst ds => gInL neg x ds
  | x, .tup ds => gInL neg x ds
  | x, .ct ds => gInL neg x ds
  | _, _ => none
def gIn : D → D → Option D := gInG false
section
variable {X : Cx}
theorem str_one {a : Str} {c : Nat} (h : a.cps.toList = [c]) : a = ⟨#[c]⟩ := by
  cases a with
  | mk cps =>
    cases cps with
    | mk l => simp at h; subst h; rfl
theorem inL_imp {neg : Bool} {H F : Hp} {x : D} {ds : List D} {d : D} {vx : V} {p : Addr} {xs : List V} (s : Same F H) (r1 : Rq X.K X.mg H F x vx) (hq : SqL X.K H p xs ∨ SqT X.K H p xs) (l : RpL X.K X.mg F ds xs) (e : gInL neg x ds = some d) {Q : VK} (q : ∀ H' F' z, Al H F H' F' → Rp X.K X.mg F' d z → Q z H') : rIn X.K neg vx (.ref p) H Q := by
  unfold gInL at e
  split at e
  · rename_i h
    rw [Bool.and_eq_true] at h
    cases e
    have r := flat_rq h.1 r1
    refine ⟨p, xs, rfl, hq, flat_ok r h.1, flats_ok l h.2, ?_⟩
    rw [inF_ok r h.1 l h.2]
    exact q H F _ Al.refl (by rw [rp_bl])
  · cases e
theorem o_inG (neg : Bool) (f : Value → Value → Sem Value) (h1 : OpR X f (rIn X.K neg)) (h2 : OpR X f (fun x y H Q => ∃ (c : Nat) (z : Str), x = .str ⟨#[c]⟩ ∧ y = .str z ∧ Q (.bl (if neg then !decide (c ∈ z.cps.toList) else decide (c ∈ z.cps.toList))) H)) : Op2 X f (gInG neg) := by
  intro H F x y d1 d2 d s r1 r2 e
  have seq : ∀ ds, (∃ p xs, y = .ref p ∧ (SqL X.K H p xs ∨ SqT X.K H p xs) ∧ RpL X.K X.mg F ds xs) → gInL neg d1 ds = some d → ∃ r : R2, OpR X f r ∧ ∀ Q : VK, (∀ H' F' z, Al H F H' F' → Rp X.K X.mg F' d z → Q z H') → r x y H Q := fun ds ⟨p, xs, ey, hq, l⟩ e => by
    subst ey
    exact ⟨_, h1, fun Q q => inL_imp s r1 hq l e q⟩
  cases d2 with
  | str z =>
    cases d1 <;> simp only [gInG, reduceCtorEq] at e
    split at e
    · rename_i c hc
      cases e
      rw [rq_str] at r1 r2
      subst r1 r2
      rw [str_one hc]
      exact ⟨_, h2, fun Q q => ⟨c, z, rfl, rfl, q H F _ Al.refl (by rw [rp_bl])⟩⟩
    · cases e
  | lst ds =>
    obtain ⟨a, xs, rfl, h, l⟩ := r2
    exact seq ds ⟨a, xs, rfl, .inl (SqL.of h), l⟩ (by cases d1 <;> exact e)
  | tup ds =>
    rw [rq_tup] at r2
    obtain ⟨a, xs, rfl, h, l⟩ := r2
    exact seq ds ⟨a, xs, rfl, .inr (seqT_mono s h), l⟩ (by cases d1 <;> exact e)
  | ct ds =>
    rw [rq_ct] at r2
    obtain ⟨a, xs, rfl, h, l⟩ := r2
    exact seq ds ⟨a, xs, rfl, .inr (seqC_mono s h), l⟩ (by cases d1 <;> exact e)
  | _ => cases d1 <;> cases e
theorem o_in {k : Nat} (hp : Pl X k) : Op2 X (compareOp .In) gIn := o_inG false _ op_in_seq (by simpa using op_in_sign (X := X))
end
def gMulS : D → D → Option D
  | .str x, .int n => if n ≤ 100000 ∧ -100000 ≤ n ∧ x.length ≤ 100 then some (.str (Txt.mul x n)) else none
  | _, _ => none
def gMulL : D → D → Option D
  | .lst ds, .int n => if n ≤ 100000 ∧ -100000 ≤ n ∧ ds.length ≤ 100 then some (.lst (List.replicate n.toNat ds).flatten) else none
  | _, _ => none
def gMulT : D → D → Option D
  | .tup ds, .int n => if 2 ≤ n ∧ n ≤ 1000 ∧ ds.length ≤ 1000 ∧ ds ≠ [] then some (.tup (List.replicate n.toNat ds).flatten) else none
  | _, _ => none
section
variable {X : Cx}
theorem op_mulS : OpR X (binaryOp .Mult) (fun x y H Q => ∃ a n, x = .str a ∧ y = .int n ∧ MulOk a n ∧ Q (.str (Txt.mul a n)) H) := by
  intro pins s σ H x y v u Q I rx ry h
  obtain ⟨a, n, rfl, rfl, ok, q⟩ := h
  obtain ⟨t, rfl⟩ := rx
  obtain ⟨t', rfl⟩ := ry
  refine SB.mul ok fun t k => ⟨.str _, H, I.tok _, ⟨_, rfl⟩, q⟩
theorem mulOk_of {a : Str} {n : Int} (h1 : n ≤ 100000) (h2 : -100000 ≤ n) (h3 : a.length ≤ 100) : MulOk a n := by
  refine ⟨?_, fun h _ => ?_, fun h _ => ?_⟩
  · simp; omega
  · have hn : 1 ≤ n := by omega
    have : (100 : Int) ≤ (2 ^ 63 - 1) / n := by
      rw [Int.le_ediv_iff_mul_le (by omega)]
      omega
    omega
  · unfold Builtin.Str.tooLong
    have : a.length * n.toNat ≤ 100 * 100000 := Nat.mul_le_mul h3 (by omega)
    simp
    have e : sizeLine = 16777216 := by decide
    omega
theorem o_mulS : Op2 X (binaryOp .Mult) gMulS := by
  intro H F x y d1 d2 d s r1 r2 e
  unfold gMulS at e
  split at e
  · split at e
    · rename_i h
      cases e
      rw [rq_str] at r1
      rw [rq_int] at r2
      exact ⟨_, op_mulS, fun Q q => ⟨_, _, r1, r2, mulOk_of h.1 h.2.1 h.2.2, q H F _ Al.refl (by rw [rp_str])⟩⟩
    · cases e
  · cases e
theorem o_mulL : Op2 X (binaryOp .Mult) gMulL := by
  intro H F x y d1 d2 d s r1 r2 e
  unfold gMulL at e
  split at e
  · rename_i ds n
    split at e
    · rename_i h
      cases e
      obtain ⟨a, xs, rfl, q1, l1⟩ := r1
      rw [rq_int] at r2
      refine ⟨_, op_rep, fun Q q => ⟨a, n, xs, rfl, r2, q1, by omega, by omega, ?_, fun p hp => q _ _ _ (Al.one hp) ?_⟩⟩
      · rw [← l1.len]
        have e : sizeLine = 16777216 := by decide
        have : ds.length * n.toNat ≤ 100 * 100000 := Nat.mul_le_mul h.2.2 (by omega)
        omega
      · rw [rp_lst]
        exact ⟨p, _, rfl, upd_same, RpL.mono (same_upd (s.free hp)) _ _ (l1.rep _)⟩
    · cases e
  · cases e
theorem o_mulT : Op2 X (binaryOp .Mult) gMulT := by
  intro H F x y d1 d2 d s r1 r2 e
  unfold gMulT at e
  split at e
  · rename_i ds n
    split at e
    · rename_i h
      cases e
      rw [rq_tup] at r1
      obtain ⟨a, xs, rfl, q1, l1⟩ := r1
      rw [rq_int] at r2
      refine ⟨_, op_repT, fun Q q => ⟨a, n, xs, rfl, r2, seqT_mono s q1, fun z => h.2.2.2 ?_, h.1, h.2.1, by rw [← l1.len]; exact h.2.2.1, fun p hp => q _ _ _ (Al.one hp) ?_⟩⟩
      · have := l1.len
        rw [z] at this
        exact List.eq_nil_of_length_eq_zero this
      · rw [rp_tup]
        exact ⟨p, _, rfl, upd_same, RpL.mono (same_upd (s.free hp)) _ _ (l1.rep _)⟩
    · cases e
  · cases e
def gMulA : D → D → Option D := fun a b => (gMulI a b).or ((gMulS a b).or ((gMulL a b).or (gMulT a b)))
theorem o_mulA : Op2 X (binaryOp .Mult) gMulA := o_mulI.or (o_mulS.or (o_mulL.or o_mulT))
end
section
variable {X : Cx}
def gTuple : D → Option D
  | .lst ds => some (.tup ds)
  | .tup ds => some (.tup ds)
  | _ => none
theorem c_tuple : Cal1 X (.type "tuple") gTuple := by
  intro H F x d d' s r e
  cases d <;> simp only [gTuple, reduceCtorEq, Option.some.injEq] at e <;> subst e
  · obtain ⟨a, xs, rfl, h, l⟩ := r
    refine ⟨_, call_tuple_of, fun Q q => ⟨a, xs, rfl, .inl ⟨SqL.of h, fun p hp => q _ _ _ (Al.one hp) ?_⟩⟩⟩
    rw [rp_tup]
    exact ⟨p, xs, rfl, upd_same, RpL.mono (same_upd (s.free hp)) _ _ l⟩
  · rw [rq_tup] at r
    obtain ⟨a, xs, rfl, h, l⟩ := r
    refine ⟨_, call_tuple_of, fun Q q => ⟨a, xs, rfl, .inr ⟨seqT_mono s h, q H F _ Al.refl ?_⟩⟩⟩
    rw [rp_tup]
    exact ⟨a, xs, rfl, h, l⟩
def dBools : List D → Option (List Bool)
  | [] => some []
  | .bl b :: ds => (dBools ds).map (b :: ·)
  | _ :: _ => none
theorem dBools_vals {K : PySem.W.Frag} {mg : Str → Option Value} {F : Hp} : ∀ {ds : List D} {bs : List Bool} {xs : List V}, dBools ds = some bs → RpL K mg F ds xs → xs = bs.map V.bl
  | [], ys, xs, h, l => by cases h; rw [rl_nil] at l; exact l
  | d :: ds, ys, xs, h, l => by
    cases d with
    | bl z =>
      simp only [dBools, Option.map_eq_some_iff] at h
      obtain ⟨ys', h1, rfl⟩ := h
      rw [rl_cons] at l
      obtain ⟨v, vs, rfl, l1, l2⟩ := l
      rw [rp_bl] at l1
      rw [l1, dBools_vals h1 l2]; rfl
    | _ => cases h
def gAll : D → Option D
  | .lst ds => (dBools ds).map fun bs => .bl (bs.all id)
  | _ => none
theorem c_all (hc : X.calm = true) : Cal1 X (.builtin "all") gAll := by
  intro H F x d d' s r e
  cases d <;> simp only [gAll, reduceCtorEq] at e
  rw [Option.map_eq_some_iff] at e
  obtain ⟨bs, hb, rfl⟩ := e
  obtain ⟨a, xs, rfl, h, l⟩ := r
  rw [dBools_vals hb l] at h
  exact ⟨_, cr_all hc, fun Q q => ⟨a, bs, rfl, SqL.of h, q H F _ Al.refl (by rw [rp_bl])⟩⟩
end
end Sr
namespace Sr
variable [TabL]
open PySem hiding start
open PySem.Spec L2
open PyProof.Rows hiding St
section
variable {κ : Type} [DecidableEq κ]
def putG (kvs : List (κ × D)) (k : κ) (v : D) : List (κ × D) :=
  if (kvs.any fun kv => decide (kv.1 = k)) = true then kvs.map (fun kv => if kv.1 = k then (kv.1, v) else kv) else kvs ++ [(k, v)]
end
def dKeyL : List D → Option (List Key)
  | [] => some []
  | d :: ds => match dKey d, dKeyL ds with
    | some k, some ks => some (k :: ks)
    | _, _ => none
section
variable {K : PySem.W.Frag} {mg : Str → Option Value} {F H : Hp}
theorem dKey_ok {d : D} {k : Key} {v : V} (h : dKey d = some k) (r : Rp K mg F d v) : v = kV k := by
  cases d with
  | int i => cases h; rw [rp_int] at r; exact r
  | str z => cases h; rw [rp_str] at r; exact r
  | _ => cases h
theorem dKeyL_ok : ∀ {ds : List D} {ks : List Key} {xs : List V}, dKeyL ds = some ks → RpL K mg F ds xs → xs = ks.map kV
  | [], ks, xs, h, l => by cases h; rw [rl_nil] at l; exact l
  | d :: ds, ks, xs, h, l => by
    rw [rl_cons] at l
    obtain ⟨v, vs, rfl, r, l⟩ := l
    unfold dKeyL at h
    cases q1 : dKey d with
    | none => simp only [q1] at h; cases h
    | some k =>
      cases q2 : dKeyL ds with
      | none => simp only [q1, q2] at h; cases h
      | some ks' =>
        simp only [q1, q2] at h
        cases h
        rw [dKey_ok q1 r, dKeyL_ok q2 l]; rfl
theorem RpT.put {k : List Key} {d : D} {v : V} (hv : Rp K mg F d v) {ds : List (List Key × D)} {vs : List (List Key × V)} (h : RpT K mg F ds vs) : RpT K mg F (putG ds k d) (putK vs k v) := by
  unfold putG putK
  rw [RpT.any h]
  split
  · exact RpT.map hv h
  · exact RpT.snoc hv h
theorem RpK.putg {k : Key} {d : D} {v : V} (hv : Rp K mg F d v) {ds : List (Key × D)} {vs : List (Key × V)} (h : RpK K mg F ds vs) : RpK K mg F (putG ds k d) (putK vs k v) := RpK.put hv h
end
def gDat : D → D → Option (Option D)
  | .dk kvs, k => (dKey k).map (valD kvs)
  | .dt kvs, .tup ks => (dKeyL ks).map (valD kvs)
  | _, _ => none
theorem dget_ok {K : PySem.W.Frag} {mg : Str → Option Value} {F H : Hp} {d k : D} {x y : V} {o : Option D} (s : Same F H) (r : Rq K mg H F d x) (rk : Rp K mg F k y) (h : gDat d k = some o) : ∃ a ov, x = .ref a ∧ DGet H a y ov ∧ opR K mg F o ov := by
  cases d with
  | dk kvs =>
    have h : (dKey k).map (valD kvs) = some o := by cases k <;> exact h
    rw [Option.map_eq_some_iff] at h
    obtain ⟨ky, hk, rfl⟩ := h
    obtain ⟨a, xs, rfl, q, l⟩ := r
    rw [dKey_ok hk rk]
    exact ⟨a, _, rfl, .inl ⟨xs, ky, q, rfl, rfl⟩, l.val⟩
  | dt kvs =>
    cases k with
    | tup ks =>
      simp only [gDat] at h
      rw [Option.map_eq_some_iff] at h
      obtain ⟨ky, hk, rfl⟩ := h
      obtain ⟨a, xs, rfl, q, l⟩ := r
      rw [rp_tup] at rk
      obtain ⟨b, ys, rfl, hb, lk⟩ := rk
      rw [dKeyL_ok hk lk] at hb
      exact ⟨a, _, rfl, .inr ⟨xs, ky, b, .inl q, rfl, s _ _ hb, rfl⟩, l.val⟩
    | _ => cases h
  | _ => cases k <;> cases h
def gDg (d k : D) : Option D := (gDat d k).bind id
def gDnot (k d : D) : Option D := (gDat d k).map fun o => .bl (!o.isSome)
section
variable {X : Cx} {T : Pn} {W : WX} {pos : Pos} {a b : Expr} {ma mb : M D} {m1 : M Bv} {k : Nat}
theorem opR_some {K : PySem.W.Frag} {mg : Str → Option Value} {F : Hp} {o : Option D} {ov : Option V} (h : opR K mg F o ov) : o.isSome = ov.isSome := by
  cases o <;> cases ov <;> first | rfl | exact h.elim
theorem jv_dgetB (hp : Pl X k) (ha : JB X T W a m1) (hb : JV X T W b mb) (hs : NoSl b := by intro _ _; rfl) : JV X T W (.Subscript a b pos) (m2b gDg m1 mb) := by
  refine PEimp (pe_dget hp.u1 ha hb hs) fun σ H Q ⟨e, F, er, h⟩ => ⟨e, F, er, h.bind.mono fun b1 e1 H1 F1 er1 mv1 h1 v hv => ⟨e1, F1, er1, h1.bind.mono fun d2 e2 H2 F2 er2 mv2 h2 w hw => ?_⟩⟩
  obtain ⟨d1, r1, h3⟩ := der_fin h2.bind er2 (hv.mono mv2.sub)
  obtain ⟨z, hz, fin⟩ := h3.fin er2
  unfold gDg at hz
  rw [Option.bind_eq_some_iff] at hz
  obtain ⟨o, ho, rfl⟩ := hz
  obtain ⟨p, ov, rfl, g, ro⟩ := dget_ok er2.sub r1 hw ho
  cases ov with
  | none => exact ro.elim
  | some u => exact ⟨p, u, rfl, g, fin H2 F2 Al.refl u ro⟩
theorem op_dNotIn (hu : X.A.units + 1 < cLine) : OpR X (compareOp .NotIn) (fun y x H Q => ∃ a o, x = .ref a ∧ DGet H a y o ∧ Q (.bl (!o.isSome)) H) := by
  intro pins s σ H y x iv u Q I ry rx h
  obtain ⟨a, o, rfl, g, q⟩ := h
  obtain rfl : u = Value.ref a := rx
  exact d_notIn hu I g ry fun s3 I3 => ⟨.bl (!o.isSome), H, I3, rfl, q⟩
theorem ky_rp {K : PySem.W.Frag} {mg : Str → Option Value} {F H : Hp} {k d : D} {y : V} {o : Option D} (h : gDat d k = some o) (r : Rq K mg H F k y) : Rp K mg F k y := by
  cases k with
  | int i => exact r
  | str i => exact r
  | tup i => exact r
  | _ => cases d <;> simp [gDat, dKey] at h
theorem o_dnot (hp : Pl X k) : Op2 X (compareOp .NotIn) gDnot := by
  intro H F x y d1 d2 d s r1 r2 e
  unfold gDnot at e
  rw [Option.map_eq_some_iff] at e
  obtain ⟨o, ho, rfl⟩ := e
  obtain ⟨p, ov, rfl, g, ro⟩ := dget_ok s r2 (ky_rp ho r1) ho
  exact ⟨_, op_dNotIn hp.u1, fun Q q => ⟨p, ov, rfl, g, q H F _ Al.refl (by rw [rp_bl, opR_some ro])⟩⟩
def isDct : D → Bool
  | .dk _ => true
  | .dt _ => true
  | _ => false
def chkD (i : Nat) : M Unit := fun e => match e[i]? with
  | some (.own d) => if isDct d = true then .ok () e else .bad
  | _ => .bad
def gPutD (d k v : D) : Option D := match d, k with
  | .dk kvs, k => if kvs.length < sizeLine then (dKey k).map fun q => .dk (putG kvs q v) else none
  | .dt kvs, .tup ks => if kvs.length < sizeLine then (dKeyL ks).map fun q => .dt (putG kvs q v) else none
  | _, _ => none
def putDD (i : Nat) (k v : D) : M Fl := fun e => match e[i]? with
  | some (.own d) => match gPutD d k v with
    | some d' => .ok .nx (e.set i (.own d'))
    | none => .bad
  | _ => .bad
def sPutD (i : Nat) (mi m : M D) : M Fl := bnd m fun d => bnd (chkD i) fun _ => bnd mi fun k => putDD i k d
theorem js_dput {i : Nat} {x : Str} {pn ps : Pos} {mi : M D} (hp : Pl X k) (hN : X.N[i]? = some x) (hv : Vis X.env.scope x) (ha : JV X T W a ma) (hi : JV X T W b mi)
    (hd : (x == ("__debug__" : Str)) = false := by decide) (hcd : (x == ("__classdict__" : Str)) = false := by decide)
    (hs : swapsWith a (some (.Subscript (.Name x pn) b ps)) pos.line X.env = pure false := by rfl) :
    JS X T W (.Assign [.Subscript (.Name x pn) b ps] a pos) (sPutD i mi ma) := by
  refine PSimp (ps_dput hp.u1 (pe_var hN hv hd hcd) hi ha hs) fun Dn σ H ⟨e, F, er, h⟩ => ⟨e, F, er, h.bind.mono fun d e1 H1 F1 er1 mv1 h3 v hv => ?_⟩
  cases q : e1[i]? with
  | none => unfold RunS bnd chkD at h3; rw [q] at h3; exact h3.elim
  | some sl =>
    cases sl with
    | no => unfold RunS bnd chkD at h3; rw [q] at h3; exact h3.elim
    | val d => unfold RunS bnd chkD at h3; rw [q] at h3; exact h3.elim
    | own dd =>
      by_cases hdc : isDct dd = true
      · have h4 : RunS X.K X.mg T W e1 F1 (bnd mi fun k => putDD i k d) σ H1 Dn := h3.after (by unfold bnd chkD; rw [q]; simp only [hdc, if_true]) Mv.refl
        obtain ⟨p, g1, _, _⟩ := er1.own i _ q
        refine ⟨_, g1, e1, F1, er1, h4.bind.mono fun ky e2 H2 F2 er2 mv2 h5 w hw => ?_⟩
        unfold RunS putDD at h5
        cases q2 : e2[i]? with
        | none => simp only [q2] at h5
        | some sl2 =>
          cases sl2 with
          | no => simp only [q2] at h5
          | val d => simp only [q2] at h5
          | own d2 =>
            simp only [q2] at h5
            cases q3 : gPutD d2 ky d with
            | none => simp only [q3] at h5
            | some d3 =>
              simp only [q3] at h5
              obtain ⟨p', g2, g3, g4⟩ := er2.own i _ q2
              rw [g1] at g2; cases g2
              have hvv := Rp.mono mv2.sub _ _ hv
              cases d2 with
              | dk kvs =>
                have q3' : (if kvs.length < sizeLine then (dKey ky).map fun q => D.dk (putG kvs q d) else none) = some d3 := by cases ky <;> exact q3
                split at q3'
                · rename_i hz
                  rw [Option.map_eq_some_iff] at q3'
                  obtain ⟨kk, hk, rfl⟩ := q3'
                  obtain ⟨xs, g5, g6⟩ := g4
                  rw [dKey_ok hk hw]
                  obtain ⟨er3, mv3⟩ := er2.put (o := .dK (putK xs kk v)) (d' := .dk (putG kvs kk d)) q2 g1 ⟨_, upd_same, RpK.putg hvv g6⟩
                  exact ⟨p, _, rfl, .inl ⟨xs, kk, g5, rfl, by rw [← RpK.len g6]; exact hz, rfl⟩, h5 σ _ F2 er3 mv3⟩
                · cases q3'
              | dt kvs =>
                cases ky with
                | tup ks =>
                  simp only [gPutD] at q3
                  split at q3
                  · rename_i hz
                    rw [Option.map_eq_some_iff] at q3
                    obtain ⟨kk, hk, rfl⟩ := q3
                    obtain ⟨xs, g5, g6⟩ := g4
                    rw [rp_tup] at hw
                    obtain ⟨c, ys, rfl, hc, lk⟩ := hw
                    rw [dKeyL_ok hk lk] at hc
                    obtain ⟨er3, mv3⟩ := er2.put (o := .dT (putK xs kk v)) (d' := .dt (putG kvs kk d)) q2 g1 ⟨_, upd_same, RpT.put hvv g6⟩
                    exact ⟨p, _, rfl, .inr ⟨xs, kk, c, g5, rfl, er2.sub _ _ hc, by rw [← RpT.len g6]; exact hz, rfl⟩, h5 σ _ F2 er3 mv3⟩
                  · cases q3
                | _ => cases q3
              | _ => cases ky <;> cases q3
      · unfold RunS bnd chkD at h3; rw [q] at h3; simp only [hdc] at h3; exact h3.elim
def gLenT : D → Option D
  | .dt ds => some (.int ds.length)
  | _ => none
theorem c_lenT : Cal1 X (.builtin "len") gLenT := by
  intro H F x d d' s r e
  cases d <;> simp only [gLenT, reduceCtorEq] at e
  cases e
  obtain ⟨a, xs, rfl, q, l⟩ := r
  exact ⟨_, call_len_dT, fun Q qq => ⟨a, xs, rfl, q, qq H F _ Al.refl (by rw [rp_int, l.len])⟩⟩
theorem Cal1.or {f : Value} {g g' : D → Option D} (h : Cal1 X f g) (h' : Cal1 X f g') : Cal1 X f (fun a => (g a).or (g' a)) := by
  intro H F x d z s r e
  cases q : g d with
  | some w => simp only [q, Option.some_or] at e; cases e; exact h H F x d _ s r q
  | none => simp only [q, Option.none_or] at e; exact h' H F x d z s r e
def gLenA : D → Option D := fun d => (gLen d).or (gLenT d)
theorem c_lenA : Cal1 X (.builtin "len") gLenA := c_len.or c_lenT
end
section
variable {X : Cx} {T : Pn} {W : WX} {pos tpos p : Pos} {a b : Expr} {elts : List Expr} {kk : Nat} {ms : M (List D)}
def enumL (ds : List D) : List D := ds.zipIdx.map fun q => .tup [.int (q.2 : Nat), q.1]
theorem walks_pair {K : PySem.W.Frag} {mg : Str → Option Value} {F : Hp} {J : It} {ds : List D} {G : Hp → Prop} {xs ys : Nat → Option V} {n : Nat} (w : Walk J n G (YPair xs ys)) (hn : ds.length = n) (hG : ∀ H, Same F H → G H)
    (hd : ∀ i x y, i < n → xs i = some x → ys i = some y → ∃ d1 d2, ds[i]? = some (.tup [d1, d2]) ∧ Rp K mg F d1 x ∧ Rp K mg F d2 y) : Walks K mg J ds F := by
  refine ⟨G, _, by rw [hn]; exact w, hG, fun i H1 F1 x H2 hi s1 s2 y => ?_⟩
  obtain ⟨Ta, u, v, rfl, hT, rfl, h1, h2⟩ := y
  obtain ⟨d1, d2, h3, h4, h5⟩ := hd i u v (by rw [← hn]; exact hi) h1 h2
  have s3 : Same F1 (upd F1 Ta (.tup [u, v])) := same_upd (s2.free hT)
  refine ⟨_, _, Al.one hT, h3, ?_⟩
  rw [rp_tup]
  refine ⟨Ta, _, rfl, upd_same, ?_⟩
  rw [rl_cons]
  refine ⟨u, [v], rfl, Rp.mono (s1.trans s3) _ _ h4, ?_⟩
  rw [rl_cons]
  exact ⟨v, [], rfl, Rp.mono (s1.trans s3) _ _ h5, by rw [rl_nil]⟩
theorem RpL.getV {K : PySem.W.Frag} {mg : Str → Option Value} {F : Hp} : ∀ {ds : List D} {xs : List V} {i : Nat} {v : V}, RpL K mg F ds xs → xs[i]? = some v → ∃ d, ds[i]? = some d ∧ Rp K mg F d v
  | [], xs, i, v, l, h => by rw [rl_nil] at l; subst l; simp at h
  | d :: ds, xs, i, v, l, h => by
    rw [rl_cons] at l
    obtain ⟨w, vs, rfl, r, l⟩ := l
    cases i with
    | zero => simp at h; subst h; exact ⟨d, rfl, r⟩
    | succ i => simp at h; obtain ⟨d', h1, h2⟩ := RpL.getV l h; exact ⟨d', by simpa using h1, h2⟩
end
def distinct (ns : List Int) : Nat := (PyProof.Rows.firstMet (fun i => ns.getD i 0) ns.length).length
section
variable {X : Cx} {T : Pn} {W : WX} {a : Expr} {p p2 q pos : Pos} {m1 : M Bv}
def tLenSet (K : PySem.W.Frag) (ta : TE) : TE := fun σ H Q => ta σ H fun x H1 => ∃ (l : Addr) (ns : List Int), x = .ref l ∧ SqL K H1 l (ns.map V.int) ∧ ns.length ≤ 4000 ∧ Q (.int (distinct ns : Nat)) H1
theorem firstMet_le (f : Nat → Int) : ∀ n, (PyProof.Rows.firstMet f n).length ≤ n
  | 0 => by simp [PyProof.Rows.firstMet]
  | n + 1 => by
    rw [PyProof.Rows.firstMet_succ]
    have := firstMet_le f n
    unfold PyProof.Rows.step_dedup
    split
    · omega
    · rw [List.length_append, List.length_singleton]; omega
theorem pe_lenSet {ta : TE} (hg : Gl X "len") (hm : X.mg "len" = none) (hg2 : Gl X "set") (hm2 : X.mg "set" = none) (ha : PE X a ta) (hc : X.calm = true := by rfl)
    (na : starEach [a] X.env = (false, eval a X.env) :: starEach [] X.env := by rfl) : PE X (.Call (.Name "len" p) [.Call (.Name "set" p2) [a] [] q] [] pos) (tLenSet X.K ta) := by
  refine ⟨fun pins s σ H Q I h => ?_⟩
  refine Call_ (ld_blt I hg hm boot_len ?_)
  refine PyProof.Rows.callWith_builtin1 (PyProof.Rows.args_cons ?_ rfl) rfl rfl
  refine Call_ (ld_blt I hg2 hm2 boot_set ?_)
  refine PyProof.Rows.callWith_type1 (PyProof.Rows.args_cons (thn (ha.run pins s σ H _ I h) fun v s1 ⟨x, H1, I1, r1, q1⟩ => PyProof.Rows.args_nil ?_) na) na rfl
  obtain ⟨l, ns, rfl, hq, hl, q1⟩ := q1
  cases r1
  obtain ⟨its, r, pl, hz⟩ := I1.list hq
  have hlen : its.toArray.size = ns.length := by rw [List.size_toArray, ← r.length, List.length_map]
  refine call_set_list (I1.ok.hd hc) pl.isList (by simpa using RZ.intsAre_vals r) (by rw [hlen]; unfold scanBound; omega) fun h' tk hS hk => ?_
  refine PyProof.Rows.args_nil ?_
  rw [hlen] at hS
  have hle := firstMet_le (fun i => ns.getD i 0) ns.length
  obtain ⟨o, es, ep, t, ho, hex, hd, _, _, _, hf, hn⟩ := hS
  have I2 : Inv X pins σ H1 { s1 with heap := h', toks := tk } := I1.kept fun b o e => hk b o (Heap.lt_size e) e
  exact call_len_set ho hex hd hf (by rw [hn] <;> omega) ⟨.int (distinct ns : Nat), H1, I2.tok _, ⟨_, by rw [hn]; rfl⟩, q1⟩
def gLenSet : D → Option D
  | .lst ds => match dInts ds with
    | some ns => if ns.length ≤ 4000 then some (.int (distinct ns : Nat)) else none
    | none => none
  | _ => none
theorem jv_lenSet (hg : Gl X "len") (hm : X.mg "len" = none) (hg2 : Gl X "set") (hm2 : X.mg "set" = none) (ha : JB X T W a m1) (hc : X.calm = true := by rfl)
    (na : starEach [a] X.env = (false, eval a X.env) :: starEach [] X.env := by rfl) : JV X T W (.Call (.Name "len" p) [.Call (.Name "set" p2) [a] [] q] [] pos) (mCal1 gLenSet m1) := by
  refine PEimp (pe_lenSet hg hm hg2 hm2 ha hc na) fun σ H Q ⟨e, F, er, h⟩ => ⟨e, F, er, h.bind.mono fun b e1 H1 F1 er1 mv1 h1 v hv => ?_⟩
  obtain ⟨d, r1, h3⟩ := der_fin h1.bind er1 hv
  obtain ⟨z, hz, fin⟩ := h3.fin er1
  cases d with
  | lst ds =>
    simp only [gLenSet] at hz
    split at hz
    · rename_i ns hns
      split at hz
      · rename_i hl
        cases hz
        obtain ⟨l, xs, rfl, hl', rl⟩ := r1
        rw [dInts_eq hns] at rl
        rw [rl.ints] at hl'
        exact ⟨l, ns, rfl, SqL.of hl', hl, fin H1 F1 Al.refl _ (by rw [rp_int])⟩
      · cases hz
    · cases hz
  | _ => cases hz
end
end Sr
namespace Sr
variable [TabL]
open PySem hiding start
open PySem.Spec L2
open PyProof.Rows hiding St
section
variable {X : Cx} {T : Pn} {W : WX} {pos p apos : Pos} {o e : Expr} {es : List Expr} {mo : M D} {ms : M (List D)} {k j n : Nat} {c m : Str} {C : Addr} {ps : List Str} {f : Fnc}
def isI (c : Str) : D → Option Unit
  | .obj c' _ => if c' = c then some () else none
  | _ => none
theorem isI_ok {K : PySem.W.Frag} {mg : Str → Option Value} {H F : Hp} {d : D} {x : V} {u : Unit} (hc : mg c = some (.ref C)) (s : Same F H) (hx : Rp K mg F d x) (h : isI c d = some u) : ∃ a dx gs, x = .ref a ∧ H a = some (.ins C dx gs) := by
  cases d with
  | obj c' fs =>
    simp only [isI] at h
    split at h
    · rename_i hh
      subst hh
      rw [rp_obj] at hx
      obtain ⟨a, C', dx, gs, rfl, m1, m2, m3⟩ := hx
      rw [hc] at m1; cases m1
      exact ⟨a, dx, gs, rfl, s _ _ m2⟩
    · cases h
  | _ => cases h
end
end Sr
namespace Sr
variable [TabL]
open PySem hiding start
open PySem.Spec L2
open PyProof.Rows hiding St
theorem meets_enum1 {v : Value} {o : Obj} {H : Heap → Prop} (B : Begins v o H) :
    Meets (Builtin.«enumerate.__new__» ⟨[.type "enumerate", v], []⟩) (fun _ R s => H s.heap ∧
      R (.ok (.ret (.ref (s.heap.push o).objs.size))) { s with heap := (s.heap.push o).push { cls := .type "enumerate", data := .fields #[.none, .bool false, .ref s.heap.objs.size, rawInt 0, .none, .none] } }) :=
  .of_wp fun prog w A R s h => by
    obtain ⟨hp, g, d, tk, os⟩ := s; obtain ⟨h1, h⟩ := h
    have hsub := sub_enumerate
    have q1 : ∀ {A' : Around} {E : Value → Shared → Prop} {Q : Value → Shared → Prop}, Q (.ref hp.objs.size) ⟨hp.push o, g, d, tk, os⟩ → wpAny (model prog w) A' (pyIter v) Q E ⟨hp, g, d, tk, os⟩ :=
      fun q => B.iter prog w _ _ ⟨hp, g, d, tk, os⟩ _ h1 q
    wp_walk using q1
    refine wpAny_stack_any fun st => wpAny_pure ?_
    split
    · rename_i c _ _ _ _ _
      cases (c == Value.type "enumerate")
      · wp_walk using q1
        exact ⟨_, rfl, h⟩
      · wp_walk using q1
        exact ⟨_, rfl, h⟩
    · wp_walk using q1
      exact ⟨_, rfl, h⟩
theorem call_enum1 {prog : Program} {w : World} {A : Around} {E : Value → Shared → Prop} {s : Shared} {v : Value} {o : Obj} {H : Heap → Prop} {Q : Value → Shared → Prop} (B : Begins v o H) (h1 : H s.heap)
    (h : ∀ h', IsEnum h' (s.heap.objs.size + 1) s.heap.objs.size 0 .none → h'.get? s.heap.objs.size = some o → h'.objs.size = s.heap.objs.size + 2 →
      (∀ b o, s.heap.get? b = some o → h'.get? b = some o) → Q (.ref (s.heap.objs.size + 1)) { s with heap := h' }) :
    wpAny (model prog w) A (call (.type "enumerate") [v]) Q E s := by
  refine callType_new F.called_enumerate (by decide) (F.typeCall_enumerate_1 _) (F.newCall_enumerate_1 _) (fun obj => F.args_object_init_2 obj _) F.entry_enumerate_new (meets_enum1 B) ⟨h1, ?_⟩
  have hz : (s.heap.push o).objs.size = s.heap.objs.size + 1 := Heap.size_push ..
  show _ ∧ _
  rw [hz]
  have he : IsEnum ((s.heap.push o).push { cls := .type "enumerate", data := .fields #[.none, .bool false, .ref s.heap.objs.size, rawInt 0, .none, .none] }) (s.heap.objs.size + 1) s.heap.objs.size 0 .none := by
    have := Heap.get?_push_size (s.heap.push o) (o := { cls := .type "enumerate", data := .fields #[.none, .bool false, .ref s.heap.objs.size, rawInt 0, .none, .none] }) rfl
    rw [hz] at this; exact this
  refine ⟨⟨_, he, rfl⟩, h _ he (Heap.get?_push_of_some _ (Heap.get?_push_size _ B.free)) (by rw [Heap.size_push, hz]) fun b o x => Heap.get?_push_of_some _ (Heap.get?_push_of_some _ x)⟩
def IteT (K : PySem.W.Frag) (a : Addr) : It :=
  ⟨fun i H => ∃ (xs : List V) (x : V), SqT K H a xs ∧ xs[i]? = some x, fun i H v H' => ∃ T x, v = .ref T ∧ H T = none ∧ H' = upd H T (.tup [.int (i : Nat), x]) ∧ ∀ xs, SqT K H a xs → xs[i]? = some x, fun i H => ∃ xs : List V, SqT K H a xs ∧ xs.length = i⟩
theorem turn_enumT {P : Program} {w : World} {K : PySem.W.Frag} {elts : List Expr} {kk : Nat} {tpos : Pos} (a e it : Addr) :
    Turn P w K (.Tuple elts kk tpos) (IteT K a) [e, it] e (fun i h => (∃ old, IsEnum h e it ((i : Nat) : Int) old) ∧ h.IsTupleIter it a i ∧ e ≠ it ∧ a ≠ it ∧ a ≠ e) where
  mem := by simp
  obj := fun i h st b hb => by
    obtain ⟨⟨old, he⟩, ⟨o, ho, hc, hd⟩, _⟩ := st
    have e' : b = e ∨ b = it := by simpa using hb
    rcases e' with z | z
    · rw [z]; exact ⟨_, he, fun v q => nomatch q⟩
    · rw [z]; exact ⟨o, ho, fun v q => by rw [hd] at q; cases q⟩
  keep := fun i h h' st k => let ⟨⟨old, he⟩, hi, hne⟩ := st; ⟨⟨old, k e (by simp) _ he⟩, hi.at fun o q => k it (by simp) o q, hne⟩
  item := by
    intro X hP hw hK hc i pins s σ H E I hf st hg
    subst hP hw hK
    obtain ⟨⟨old, he⟩, hit, hne, hai, hae⟩ := st
    obtain ⟨xs, x, hq, hx⟩ := hg
    obtain ⟨its, rv, p, hz⟩ := I.tuple hq
    obtain ⟨u, hu, ru⟩ := rv.get hx
    have hel : e < s.heap.objs.size := Heap.lt_size he
    have hil : it < s.heap.objs.size := by obtain ⟨_, q, _⟩ := hit; exact Heap.lt_size q
    have hlt : i < its.toArray.size := by
      have := (List.getElem?_eq_some_iff.mp hu).1
      simpa using this
    refine wpAny_pyNext_enum_itemC (Draws.tuple (A := X.A.in1) (I.ok.hd hc) it a hai its.toArray) he ⟨hit, p⟩ hlt hne (by simp [hne]; exact fun z => hae z.symm) fun u' h' tk hPx ho hit' hT hsz hk => ?_
    have hu' : u' = u := by
      have : its[i]? = some u' := by simpa using hPx
      rw [hu] at this; exact (Option.some.inj this).symm
    subst hu'
    refine ⟨_, rfl, wpAny_letOwnedTupleGo_enum (s := { s with heap := h', toks := tk + 1 }) ho fun h'' he' sb => ?_⟩
    have hT2 : h''.get? s.heap.objs.size = some { cls := .type "tuple", data := .seq #[.int i tk, u'] } := (sb.2 _ (Nat.ne_of_gt hel)).trans hT
    have new : ObjOk X.prog X.w (upd H s.heap.objs.size (.tup [.int (i : Nat), x])) h'' s.heap.objs.size (.tup [.int (i : Nat), x]) :=
      ⟨by show 2 ≤ sizeLine; decide, [.int i tk, u'], .cons ⟨_, rfl⟩ (.cons ru .nil), ⟨_, hT2, rfl, _, rfl⟩⟩
    have I1 : Inv X pins σ (upd H s.heap.objs.size (.tup [.int (i : Nat), x])) { s with heap := h'', toks := tk + 1 } :=
      I.turnedNew (ch := [e, it]) (fun b ob hb q => (sb.2 b (fun z => hb (by simp [z]))).trans (hk b ob (fun z => hb (by simp [z])) (fun z => hb (by simp [z])) q)) hf (Nat.le_refl _) new
    refine ⟨.ref s.heap.objs.size, _, I1, rfl, ⟨_, x, rfl, I.hok.fresh (Nat.le_refl _), rfl, fun ys hy => by rw [I.tuple_inj hy hq]; exact hx⟩, ⟨⟨u', ?_⟩, hit'.1.at fun o q => (sb.2 it (Ne.symm hne)).trans q, hne, hai, hae⟩, fun b hb => ?_⟩
    · have e1 : ((i + 1 : Nat) : Int) = (i : Int) + 1 := by omega
      rw [e1]; exact he'
    · have hb' : b < s.heap.objs.size := by
        have e' : b = e ∨ b = it := by simpa using hb
        rcases e' with z | z
        · rw [z]; exact hel
        · rw [z]; exact hil
      rw [upd_ne (Nat.ne_of_lt hb')]
      exact (hf b hb).1
  done := by
    intro X hP hw hK hc i pins s σ H E I hf st hg
    subst hP hw hK
    obtain ⟨⟨old, he⟩, hit, hne, hai, hae⟩ := st
    obtain ⟨xs, hq, hx⟩ := hg
    obtain ⟨its, rv, p, hz⟩ := I.tuple hq
    obtain ⟨f0, f1, f2, f3, f4, f5⟩ := hf it (by simp)
    have hl := rv.length
    have hsz : its.toArray.size = i := by rw [List.size_toArray, ← hl, hx]
    exact wpAny_pyNext_enum_endD (Draws.tuple (A := X.A.in1) (I.ok.hd hc) it a hai its.toArray) he ⟨by rw [hsz]; exact hit, p⟩ fun h' eb => ⟨rfl, I.turned (t' := s.toks) (fun b o hb q => eb b o hb q) f0 f1 f3 f4 f5⟩
  self := fun A i s Q E st h => let ⟨⟨_, he⟩, _⟩ := st; wpAny_pyIter_enum he h
theorem pi_enumT {X : Cx} {e : Expr} {ta : TA} {p pos tpos : Pos} {elts : List Expr} {kk : Nat} (hg : Gl X "enumerate") (hm : X.mg "enumerate" = none) (ha : PA X [e] ta) (hs : starEach [e] X.env = [(false, eval e X.env)] := by rfl) :
    PI X (.Tuple elts kk tpos) (.Call (.Name "enumerate" p) [e] [] pos) (fun σ H R => ta σ H fun vs H1 => ∃ a xs, vs = [.ref a] ∧ SqT X.K H1 a xs ∧ R (IteT X.K a) H1) := by
  refine ⟨fun pins s σ H R I h => ?_⟩
  refine Call_ (ld_blt I hg hm boot_enumerate (PyProof.Rows.callWith_type1 (thn (ha.run pos pins s σ H _ I h) fun us s1 ⟨vs, H1, I1, r1, q1⟩ => ?_) hs rfl))
  obtain ⟨a, xs, ex, hq, q⟩ := q1
  subst ex
  cases r1 with
  | cons r rr =>
    cases rr
    cases r
    obtain ⟨its, rv, p', hz⟩ := I1.tuple hq
    have hal : a < s1.heap.objs.size := by obtain ⟨o, ho, _⟩ := p'; exact Heap.lt_size ho
    refine call_enum1 (begins_tuple a its.toArray) p' fun h' he hit hsz hk => wpAny_pyIter_enum he ?_
    have I2 : Inv X pins σ H1 { s1 with heap := h' } := I1.kept (t' := s1.toks) hk
    refine ⟨s1.heap.objs.size + 1, [s1.heap.objs.size + 1, s1.heap.objs.size], _, _, H1, rfl, I2, turn_enumT a (s1.heap.objs.size + 1) s1.heap.objs.size, ⟨⟨.none, he⟩, ⟨_, hit, rfl, rfl⟩, Nat.succ_ne_self _, Nat.ne_of_lt hal, Nat.ne_of_lt (Nat.lt_succ_of_lt hal)⟩, fun b hb => ?_, q⟩
    have e' : b = s1.heap.objs.size + 1 ∨ b = s1.heap.objs.size := by simpa using hb
    have hle : s1.heap.objs.size ≤ b := by
      rcases e' with z | z
      · rw [z]; exact Nat.le_add_right _ _
      · rw [z]; exact Nat.le_refl _
    exact I1.fpOk hle (I1.hok.fresh hle)
section
variable {K : PySem.W.Frag} {a : Addr} {xs : List V}
theorem walk_enumT : Walk (IteT K a) xs.length (fun H => SqT K H a xs) (YPair (fun i => some (.int (i : Nat))) (fun i => xs[i]?)) := by
  refine ⟨fun i _ hi q => ⟨xs, xs[i], q, by simp [hi]⟩, fun _ q => ⟨xs, q, rfl⟩, fun i H v H' _ q y => ?_⟩
  obtain ⟨T, x, h1, h2, h3, h4⟩ := y
  exact ⟨T, .int (i : Nat), x, h1, h2, h3, rfl, h4 xs q⟩
end
section
variable {X : Cx} {T : Pn} {W : WX} {pos tpos p : Pos} {a b : Expr} {elts : List Expr} {kk : Nat} {ms : M (List D)}
def gEnumT : List D → Option (List D)
  | [.tup ds] => some (enumL ds)
  | _ => none
def mEnumT (ms : M (List D)) : M (List D) := bnd ms fun ds => opt (gEnumT ds)
theorem ji_enumT (hg : Gl X "enumerate") (hm : X.mg "enumerate" = none) (ha : JA X T W [a] ms) (hs : starEach [a] X.env = [(false, eval a X.env)] := by rfl) : JI X T W (.Tuple elts kk tpos) (.Call (.Name "enumerate" p) [a] [] pos) (mEnumT ms) := by
  refine PIimp (pi_enumT hg hm ha hs) fun σ H R ⟨e, F, er, h⟩ => ⟨e, F, er, h.bind.mono fun ds e1 H1 F1 er1 mv1 h1 vs hvs => ?_⟩
  obtain ⟨z, hz, fin⟩ := h1.fin er1
  unfold gEnumT at hz
  split at hz
  · rename_i ds'
    cases hz
    obtain ⟨v, rfl, r⟩ := rl_one hvs
    rw [rp_tup] at r
    obtain ⟨l, xs, rfl, hl, rl⟩ := r
    refine ⟨l, xs, rfl, seqT_mono er1.sub hl, fin H1 F1 Al.refl _ ?_⟩
    refine walks_pair (walk_enumT (K := X.K) (a := l) (xs := xs)) (by unfold enumL; rw [List.length_map, List.length_zipIdx]; exact rl.len) (fun H s => seqT_mono s hl) fun i x y hi h1 h2 => ?_
    cases h1
    obtain ⟨d, h3, h4⟩ := rl.getV h2
    refine ⟨.int (i : Nat), d, ?_, by rw [rp_int], h4⟩
    unfold enumL
    rw [List.getElem?_map, List.getElem?_zipIdx, h3]; simp
  · cases hz
end
def TAm (K : PySem.W.Frag) (mg : Str → Option Value) (T : Pn) (W : WX) (m : M (List (Bool × D))) : TA := fun σ H Q => ∃ e F, ER K mg T e σ H F ∧ RunAt K mg T W e F m σ H fun l e' H' F' => ∀ vs, RpM K mg H e' σ H' F' l vs → Q vs H'
abbrev JM (X : Cx) (T : Pn) (W : WX) (es : List Expr) (m : M (List (Bool × D))) : Prop := PA X es (TAm X.K X.mg T W m)
def xNil : M (List (Bool × D)) := ret []
def xCons (m : M D) (ms : M (List (Bool × D))) : M (List (Bool × D)) := bnd m fun d => bnd ms fun l => ret ((false, d) :: l)
def xConsO (m : M D) (ms : M (List (Bool × D))) : M (List (Bool × D)) := bnd m fun d => bnd ms fun l => ret ((true, d) :: l)
section
variable {K : PySem.W.Frag} {mg : Str → Option Value} {H0 H0' : Hp} {e : En} {σ : St} {H F : Hp} {p : Addr}
theorem RpM.low (h : ∀ p, H0 p = none → H0' p = none) : ∀ {l : List (Bool × D)} {vs : List V}, RpM K mg H0 e σ H F l vs → RpM K mg H0' e σ H F l vs
  | [], vs, r => r
  | (false, d) :: l, vs, ⟨v, r, e1, h1, h2⟩ => ⟨v, r, e1, h1, RpM.low h h2⟩
  | (true, d) :: l, vs, ⟨p, r, e1, h1, h2, h3, h4, h5, h6⟩ => ⟨p, r, e1, h _ h1, h2, h3, h4, h5, RpM.low h h6⟩
theorem RpM.noOwn {o : HO} (h : H0 p = some o) : ∀ {l : List (Bool × D)} {vs : List V}, RpM K mg H0 e σ H F l vs → NoOwn p l vs
  | [], vs, r => trivial
  | (false, d) :: l, vs, ⟨v, r, e1, h1, h2⟩ => by subst e1; show NoOwn p l r; exact RpM.noOwn h h2
  | (true, d) :: l, vs, ⟨q, r, e1, h1, h2, h3, h4, h5, h6⟩ => by
    subst e1
    refine ⟨fun z => ?_, RpM.noOwn h h6⟩
    cases z
    rw [h1] at h; cases h
end
section
variable {X : Cx} {T : Pn} {W : WX} {pos : Pos} {a b c : Expr} {es : List Expr} {ma : M D} {ms : M (List (Bool × D))}
theorem jm_nil : JM X T W [] xNil := PAimp pa_nil fun σ H Q ⟨e, F, er, h⟩ => h H F er Mv.refl _ rfl
theorem jm_cons (ha : JV X T W a ma) (hr : JM X T W es ms) (hs : starEach (a :: es) X.env = (false, eval a X.env) :: starEach es X.env := by rfl) : JM X T W (a :: es) (xCons ma ms) := by
  refine PAimp (pa_cons ha hr hs) fun σ H Q ⟨e, F, er, h⟩ => ⟨e, F, er, h.bind.mono fun d e1 H1 F1 er1 mv1 h1 v hv => ⟨e1, F1, er1, h1.bind.mono fun l e2 H2 F2 er2 mv2 h2 vs hvs => ?_⟩⟩
  exact h2 H2 F2 er2 Mv.refl _ ⟨v, vs, rfl, Rp.mono mv2.sub _ _ hv, hvs.low mv1.there⟩
theorem jm_consO (ha : JO X T W a ma) (hr : JM X T W es ms) (hs : starEach (a :: es) X.env = (false, eval a X.env) :: starEach es X.env := by rfl) : JM X T W (a :: es) (xConsO ma ms) := by
  refine PAimp (pa_cons ha hr hs) fun σ H Q ⟨e, F, er, h⟩ => ⟨e, F, er, ?_⟩
  have hb := h.bind
  unfold RunAt at hb ⊢
  cases q : ma e with
  | ok d e1 =>
    rw [q] at hb
    intro H1 F1 er1 mv1 p hp fp np ow
    have h1 : RunAt X.K X.mg T W e1 F1 (bnd ms fun l => ret ((true, d) :: l)) σ H1 fun l e' H' F' => ∀ vs, RpM X.K X.mg H e' σ H' F' l vs → Q vs H' := hb H1 F1 er1 mv1
    obtain ⟨o, ho⟩ := ow.there
    refine ⟨e1, F1, er1, h1.bind.mono fun l e2 H2 F2 er2 mv2 h2 vs hvs => ?_⟩
    obtain ⟨k1, k2⟩ := mv2.keep p o ho np
    have k1 := k1 (ow.nt ho)
    have f2 : F2 p = none := by
      cases z : F2 p with
      | none => rfl
      | some u =>
        rcases mv2.new p u z with z | z | z
        · rw [fp] at z; cases z
        · rw [ho] at z; cases z
        · exact (np z).elim
    exact h2 H2 F2 er2 Mv.refl _ ⟨p, vs, rfl, hp, f2, k2, ow.keep mv2.sub fun u hu => (mv2.keep p u hu np).1 (ow.nt hu), hvs.noOwn ho, hvs.low mv1.there⟩
  | exc x e1 => rw [q] at hb; exact hb
  | bad => rw [q] at hb; exact hb
def putM : List (Nat × Bool × D) → En → En
  | [], e => e
  | (i, false, d) :: l, e => putM l (e.set i (.val d))
  | (i, true, d) :: l, e => putM l (e.set i (.own d))
theorem setM {K : PySem.W.Frag} {mg : Str → Option Value} {H0 F0 : Hp} {e0 : En} {σ0 : St} : ∀ (is : List Nat) (l : List (Bool × D)) (vs : List V) (e : En) (σ : St) (H F : Hp), (∀ i ∈ is, NoP T i) → is.length = l.length → ER K mg T e σ H F → Mv e0 σ0 H0 F0 e σ H F → RpM K mg H0 e σ H F l vs →
    ER K mg T (putM (is.zip l) e) ((is.zip vs).foldl (fun σ q => σ.set q.1 (some q.2)) σ) H F ∧ Mv e0 σ0 H0 F0 (putM (is.zip l) e) ((is.zip vs).foldl (fun σ q => σ.set q.1 (some q.2)) σ) H F
  | [], [], vs, e, σ, H, F, _, _, er, mv, r => by rw [show vs = [] from r]; exact ⟨er, mv⟩
  | i :: is, (false, d) :: l, vs, e, σ, H, F, hT, hl, er, mv, ⟨v, r, e1, h1, h2⟩ => by
    subst e1
    obtain ⟨er2, mv2⟩ := er.setV (hT i (by simp)) h1
    refine setM is l r (e.set i (.val d)) (σ.set i (some v)) H F (fun j hj => hT j (by simp [hj])) (by simpa using hl) er2 (mv.trans mv2) ?_
    have tr : ∀ {l : List (Bool × D)} {vs : List V}, RpM K mg H0 e σ H F l vs → RpM K mg H0 (e.set i (.val d)) (σ.set i (some v)) H F l vs := by
      intro l
      induction l with
      | nil => intro vs h; exact h
      | cons x l ih =>
        intro vs h
        obtain ⟨bb, dd⟩ := x
        cases bb with
        | false => obtain ⟨w, r, e1, h1, h2⟩ := h; exact ⟨w, r, e1, h1, ih h2⟩
        | true =>
          obtain ⟨q, r, e1, h1, h2, h3, h4, h5, h6⟩ := h
          obtain ⟨o, ho⟩ := h4.there
          exact ⟨q, r, e1, h1, h2, (mv2.keep q o ho h3).2, h4, h5, ih h6⟩
    exact tr h2
  | i :: is, (true, d) :: l, vs, e, σ, H, F, hT, hl, er, mv, ⟨p, r, e1, h1, h2, h3, h4, h5, h6⟩ => by
    subst e1
    obtain ⟨er2, mv2⟩ := er.setO (H0 := H0) (hT i (by simp)) h2 h3 h4
    have mv3 := mv2 h1 mv
    refine setM is l r (e.set i (.own d)) (σ.set i (some (.ref p))) H F (fun j hj => hT j (by simp [hj])) (by simpa using hl) er2 mv3 ?_
    have tr : ∀ {l : List (Bool × D)} {vs : List V}, NoOwn p l vs → RpM K mg H0 e σ H F l vs → RpM K mg H0 (e.set i (.own d)) (σ.set i (some (.ref p))) H F l vs := by
      intro l
      induction l with
      | nil => intro vs _ h; exact h
      | cons x l ih =>
        intro vs no h
        obtain ⟨bb, dd⟩ := x
        cases bb with
        | false => obtain ⟨w, r, e1, h1, h2⟩ := h; subst e1; exact ⟨w, r, rfl, h1, ih no h2⟩
        | true =>
          obtain ⟨q, r, e1, h1, h2, h3, h4, h5, h6⟩ := h
          subst e1
          obtain ⟨no1, no2⟩ := no
          refine ⟨q, r, rfl, h1, h2, ?_, h4, h5, ih no2 h6⟩
          rintro ⟨j, x, q1, q2⟩
          by_cases hj : j = i
          · subst hj
            by_cases hlt : j < σ.length
            · rw [List.getElem?_set_self hlt] at q2; cases q2; exact no1 rfl
            · rw [List.getElem?_eq_none (by rw [List.length_set]; omega)] at q2; cases q2
          · rw [List.getElem?_set_ne (Ne.symm hj)] at q1 q2
            exact h3 ⟨j, x, q1, q2⟩
    exact tr h5 h6
def sParM (is : List Nat) (ms : M (List (Bool × D))) : M Fl := bnd ms fun l e => if l.length = is.length then .ok .nx (putM (is.zip l) e) else .bad
end
end Sr
namespace Sr
variable [TabL]
open PySem hiding start
open PySem.Spec L2
open PyProof.Rows hiding St
section
variable {X : Cx} {T : Pn} {W : WX} {pos : Pos} {a b c : Expr} {es : List Expr} {ms : M (List (Bool × D))}
theorem js_asgM3 {i j k : Nat} {x y z : Str} {px py pz pt : Pos} {kt k2 pt2} (hT : NoP T i) (hT' : NoP T j) (hT2 : NoP T k) (hc : X.calm = true) (hN : X.N.Nodup) (hi : X.N[i]? = some x) (hj : X.N[j]? = some y) (hk : X.N[k]? = some z)
    (hx : Loc X.env.scope x) (hy : Loc X.env.scope y) (hz : Loc X.env.scope z) (fx : X.fn x = true ∨ X.env.scope.names.lookup x = some .local) (fy : X.fn y = true ∨ X.env.scope.names.lookup y = some .local) (fz : X.fn z = true ∨ X.env.scope.names.lookup z = some .local) (ha : JM X T W [a, b, c] ms)
    (hw : swappedStores [.Tuple [.Name x px, .Name y py, .Name z pz] kt pt] (.Tuple [a, b, c] k2 pt2) X.env = pure none := by rfl)
    (hs : swapsWithSole [.Tuple [.Name x px, .Name y py, .Name z pz] kt pt] (.Tuple [a, b, c] k2 pt2) pos.line X.env = pure false := by rfl) :
    JS X T W (.Assign [.Tuple [.Name x px, .Name y py, .Name z pz] kt pt] (.Tuple [a, b, c] k2 pt2) pos) (sParM [i, j, k] ms) := by
  refine PSimp (ps_asg (pe_tup ha) (pg_tup hc (pgs_cons (pg_name hN hi hx fx) (pgs_cons (pg_name hN hj hy fy) (pgs_cons (pg_name hN hk hz fz) pgs_nil)))) hs hw) fun Dn σ H ⟨e, F, er, h⟩ => ⟨e, F, er, ?_⟩
  have hb := h.bind
  unfold RunAt at hb ⊢
  cases q : ms e with
  | ok l e1 =>
    rw [q] at hb
    intro H1 F1 er1 mv1 vs hvs
    unfold sParM at h
    unfold RunS bnd at h
    rw [q] at h
    dsimp only at h
    by_cases hl : l.length = [i, j, k].length
    · rw [if_pos hl] at h
      have hlen : vs.length = 3 := by
        match l, hl, hvs with
        | [(b1, d1), (b2, d2), (b3, d3)], _, hvs =>
          obtain ⟨v1, r1, rfl, g1⟩ := hvs.one
          obtain ⟨v2, r2, rfl, g2⟩ := g1.one
          obtain ⟨v3, r3, rfl, g3⟩ := g2.one
          rw [show r3 = [] from g3]; rfl
      refine ⟨by rw [hlen]; decide, fun p hp => ?_⟩
      have np : ¬ Ow e1 σ p := Ow.ne_of_free er1 hp
      have fp : F1 p = none := er1.sub.free hp
      have hp0 : H p = none := mv1.there p hp
      obtain ⟨er2, mv2⟩ := setM (T := T) [i, j, k] l vs e1 σ (upd H1 p (.tup vs)) F1 (fun z hz => by simp at hz; rcases hz with rfl | rfl | rfl; exact hT; exact hT'; exact hT2) hl.symm (er1.updFree fp np) (mv1.updNew hp0) (hvs.upd hp)
      match vs, hlen, hvs, er2, mv2 with
      | [v1, v2, v3], _, hvs, er2, mv2 =>
        exact ⟨p, _, rfl, Or.inl (Or.inl upd_same), rfl, v1, _, rfl, v2, _, rfl, v3, _, rfl, rfl, h _ _ F1 er2 mv2⟩
    · rw [if_neg hl] at h; exact h.elim
  | exc x e1 => rw [q] at hb; exact hb
  | bad => rw [q] at hb; exact hb
end
section
variable {X : Cx}
def gReprP : D → Option D
  | .str z => if (reprText z).length ≤ sizeLine then some (.str (reprText z)) else none
  | .bl b => some (.str (if b then "True" else "False"))
  | .non => some (.str "None")
  | _ => none
theorem call_reprP : CallR X (.builtin "repr") (fun xs H Q => (∃ z, xs = [.str z] ∧ (reprText z).length ≤ sizeLine ∧ Q (.str (reprText z)) H) ∨ (∃ b, xs = [.bl b] ∧ Q (.str (if b then "True" else "False")) H) ∨ (xs = [.non] ∧ Q (.str "None") H)) := by
  intro pins s σ H xs us Q I r h
  rcases h with ⟨z, rfl, hz, q⟩ | ⟨b, rfl, q⟩ | ⟨rfl, q⟩
  · obtain ⟨u, rfl, rx⟩ := vals1 r
    obtain ⟨t, rfl⟩ := rx
    exact PySem.P.repr_of_str (hsz := hz) ⟨.str _, H, I.kept (t' := s.toks + 1) fun b o e => e, ⟨_, rfl⟩, q⟩
  · obtain ⟨u, rfl, rx⟩ := vals1 r
    cases rx
    exact PySem.P.repr_of_bool ⟨.str _, H, I.kept (t' := s.toks + 1) fun b o e => e, ⟨_, rfl⟩, q⟩
  · obtain ⟨u, rfl, rx⟩ := vals1 r
    cases rx
    exact PySem.P.repr_of_none ⟨.str _, H, I.kept (t' := s.toks + 1) fun b o e => e, ⟨_, rfl⟩, q⟩
theorem c_reprP : Cal1 X (.builtin "repr") gReprP := by
  intro H F x d d' s r e
  cases d <;> simp only [gReprP, reduceCtorEq] at e
  · cases e
    exact ⟨_, call_reprP, fun Q q => .inr (.inr ⟨by rw [show x = .non from r], q H F _ Al.refl (by rw [rp_str])⟩)⟩
  · cases e
    exact ⟨_, call_reprP, fun Q q => .inr (.inl ⟨_, by rw [show x = .bl _ from r], q H F _ Al.refl (by rw [rp_str])⟩)⟩
  · split at e
    · rename_i hz
      cases e
      rw [rq_str] at r
      subst r
      exact ⟨_, call_reprP, fun Q q => .inl ⟨_, rfl, hz, q H F _ Al.refl (by rw [rp_str])⟩⟩
    · cases e
def gReprA : D → Option D := fun d => (gRepr d).or (gReprP d)
theorem c_reprA (hgu : X.A.guards = some []) (hu : X.A.units + 100 < cLine) : Cal1 X (.builtin "repr") gReprA := (c_repr hgu hu).or c_reprP
end
end Sr
namespace Sr
variable [TabL]
open PySem hiding start
open PySem.Spec L2
open PyProof.Rows hiding St
section
variable {X : Cx} {T : Pn} {W : WX} {pos p : Pos} {a : Expr} {ma : M D}
def rLenO (X : Cx) (C : Addr) (sp : Sp) : List V → Hp → VK → Prop := fun xs H Q => ∃ a dx fs, xs = [.ref a] ∧ H a = some (.ins C dx fs) ∧ sp [.ref a] H (fun v H' => ∃ z : Int, v = .int z ∧ (0 ≤ z ∧ z < 2 ^ 63) ∧ Q (.int z) H') fun _ _ _ => False
theorem call_lenO {k : Nat} {C fa : Addr} {fd : FuncData} {ps : List Str} {sp : Sp} (hs : PySem.W.findIn X.K (.ref C) "__len__" = some (some (.ref fa))) (hf : PySem.W.isFn X.K (.ref fa) = true)
    (G : FnG X.prog X.w X.K X.mg X.base k fa fd ps sp) (hb : Binds X.K fd ps []) (hr : Room (k + 1) X.A) (hgu : X.A.guards = some []) : CallR X (.builtin "len") (rLenO X C sp) := by
  intro pins s σ H xs us Q I r h
  obtain ⟨a, dx, fs, rfl, ha, hsp⟩ := h
  obtain ⟨u, rfl, ru⟩ := vals1 r
  obtain rfl : u = Value.ref a := ru
  obtain ⟨mA, J, _⟩ := ins_get I.hok ha
  obtain ⟨od, J, _⟩ := J.look
  obtain ⟨m, hF⟩ := I.fr
  refine PySem.W.len_K hF I.ok.mod.kin J hs hf ?_
  have r2 : Vals [V.ref a] [Value.ref a] := .cons (show RelV (V.ref a) (Value.ref a) from rfl) .nil
  refine wpAny_mono (run_gA (W := W0) G hr.in1 hgu rfl hb takes0 I r2 hsp) (fun w s' hw => ?_) fun _ _ e => e
  obtain ⟨z, H', I', rz, b, rfl, hb, q⟩ := hw
  obtain ⟨t, rfl⟩ := rz
  exact ⟨hb, .int b, H', I'.kept (t' := s'.toks + 1) fun b o e => e, ⟨_, rfl⟩, q⟩
def mLenO (c : Str) (f : Fnc) (ma : M D) : M D := bnd ma fun d => match d with
  | .obj c' fs => if c' = c then (fun e => match f .non [.obj c' fs] with
    | .ok (.int z) _ => if 0 ≤ z ∧ z < 2 ^ 63 then .ok (.int z) e else .bad
    | _ => .bad) else fun _ => .bad
  | _ => fun _ => .bad
theorem jv_lenO {k : Nat} {c : Str} {C : Addr} {ps : List Str} {f : Fnc} {j : Nat} (O : OwnM X k c C "__len__" 1 ps f) (hp : Pl X j) (hg : Gl X "len") (hm : X.mg "len" = none) (hv : bootBuiltins "len" = some (.builtin "len")) (ha : JV X T W a ma)
    (hj : k + 1 ≤ j := by decide) (he : starEach [a] X.env = (false, eval a X.env) :: starEach [] X.env := by rfl) : JV X T W (.Call (.Name "len" p) [a] [] pos) (mLenO c f ma) := by
  obtain ⟨fa, fd, h1, h2, h3, h4⟩ := O.ex
  refine PEimp (pe_callB callAny hg hm hv (pa_cons ha pa_nil he) (by decide) (by decide) he rfl) fun σ H Q ⟨e, F, er, h⟩ => ⟨e, F, er, h.bind.mono fun d e1 H1 F1 er1 mv1 g1 x hx => ?_⟩
  cases d with
  | obj c' fs =>
    dsimp only at g1
    by_cases hc : c' = c
    · rw [if_pos hc] at g1
      subst hc
      cases q : f .non [.obj c' fs] with
      | ok z o =>
        cases z with
        | int z =>
          by_cases hz : 0 ≤ z ∧ z < 2 ^ 63
          · have hrun : RunAt X.K X.mg T W0 e1 F1 (ap0 f [.obj c' fs]) σ H1 (fun d _ H' F' => ∀ v, Rp X.K X.mg F' d v → ∃ b : Int, v = .int b ∧ (0 ≤ b ∧ b < 2 ^ 63) ∧ Q (.int b) H') := by
              refine RunAt.of (x := .int z) (e1 := e1) (by unfold ap0; rw [q]) fun H' F' er' mv' v hv => ?_
              unfold RunAt at g1
              simp only [q, if_pos hz] at g1
              rw [rp_int] at hv
              exact ⟨z, hv, hz, g1 H' F' er' mv' _ (by rw [rp_int])⟩
            have hx2 := hx
            rw [rp_obj] at hx2
            obtain ⟨a', C', dx, gs, rfl, m1, m2, _⟩ := hx2
            rw [O.cl.mg] at m1; cases m1
            exact ⟨_, call_lenO h1 h2 h3 h4 (hp.room.mono hj) hp.gu, a', dx, gs, rfl, er1.sub _ _ m2, ap0_v hrun er1 (by rw [rl_cons]; exact ⟨_, _, rfl, hx, by rw [rl_nil]⟩) rfl⟩
          · unfold RunAt at g1; simp only [q, if_neg hz] at g1
        | _ => unfold RunAt at g1; simp only [q] at g1
      | exc x o => unfold RunAt at g1; simp only [q] at g1
      | bad => unfold RunAt at g1; simp only [q] at g1
    · rw [if_neg hc] at g1; exact g1.elim
  | _ => exact g1.elim
end
end Sr
namespace Sr
variable [TabL]
open PySem hiding start
open PySem.Spec L2
open PyProof.Rows hiding St
theorem int_add_obj (a : Int) (t : Tok) (x C dx : Addr) : Meets (Builtin.«int.__add__» ⟨[.int a t, .ref x], []⟩) (fun _ R s => s.heap.get? x = some (PySem.W.instObj C dx) ∧ R (.ok (.ret Value.notImplemented)) s) :=
  .of_wp fun prog w A R s h => by obtain ⟨hp, g, d, tk, os⟩ := s; obtain ⟨hl, h⟩ := h; unfold PySem.W.instObj at hl; wp_walk; exact ⟨_, rfl, h⟩
end Sr
namespace Sr
variable [TabL]
open PySem hiding start
open PySem.Spec L2
open PyProof.Rows hiding St
section
variable {X : Cx} {T : Pn} {W : WX} {pos p : Pos} {a b : Expr} {ma mb : M D} {c : Str} {C : Addr} {k j : Nat} {ps : List Str} {f : Fnc}
theorem pe_opW {op : Operator} {r : L2.St → R2} {ta tb : TE} (ho : ∀ (pins : List (Addr × Obj)) (s : Shared) (σ : L2.St) (H : Hp) (x y : V) (v u : Value) (Q : VK), Inv X pins σ H s → RelV x v → RelV y u → r σ x y H Q → wpAny (model X.prog X.w) X.A (binaryOp op v u) (EP X pins σ Q) X.xe s)
    (ha : PE X a ta) (hb : PE X b tb) : PE X (.BinOp a op b pos) (fun σ => tOp (r σ) ta tb σ) :=
  ⟨fun pins s σ H Q I h => wpAny_BinOp (binT (R := fun x y H2 => r σ x y H2 Q) ha hb I h fun v u s2 x y H2 I2 rx ry q => ho pins s2 σ H2 x y v u Q I2 rx ry q)⟩
theorem back_of {pins : List (Addr × Obj)} {σ : L2.St} {Q : VK} {A : Around} {m : Sem Value} {s : Shared} (h : wpAny (model X.prog X.w) A m (EP X pins σ Q) X.xe s) : wpAny (model X.prog X.w) A m (PySem.W.CmpBack (EP X pins σ Q)) X.xe s := by
  refine wpAny_mono h (fun w s' hw => ?_) fun _ _ e => e
  obtain ⟨z, H', I', rz, q⟩ := hw
  cases w <;> first
    | exact ⟨z, H', I', rz, q⟩
    | (exfalso; cases z <;> first | exact nomatch rz | (obtain ⟨_, e⟩ := rz; exact nomatch e))
def is2 (c : Str) (d1 d2 : D) : Option Unit := (isI c d1).bind fun _ => isI c d2
def mBinO (c : Str) (f : Fnc) (ma mb : M D) : M D := bnd ma fun d1 => bnd mb fun d2 => bnd (opt (is2 c d1 d2)) fun _ => ap0 f [d1, d2]
theorem jv_binO {op : Operator} {mn : Str} (O : OwnM X k c C mn 2 ps f) (hsf : PySem.W.selfFirst X.K C = true) (hp : Pl X j) (tk : L2N.Takes X W) (ha : JV X T W a ma) (hb : JV X T W b mb) (hj : k ≤ j := by decide) (hop : PySem.dunder op.info.2 = mn := by decide) : JV X T W (.BinOp a op b pos) (mBinO c f ma mb) := by
  obtain ⟨fa, fd, h1, h2, h3, h4⟩ := O.ex
  rw [← hop] at h1
  refine PEimp (pe_opW (r := fun σ x y H Q => ∃ a dx fs b dx' gs, x = .ref a ∧ H a = some (.ins C dx fs) ∧ y = .ref b ∧ H b = some (.ins C dx' gs) ∧ spF0 X.K X.mg false 2 f [x, y] H Q (WE W σ)) ?_ ha hb) fun σ H Q ⟨e, F, er, h⟩ => ⟨e, F, er, h.bind.mono fun d1 e1 H1 F1 er1 mv1 g1 x hx => ⟨e1, F1, er1, g1.bind.mono fun d2 e2 H2 F2 er2 mv2 g2 y hy => ?_⟩⟩
  · intro pins s σ H x y v u Q I rx ry ⟨a, dx, fs, b, dx', gs, ex, ea, ey, eb, q⟩
    subst ex ey
    obtain rfl : v = Value.ref a := rx
    obtain rfl : u = Value.ref b := ry
    obtain ⟨mA, J, _⟩ := ins_get I.hok ea
    obtain ⟨od, J, _⟩ := J.look
    obtain ⟨mB, Jb, _⟩ := ins_get I.hok eb
    obtain ⟨odb, Jb, _⟩ := Jb.look
    obtain ⟨m, hF⟩ := I.fr
    have r2 : Vals [V.ref a, V.ref b] [Value.ref a, Value.ref b] := .cons (show RelV (V.ref a) (Value.ref a) from rfl) (.cons (show RelV (V.ref b) (Value.ref b) from rfl) .nil)
    exact PySem.W.binop_K hF I.ok.mod.kin J Jb.type hsf h1 h2 (back_of (run_g (W := W) (dvs := []) (ds := []) h3 (hp.room.mono hj) hp.gu h4 .nil tk I r2 q))
  · have hx := Rp.mono mv2.sub _ _ hx
    obtain ⟨u, hu, fin⟩ := g2.bind.fin er2
    have g3 := fin H2 F2 Al.refl
    unfold is2 at hu
    rw [Option.bind_eq_some_iff] at hu
    obtain ⟨u1, hu1, hu2⟩ := hu
    obtain ⟨a, dx, fs, rfl, ea⟩ := isI_ok O.cl.mg er2.sub hx hu1
    obtain ⟨b, dx', gs, rfl, eb⟩ := isI_ok O.cl.mg er2.sub hy hu2
    exact ⟨a, dx, fs, b, dx', gs, rfl, ea, rfl, eb, ap0_v g3 er2 (by rw [rl_cons]; exact ⟨_, _, rfl, hx, by rw [rl_cons]; exact ⟨_, _, rfl, hy, by rw [rl_nil]⟩⟩) rfl⟩
end
end Sr
namespace Sr
variable [TabL]
open PySem hiding start
open PySem.Spec L2
open PyProof.Rows hiding St
section
variable {X : Cx} {T : Pn} {W : WX} {o e : Expr} {mo ma : M D} {apos cpos : Pos}
def isL : D → Option Unit
  | .lst _ => some ()
  | _ => none
end
end Sr
namespace Sr
variable [TabL]
open PySem hiding start
open PySem.Spec L2
open PyProof.Rows hiding St
def flD : D → Option V
  | .non => some .non
  | .bl b => some (.bl b)
  | .int i => some (.int i)
  | .str x => some (.str x)
  | _ => none
def flDs : List D → Option (List V)
  | [] => some []
  | d :: ds => (flD d).bind fun v => (flDs ds).map fun vs => v :: vs
section
variable {K : PySem.W.Frag} {mg : Str → Option Value} {F : Hp}
theorem flD_ok {d : D} {v w : V} (h : flD d = some v) (r : Rp K mg F d w) : w = v ∧ flatV v = true := by
  cases d <;> simp only [flD, reduceCtorEq, Option.some.injEq] at h
  · rw [rp_non] at r; subst h; exact ⟨r, rfl⟩
  · rw [rp_bl] at r; subst h; exact ⟨r, rfl⟩
  · rw [rp_int] at r; subst h; exact ⟨r, rfl⟩
  · rw [rp_str] at r; subst h; exact ⟨r, rfl⟩
theorem flDs_ok : ∀ {ds : List D} {vs xs : List V}, flDs ds = some vs → RpL K mg F ds xs → xs = vs ∧ vs.all flatV = true
  | [], vs, xs, h, l => by cases h; rw [rl_nil] at l; exact ⟨l, rfl⟩
  | d :: ds, vs, xs, h, l => by
    rw [rl_cons] at l
    obtain ⟨v, ws, rfl, r, l⟩ := l
    simp only [flDs, Option.bind_eq_some_iff, Option.map_eq_some_iff] at h
    obtain ⟨v', h1, vs', h2, rfl⟩ := h
    obtain ⟨rfl, f1⟩ := flD_ok h1 r
    obtain ⟨rfl, f2⟩ := flDs_ok h2 l
    exact ⟨rfl, by rw [List.all_cons, f1, f2]; rfl⟩
end
section
variable {X : Cx} {T : Pn} {W : WX} {o e : Expr} {mo : M Bv} {ma : M D} {apos cpos : Pos}
def rCnt (K : PySem.W.Frag) : V → List V → Hp → VK → Prop := fun x xs H Q => ∃ (a : Addr) (ys : List V) (y : V), x = .ref a ∧ xs = [y] ∧ SqL K H a ys ∧ flatV y = true ∧ ys.all flatV = true ∧ Q (.int ((ys.countP fun z => eqV z y : Nat) : Int)) H
theorem cntF {z : V} : ∀ {ys : List V} {us : List Value}, Vals ys us → ys.all flatV = true → us.countP (eqU z) = ys.countP fun y => eqV y z
  | [], us, r, _ => by cases r; rfl
  | y :: ys, us, r, f => by
    rw [List.all_cons, Bool.and_eq_true] at f
    cases r with
    | @cons a b as bs h t =>
      rw [List.countP_cons, List.countP_cons, cntF t f.2, eqU_of h f.1]
theorem mt_cnt : MtR X "list.count" (rCnt X.K) := by
  intro pins s σ H x xs v us Q I rx rxs h
  obtain ⟨p, ys, z, rfl, rfl, hs, fz, fy, q⟩ := h
  cases rx
  obtain ⟨u, rfl, ru⟩ := rxs.one
  obtain ⟨its, rv, ⟨⟨cls, dd, data, sl⟩, n, ho, hc, hdn, hd⟩, hlen⟩ := I.list hs
  simp only at hc hd
  subst hc hd
  refine call_meets PySem.F.slot_list_count ⟨_, ho, rfl⟩ PySem.F.entry_list_count (PySem.F.args_list_count_2 _ _)
    (SeqAt.list_countAt p its.toArray n dd sl u (eqU z)) ⟨ho, fun y hy => mem_eqAt ru fz rv fy y (by simpa using hy), ?_⟩
  have ec := cntF (z := z) rv fy
  refine ⟨.int ((ys.countP fun y => eqV y z : Nat) : Int), H, I.tok _, ⟨s.toks, ?_⟩, q⟩
  show Value.int ((its.toArray.toList.countP (eqU z) : Nat) : Int) s.toks = _
  rw [List.toList_toArray, ec]
def gCnt : D → D → Option D
  | .lst ds, y => match flDs ds, flD y with
    | some vs, some v => some (.int ((vs.countP fun z => eqV z v : Nat) : Int))
    | _, _ => none
  | _, _ => none
def gIdx : D → D → Option D
  | .lst ds, y => match flDs ds, flD y with
    | some vs, some v => (vs.findIdx? fun z => eqV z v).map fun j => .int ((j : Nat) : Int)
    | _, _ => none
  | _, _ => none
def MlD (X : Cx) (id : String) (g : D → D → Option D) : Prop :=
  ∀ (H F : Hp) (x y : V) (ds : List D) (d2 d : D), Same F H → Rq X.K X.mg H F (.lst ds) x → Rp X.K X.mg F d2 y → g (.lst ds) d2 = some d →
    ∃ r, MtR X id r ∧ ∀ Q : VK, (∀ H' F' z, Al H F H' F' → Rp X.K X.mg F' d z → Q z H') → r x [y] H Q
theorem m_cnt : MlD X "list.count" gCnt := by
  intro H F x y ds d2 d s r1 r2 h
  simp only [gCnt] at h
  cases e1 : flDs ds with
  | none => simp only [e1] at h; cases h
  | some vs =>
    cases e2 : flD d2 with
    | none => simp only [e1, e2] at h; cases h
    | some v =>
      simp only [e1, e2] at h
      cases h
      obtain ⟨a, xs, rfl, q, l⟩ := r1
      obtain ⟨rfl, f1⟩ := flDs_ok e1 l
      obtain ⟨rfl, f2⟩ := flD_ok e2 r2
      exact ⟨_, mt_cnt, fun Q k => ⟨a, _, _, rfl, rfl, SqL.of q, f2, f1, k H F _ Al.refl (by rw [rp_int])⟩⟩
theorem m_idx : MlD X "list.index" gIdx := by
  intro H F x y ds d2 d s r1 r2 h
  simp only [gIdx] at h
  cases e1 : flDs ds with
  | none => simp only [e1] at h; cases h
  | some vs =>
    cases e2 : flD d2 with
    | none => simp only [e1, e2] at h; cases h
    | some v =>
      simp only [e1, e2] at h
      rw [Option.map_eq_some_iff] at h
      obtain ⟨j, h, rfl⟩ := h
      rw [List.findIdx?_eq_some_iff_getElem] at h
      obtain ⟨hj, h1, h2⟩ := h
      obtain ⟨a, xs, rfl, q, l⟩ := r1
      obtain ⟨rfl, f1⟩ := flDs_ok e1 l
      obtain ⟨rfl, f2⟩ := flD_ok e2 r2
      refine ⟨_, mt_index, fun Q k => ⟨a, _, _, j, _, rfl, rfl, SqL.of q, f2, f1, List.getElem?_eq_getElem hj, h1, fun m z' hm hz => ?_, k H F _ Al.refl (by rw [rp_int])⟩⟩
      obtain ⟨hm2, rfl⟩ := List.getElem?_eq_some_iff.mp hz
      have := h2 m hm
      simpa using this
def mMl (g : D → D → Option D) (mo : M Bv) (ma : M D) : M D := bnd mo fun b => bnd (der b) fun d => bnd (opt (isL d)) fun _ => bnd ma fun z => bnd (der b) fun d' => bnd (opt (isL d')) fun _ => opt (g d' z)
theorem isL_of {d : D} {u : Unit} (h : isL d = some u) : ∃ ds, d = .lst ds := by
  cases d <;> first | exact ⟨_, rfl⟩ | cases h
theorem jv_ml {name : Str} {id : String} {g : D → D → Option D} (slot : Slot "list" name id) (hty : typeOf (.builtin id) = pure (.type "method_descriptor")) (hm : MlD X id g) (ho : JB X T W o mo) (ha : JV X T W e ma)
    (hbase : attributeBase o name X.env (eval o X.env) = eval o X.env := by rfl)
    (hfew : ((backTo cpos (starEach [e] X.env)).all (fun x => !x.1) && (backToKw cpos (keywordEach [] X.env)).all (fun x => x.1.isSome)
      && decide ([e].length + ([] : List Keyword).length + (if ([] : List Keyword).isEmpty then 0 else 1) < 30)) = true := by rfl)
    (hline : (apos.endLine == cpos.line) = true := by rfl) (hs : starEach [e] X.env = (false, eval e X.env) :: starEach [] X.env := by rfl) (hplain : (backTo cpos (starEach [] X.env)).any (·.1) = false := by rfl) :
    JV X T W (.Call (.Attribute o name apos) [e] [] cpos) (mMl g mo ma) := by
  have hany : MtR X id (fun x xs H Q => ∃ r, MtR X id r ∧ r x xs H Q) := fun pins s σ H x xs v us Q I rx rxs ⟨r, hr, q⟩ => hr pins s σ H x xs v us Q I rx rxs q
  refine PEimp (pe_bm PySem.F.plainAttrs_list slot hty hany ho (pa_cons ha pa_nil hs) hbase hfew hline hs hplain) fun σ H Q ⟨e, F, er, h⟩ => ⟨e, F, er, h.bind.mono fun b e1 H1 F1 er1 mv1 h1 v hv => ?_⟩
  obtain ⟨d, r1, h2⟩ := der_fin h1.bind er1 hv
  obtain ⟨u, hu, fin⟩ := h2.bind.fin er1
  have h3 := fin H1 F1 Al.refl
  obtain ⟨ds, rfl⟩ := isL_of hu
  obtain ⟨a, xs, rfl, ea, l⟩ := r1
  refine ⟨.inl ⟨rfl, xs, SqL.of ea⟩, e1, F1, er1, h3.bind.mono fun y e2 H2 F2 er2 mv2 h4 w hw => ?_⟩
  obtain ⟨d', r2, h5⟩ := der_fin h4.bind er2 (hv.mono mv2.sub)
  obtain ⟨u', hu', fin'⟩ := h5.bind.fin er2
  have h6 := fin' H2 F2 Al.refl
  obtain ⟨ds', rfl⟩ := isL_of hu'
  obtain ⟨z, hz, fin2⟩ := h6.fin er2
  obtain ⟨r, hr, q⟩ := hm H2 F2 _ w ds' y z er2.sub r2 hw hz
  exact ⟨r, hr, q Q fun H' F' z al hz => fin2 H' F' al z hz⟩
end
end Sr
namespace Sr
variable [TabL]
open PySem hiding start
open PySem.Spec L2
open PyProof.Rows hiding St
def BackR (X : Cx) (r : V → Hp → VK → Prop) : Prop :=
  ∀ (pins : List (Addr × Obj)) (s : Shared) (σ : St) (H : Hp) (x : V) (v : Value) (n : Tok) (sl : Addr) (Q : VK), Inv X pins σ H s → RelV x v → s.heap.get? sl = some { cls := .type "slice", data := .fields #[.none, .none, .int (-1) n] } → r x H Q →
    ∃ T id, typeLookup (.type T) "__getitem__" = pure (some (.builtin id)) ∧ s.TypeIs v T ∧ wpAny (model X.prog X.w) X.A (getItem v (.ref sl)) (EP X pins σ Q) X.xe s
theorem BackR.or {X : Cx} {r r' : V → Hp → VK → Prop} (h : BackR X r) (h' : BackR X r') : BackR X fun x H Q => r x H Q ∨ r' x H Q := by
  intro pins s σ H x v n sl Q I rx hs q
  rcases q with q | q
  · exact h pins s σ H x v n sl Q I rx hs q
  · exact h' pins s σ H x v n sl Q I rx hs q
end Sr
namespace Sr
variable [TabL]
open PySem hiding start
open PySem.Spec L2
open PyProof.Rows hiding St
def vP : V → Option PyData
  | .non => some .none
  | .bl b => some (.bool b)
  | .int i => some (.int i)
  | .str x => some (.str x)
  | _ => none
def kP : Key → PyData
  | .inl i => .int i
  | .inr x => .str x
def vPs : List (Key × V) → Option (List (PyData × PyData))
  | [] => some []
  | (k, v) :: r => (vP v).bind fun p => (vPs r).map fun ps => (kP k, p) :: ps
def dP : D → Option PyData
  | .non => some .none
  | .bl b => some (.bool b)
  | .int i => some (.int i)
  | .str x => some (.str x)
  | _ => none
def dPs : List (Key × D) → Option (List (PyData × PyData))
  | [] => some []
  | (k, v) :: r => (dP v).bind fun p => (dPs r).map fun ps => (kP k, p) :: ps
theorem vP_reads {h : Heap} {v : V} {u : Value} {p : PyData} (e : vP v = some p) (r : RelV v u) : Reads h u p [] := by
  cases v <;> simp only [vP, Option.some.injEq, reduceCtorEq] at e <;> subst e
  · cases r; exact .none
  · cases r; exact .bool _
  · obtain ⟨t, rfl⟩ := r; exact .int _ t
  · obtain ⟨t, rfl⟩ := r; exact .str _ t
theorem kP_reads {h : Heap} {k : Key} {u : Value} (e : keyIs k u = true) : Reads h u (kP k) [] := by
  rcases keyIs_shape e with ⟨i, t, rfl, rfl⟩ | ⟨x, t, rfl, rfl⟩
  · exact .int _ t
  · exact .str _ t
theorem vPs_reads {P : Program} {w : World} {h : Heap} : ∀ {ys : List (Key × V)} {vs : List (Key × Value)} {es : List DictEntry} {ps : List (PyData × PyData)}, vPs ys = some ps → KV ys vs → Pairs (mixKind P w) es vs → ReadsAll h (es.map (·.key)) (ps.map (·.1)) [] ∧ ReadsAll h (es.map (·.val)) (ps.map (·.2)) []
  | [], vs, es, ps, e, r, q => by
    cases e
    cases r
    cases q
    exact ⟨.nil, .nil⟩
  | (k, v) :: ys, vs, es, ps, e, r, q => by
    simp only [vPs, Option.bind_eq_some_iff, Option.map_eq_some_iff] at e
    obtain ⟨p, e1, ps', e2, rfl⟩ := e
    cases r with
    | cons r1 r2 =>
      cases q with
      | cons q1 q2 q3 =>
        rename_i kv _ en _
        obtain ⟨h1, h2⟩ := vPs_reads (h := h) e2 r2 q3
        obtain ⟨a, b⟩ := r1
        have a : k = kv.1 := a
        have b : RelV v kv.2 := b
        have k1 : Reads h en.key (kP k) [] := kP_reads (by rw [a]; exact q1)
        have k2 : Reads h en.val p [] := vP_reads e1 (by rw [q2]; exact b)
        exact ⟨.cons (as := []) (bs := []) k1 h1, .cons (as := []) (bs := []) k2 h2⟩
section
variable {X : Cx}
theorem call_reprK (hgu : X.A.guards = some []) (hu : X.A.units + 100 < cLine) : CallR X (.builtin "repr") (fun xs H Q => ∃ (a : Addr) (ys : List (Key × V)) (ps : List (PyData × PyData)), xs = [.ref a] ∧ Rd H a (.dK ys) ∧ vPs ys = some ps ∧ (PyData.dict ps).showable = true ∧ (PyData.dict ps).depth ≤ 64 ∧ (PyData.dict ps).shown.length ≤ sizeLine ∧ Q (.str (PyData.dict ps).shown) H) := by
  intro pins s σ H xs us Q I r h
  obtain ⟨a, ys, ps, rfl, hH, hp, h1, h2, h3, hq⟩ := h
  obtain ⟨u, rfl, ru⟩ := vals1 r
  obtain rfl : u = Value.ref a := ru
  obtain ⟨_, hs, vs, kv, o, es, ep, g1, g2, g3, _, g4, _⟩ := dk_rd I.hok hH
  obtain ⟨r1, r2⟩ := vPs_reads (h := s.heap) hp kv g4
  have rd : Reads s.heap (.ref a) (.dict ps) (a :: [] ++ []) := .dict g1 g2.1 g3 r1 r2
  exact repr_of_reads' rd h1 (fun _ q => by
    have : sysModules = a := by simpa using q
    rw [this] at hs
    simp at hs) hgu (by omega) (fun _ _ e => e) (fun h' u tk hk => ⟨.str _, H, I.kept hk, ⟨_, rfl⟩, hq⟩) h3
theorem dPs_vPs {K : PySem.W.Frag} {mg : Str → Option Value} {F : Hp} : ∀ {kvs : List (Key × D)} {ys : List (Key × V)} {ps : List (PyData × PyData)}, dPs kvs = some ps → RpK K mg F kvs ys → vPs ys = some ps
  | [], ys, ps, e, r => by unfold RpK at r; subst r; exact e
  | (k, d) :: kvs, ys, ps, e, r => by
    unfold RpK at r
    obtain ⟨v, vs, rfl, r1, r2⟩ := r
    simp only [dPs, Option.bind_eq_some_iff, Option.map_eq_some_iff] at e
    obtain ⟨p, e1, ps', e2, rfl⟩ := e
    have := dPs_vPs e2 r2
    have hv : vP v = some p := by
      cases d <;> simp only [dP, Option.some.injEq, reduceCtorEq] at e1 <;> subst e1
      · rw [rp_non] at r1; subst r1; rfl
      · rw [rp_bl] at r1; subst r1; rfl
      · rw [rp_int] at r1; subst r1; rfl
      · rw [rp_str] at r1; subst r1; rfl
    simp only [vPs, hv, this, Option.bind_some, Option.map_some]
def gReprK : D → Option D
  | .dk kvs => match dPs kvs with
    | some ps => if ((PyData.dict ps).showable && decide ((PyData.dict ps).depth ≤ 64) && decide ((PyData.dict ps).shown.length ≤ sizeLine)) = true then some (.str (PyData.dict ps).shown) else none
    | none => none
  | _ => none
theorem c_reprK (hgu : X.A.guards = some []) (hu : X.A.units + 100 < cLine) : Cal1 X (.builtin "repr") gReprK := by
  intro H F x d d' s r e
  unfold gReprK at e
  split at e
  · split at e
    · rename_i ps hp
      split at e
      · rename_i hh
        cases e
        simp only [Bool.and_eq_true, decide_eq_true_eq] at hh
        obtain ⟨a, ys, rfl, hH, rk⟩ := r
        exact ⟨_, call_reprK hgu hu, fun Q q => ⟨a, ys, ps, rfl, hH, dPs_vPs hp rk, hh.1.1, hh.1.2, hh.2, q H F _ Al.refl (by rw [rp_str])⟩⟩
      · cases e
    · cases e
  · cases e
def gReprI : D → Option D
  | .int i => if i.natAbs.log2 < 1920 then some (.str (toString i)) else none
  | _ => none
theorem call_reprI : CallR X (.builtin "repr") (fun xs H Q => ∃ i : Int, xs = [.int i] ∧ i.natAbs.log2 < 1920 ∧ Q (.str (toString i)) H) := by
  intro pins s σ H xs us Q I r h
  obtain ⟨i, rfl, hz, q⟩ := h
  obtain ⟨u, rfl, rx⟩ := vals1 r
  obtain ⟨t, rfl⟩ := rx
  exact PySem.P.repr_of_int hz ⟨.str _, H, I.kept (t' := s.toks + 1) fun b o e => e, ⟨_, rfl⟩, q⟩
theorem c_reprI : Cal1 X (.builtin "repr") gReprI := by
  intro H F x d d' s r e
  unfold gReprI at e
  split at e
  · split at e
    · rename_i hz
      cases e
      exact ⟨_, call_reprI, fun Q q => ⟨_, by rw [show x = .int _ from r], hz, q H F _ Al.refl (by rw [rp_str])⟩⟩
    · cases e
  · cases e
def gReprB : D → Option D := fun d => (gReprA d).or ((gReprK d).or (gReprI d))
theorem c_reprB (hgu : X.A.guards = some []) (hu : X.A.units + 100 < cLine) : Cal1 X (.builtin "repr") gReprB := (c_reprA hgu hu).or ((c_reprK hgu hu).or c_reprI)
end
end Sr
namespace Sr
variable [TabL]
open PySem hiding start
open PySem.Spec L2
open PyProof.Rows hiding St
open LamX (LamS lamEnv lamCx CodeO ExtN Tabs TabS TabB lam_make2 lam_start2)
def lamN (X : Cx) (A : Around) (outer : List Env) (s : Shared) (H : Hp) (E : XK) (scope : Scope) (f c' : Addr) : Cx :=
  { lamCx X A outer s H E scope f c' with
    xe := fun e s' => wpAny (model X.prog X.w) (A.deeper (lamEnv X scope s.heap.objs.size f c')) (leaving (lamEnv X scope s.heap.objs.size f c') e) (fun _ s'' => L2N.CX X.prog X.w outer H s E e s'') (fun e' s'' => L2N.CX X.prog X.w outer H s E e' s'') s' }
theorem inv_nxe {X : Cx} {pins : List (Addr × Obj)} {σ : St} {H : Hp} {s : Shared} (I : Inv X pins σ H s) (xe' : Value → Shared → Prop) : Inv { X with xe := xe' } pins σ H s :=
  ⟨⟨I.ok.mod, I.ok.kind, I.ok.glob, I.ok.blt, I.ok.above, I.ok.inj, I.ok.has, I.ok.cab, I.ok.hd, I.ok.frames, I.ok.stk, I.ok.exf, I.ok.bs, I.ok.bsz, I.ok.noex, I.ok.exfs, I.ok.funs, I.ok.frf⟩,
    I.os, I.bare, I.base, I.loc, I.cell, I.free, I.freeC, I.pin, I.hok, I.len⟩
section
variable {X : Cx} {A : Around} {outer : List Env} {s : Shared} {H : Hp} {E : XK} {scope : Scope} {f c' : Addr}
theorem takes_lam : L2N.Takes (lamN X A outer s H E scope f c') (WE0 E) := L2N.takes_of (X := lamN X A outer s H E scope f c') rfl rfl rfl rfl
end
section
variable {X : Cx} {pins : List (Addr × Obj)} {σ : L2.St} {H : Hp} {s : Shared}
theorem pe_actN {Eg : XK} {Ng : List Str} {qg : Str} {sg : Scope} {g f c' : Addr} {cdg pm ctv : Value} {params : Arguments} {body : Expr} {scope : Scope} {k i : Nat} {a : Str} {pn : List (Addr × Obj)} {xe : Value → Shared → Prop} {W : WX} {E : XK} {tb : TE} {p1 p2 : Pos}
    (I : Inv X pins σ H s) (L : LamS X.env.scope scope) (hf : s.heap.get? f = some (PySem.W.kla_obj "<lambda>" (X.env.qual ++ "<lambda>") params body scope (cloFrom X.env.cells scope.names []) pm c' ctv)) (hfn : H f = none) (hfr : f ∉ frs X.stack)
    (hbind : bindArgs (PySem.W.kla_fn "<lambda>" (X.env.qual ++ "<lambda>") params body scope (cloFrom X.env.cells scope.names []) pm (.ref c') ctv) ⟨[], []⟩ = pure [])
    (tk : L2N.Takes ((cxOf (L2N.CX X.prog X.w) X.prog X.w X.K X.mg X.base Ng qg sg g cdg X.A X.stack s H Eg).tr pn xe) W) (hW : ∀ cls d σ' H', σ'.length = Ng.length → E cls d H' → W cls d σ' H') (hr : Room (k + 1) (X.A.deeper (envOfC qg sg s.heap.objs.size g cdg)))
    (hbody : ∀ (A : Around) (outer : List Env) (s : Shared) (H : Hp), Room k (A.deeper (lamEnv X scope s.heap.objs.size f c')) → A.guards = X.A.guards → PE (lamN X A outer s H E scope f c') body tb)
    (hN : Ng[i]? = some a) (hv : Vis sg a) (hd : (a == ("__debug__" : Str)) = false := by decide) (hcd : (a == ("__classdict__" : Str)) = false := by decide) :
    PE ((cxOf (L2N.CX X.prog X.w) X.prog X.w X.K X.mg X.base Ng qg sg g cdg X.A X.stack s H Eg).tr pn xe) (.Call (.Name a p1) [] [] p2)
      (fun σZ HZ Q => σZ[i]? = some (some (.ref f)) ∧ HZ c' = some (CodeO c' (X.env.qual ++ "<lambda>")) ∧ tb σ HZ Q) := by
  refine ⟨fun pinsZ sZ σZ HZ Q IZ h => ?_⟩
  obtain ⟨hs, hc, ht⟩ := h
  refine wpAny_Call_Name_kw (thn ((pe_var (pos := p1) (i := i) hN hv hd hcd).run pinsZ sZ σZ HZ (fun v H1 => v = .ref f ∧ H1 = HZ) IZ ⟨.ref f, hs, rfl, rfl⟩) fun u s1 ⟨v, H1, I1, r1, q1⟩ => ?_)
  obtain ⟨ev, eH⟩ := q1
  subst ev
  rw [eH] at I1
  obtain rfl : u = Value.ref f := r1
  have of1 : s1.heap.get? f = some (PySem.W.kla_obj "<lambda>" (X.env.qual ++ "<lambda>") params body scope (cloFrom X.env.cells scope.names []) pm c' ctv) := I1.base.keep f _ hf hfn hfr (fun z => nomatch (show f ∈ ([] : List Addr) from z))
  refine PySem.W.callWith_F0 ⟨_, _, _, _, of1⟩ ?_
  have un : Un (frs X.stack) [] H HZ s.heap s1.heap := I1.base
  obtain ⟨⟨oc, vs, t, hoc, hdc, hvc⟩, _, _⟩ := I1.hok c' _ hc
  have rc : codeAny (model X.prog X.w) (X.A.deeper (envOfC qg sg s.heap.objs.size g cdg)) (.call (.ref f) ⟨[], []⟩) (CR (L2N.CX X.prog X.w) (envOfC qg sg s.heap.objs.size g cdg :: X.stack) X.prog X.w HZ s1 Q E) s1 := by
    refine PySem.W.kla_callFunE hr.depth of1 rfl L.co L.gen rfl ⟨c', oc, vs, t, rfl, hoc, hdc, hvc⟩ ?_
    rw [hbind]
    refine wpAny_pure (wpAny_newFunctionEnv (fun y hy => (L.own y hy).2) (fun y hy => absurd hy (by simp)) (fun h₁ hns hsb => ⟨I1.nolimit.fresh _ hsb, ?_⟩) L.kind)
    show codeAny _ _ (.expr body (lamEnv X scope s1.heap.objs.size f c')) _ _
    have kp : ∀ b o, s1.heap.get? b = some o → h₁.get? b = some o := fun b o e => hsb.extBut b o (Nat.ne_of_lt (Heap.lt_size e)) (Heap.get?_push_of_some _ e)
    have J := inv_nxe (lam_start2 (E := E) (scope := scope) (f := f) (c' := c') (h₁ := h₁) (tk := s1.toks + ([] : List (Str × Value)).length) I L I1.env0 hr.hd un hns kp)
      (fun e s' => wpAny (model X.prog X.w) ((X.A.deeper (envOfC qg sg s.heap.objs.size g cdg)).deeper (lamEnv X scope s1.heap.objs.size f c')) (leaving (lamEnv X scope s1.heap.objs.size f c') e)
        (fun _ s'' => L2N.CX X.prog X.w (envOfC qg sg s.heap.objs.size g cdg :: X.stack) HZ s1 E e s'') (fun e' s'' => L2N.CX X.prog X.w (envOfC qg sg s.heap.objs.size g cdg :: X.stack) HZ s1 E e' s'') s')
    refine PySem.W.kla_codeExpr (wpAny_mono ((hbody _ _ s1 HZ (hr.deeper _) rfl).run [] _ _ HZ Q J ht) (fun v s' hq => ?_) fun e s' hq => hq)
    obtain ⟨w', H', J', rv, q⟩ := hq
    exact ⟨w', H', J'.os, J'.bare, J'.base, J'.hok, rv, q⟩
  refine wpAny_call (codeAny_mono rc fun r s' hq => ?_)
  cases r with
  | error e => exact tk e s' (L2N.XE.of_call I1 (fun cls d H' h => hW cls d σZ H' I1.len h) hq)
  | ok fl =>
    cases fl with
    | ret u => exact I1.after hq
    | next => exact False.elim hq
    | brk => exact False.elim hq
    | cont => exact False.elim hq
end
open L2H (RoomH HotC Hot1 PinOk PIH cxH inv_startH)
structure FnE (P : Program) (w : World) (K : PySem.W.Frag) (mg : Str → Option Value) (base : Heap) (k : Nat) (f : Addr) (fd : FuncData) (ps : List Str) (g : Ex → Option D) : Prop where
  run : ∀ (A : Around) (outer : List Env) (s : Shared) (H F : Hp) (args : Args) (Q : VK) (E : XK) (p : Addr × Obj) (ex : Ex) (cls : Value) (d : Option Addr) (r : D), RoomH k A → Hot1 A p → PinOk outer H s p → Env0 P w K mg base A outer s H → BindsTo s fd args (ps.zip [.ref p.1]) →
    L2N.Zn cls d p.2 → mg ex.c = some cls → XaOk K mg F d ex → Same F H → TbOk H F → g ex = some r → (∀ H' F', Fr none H F H' F' → ∀ v, Rp K mg F' r v → Q v H') →
    codeAny (model P w) A (.call (.ref f) args) (CR (L2N.CX P w) outer P w H s Q E) s
def stE (nl : Nat) : En := List.replicate nl Sl.no
def mkE (nl : Nat) (su : Ex → M Fl) (ex : Ex) : Option D := match fin0 false (su ex (stE nl)) with
  | .ok d _ => some d
  | _ => none
theorem stE_get {nl i : Nat} {sl : Sl} (h : (stE nl)[i]? = some sl) : sl = .no := by
  unfold stE at h
  rw [List.getElem?_replicate] at h
  split at h
  · cases h; rfl
  · cases h
theorem ER.startE {K : PySem.W.Frag} {mg : Str → Option Value} {N : List Str} {H F : Hp} {a : Addr} {pa : Pa} (s : Same F H) (tb : TbOk H F) (hN : 1 ≤ N.length) (hpa : PnOk K mg (start N [.ref a]) F (0, pa)) : ER K mg [(0, pa)] (stE N.length) (start N [.ref a]) H F := by
  refine ⟨s, fun i d h => ?_, fun i d h => ?_, fun i j p d d' h => ?_, ?_, fun q h => ?_, tb⟩
  · cases stE_get h
  · cases stE_get h
  · cases stE_get h
  · unfold stE start
    simp only [List.length_append, List.length_map, List.length_replicate, List.length_cons, List.length_nil]
    omega
  · rw [List.mem_singleton] at h; subst h; exact hpa
theorem no_owE {nl : Nat} {σ : St} {a : Addr} : ¬ Ow (stE nl) σ a := by
  rintro ⟨i, d, h, _⟩
  cases stE_get h
theorem Mv.frE {K : PySem.W.Frag} {mg : Str → Option Value} {T : Pn} {nl : Nat} {e' : En} {σ σ' : St} {H F H' F' : Hp} (er : ER K mg T e' σ' H' F') (mv : Mv (stE nl) σ H F e' σ' H' F') : Fr none H F H' F' :=
  ⟨mv.sub, er.sub, fun a o h z _ => (mv.keep a o h no_owE).1 z, fun a o h => by
    rcases mv.new a o h with h | h | h
    · exact .inl h
    · exact .inr h
    · exact (no_owE h).elim, mv.there, er.tb⟩
section
variable {P : Program} {w : World} {K : PySem.W.Frag} {mg : Str → Option Value} {base : Heap} {x qual : Str} {params : Arguments} {body : List Stmt} {scope : Scope} {dvs : List V} {kws : List (Str × V)} {f : Addr} {fd : FuncData}
theorem fnE_of {N : List Str} {y : Str} {k nl : Nat} {su : Ex → M Fl} (hnl : N.length = nl) (hN : 1 ≤ N.length) (G : FunD K x qual params body scope dvs kws f fd) (S : FnScope N [y] scope)
    (hb : ∀ (cdv : Value) (A : Around) (outer : List Env) (s0 : Shared) (H : Hp) (E : XK) (p : Addr × Obj) (pa : Pa) (ex : Ex) (cls : Value) (d : Option Addr), Hot1 A p → RoomH k (A.deeper (envOfC qual scope s0.heap.objs.size f cdv)) → L2N.Zn cls d p.2 → (∃ vs, p.2.data = .fields vs) → mg ex.c = some cls → PaX pa p.1 d ex →
      JSs (cxH (L2N.CX P w) P w K mg base N qual scope f cdv A outer s0 H E p) [(0, pa)] (WE0 E) body (su ex)) :
    FnE P w K mg base (k + 1) f fd [y] (mkE nl su) := by
  subst hnl
  obtain ⟨oc, od, dV, kV, doc, pm, an, cdv, ct, osl, rfl, lk, hcd, _, _⟩ := G.ex
  refine ⟨fun A outer s H F args Q E p ex cls d r hr hot hpin e0 hbd hz hm hd0 sub tb hg hq => ?_⟩
  have KX : K.In s.heap := e0.mod.kin.keeps fun b o e => (e0.bs b o e).1
  have lim : s.heap.NoLimit := e0.mod.nolimit.keeps fun b o e => (e0.bs b o e).1
  have hkind : ∀ z ∈ [y].zip [Value.ref p.1], scope.names.lookup z.1 = some .local ∨ (scope.names.lookup z.1 = some .cell ∧ ((cellsFrom (s.heap.objs.size + 1) scope.names []).lookup z.1).isSome = true) := fun ⟨n, v⟩ hy => by
    rcases S.par n (List.of_mem_zip hy).1 with q | q
    · exact .inl q
    · exact .inr ⟨q, PySem.W.cellsFrom_some _ _ _ (.inl q)⟩
  refine codeAny_call_function hr.depth (KX _ _ lk) rfl S.co S.gen rfl (PySem.W.codeRec_of KX hcd) (hbd _ _ _ _ ?_)
  refine wpAny_newFunctionEnv_cells S.kind hkind fun env he s1 x => ?_
  subst he
  refine ⟨lim.keeps x.toInCall.keep, codeAny_func ?_⟩
  have hfs : ∃ vs, p.2.data = .fields vs := by obtain ⟨_, vs, q, _⟩ := hot; exact ⟨vs, q⟩
  obtain ⟨pa, hpa, hok⟩ := hd0.pa p.1
  have ht := hb cdv A outer s H E p pa ex cls d hot (hr.deeper _) hz hfs hm hpa
  have I : Inv (cxH (L2N.CX P w) P w K mg base N qual scope f cdv A outer s H E p) [] (L2.start N [.ref p.1]) H s1 := inv_startH S hpin e0 rfl (.cons rfl .nil) x
  have hq0 : TSt K mg [(0, pa)] (WE0 E) (su ex) { nx := fun _ H' => Q .non H', rt := QG Q } (L2.start N [.ref p.1]) H := by
    refine ⟨stE N.length, F, ER.startE sub tb hN ⟨by rw [hpa.1]; rfl, hok⟩, ?_⟩
    unfold mkE at hg
    unfold RunS
    cases q : su ex (stE N.length) with
    | ok fl e1 =>
      rw [q] at hg
      cases fl with
      | nx =>
        cases hg
        exact fun σ' H' F' er mv => hq H' F' (mv.frE er) _ (by rw [rp_non])
      | rt d => 
        cases hg
        exact fun σ' H' F' v er mv rv => .inl (hq H' F' (mv.frE er) v rv)
      | ro d =>
        cases hg
        intro σ' H' F' p' er mv hp fp np ow
        exact res_o (ro := false) (C := fun _ _ => True) (fun H' F' fr _ v rv => hq H' F' fr v rv) (fun _ _ _ _ _ => trivial) trivial (mv.frE er) (hp.elim id fun z => (no_owE z).elim) fp ow
      | bk => cases hg
      | ct => cases hg
    | exc x e1 => rw [q] at hg; cases hg
    | bad => rw [q] at hg; cases hg
  refine wpAny_mono ((pss_ghost ht).run [] s1 (L2.start N [.ref p.1]) H { nx := fun _ H' => Q .non H', rt := Q } I hq0) (fun fl s' hs => ?_) fun e s' hs => hs
  have fin : ∀ {σ' : L2.St} {H' : Hp} {v : V} {u : Value}, Inv (cxH (L2N.CX P w) P w K mg base N qual scope f cdv A outer s H E p) [] σ' H' s' → RelV v u → Q v H' → CE outer P w H s Q u s' :=
    fun {σ' H' v u} J rv q => ⟨v, H', J.os, J.bare, J.base, J.hok, rv, q⟩
  cases fl with
  | ret u =>
    obtain ⟨v, σ', H', J, rv, q⟩ := hs
    exact fin J rv q
  | next =>
    obtain ⟨σ', H', J, q⟩ := hs
    exact fin (v := V.non) (u := Value.none) J rfl q
  | brk =>
    obtain ⟨_, _, _, q⟩ := hs
    exact False.elim q
  | cont =>
    obtain ⟨_, _, _, q⟩ := hs
    exact False.elim q
end
abbrev FnEC (P : Program) (w : World) (K : PySem.W.Frag) (mg : Str → Option Value) (base : Heap) (k : Nat) (x : Str) (ps : List Str) (g : Ex → Option D) : Prop :=
  ∃ f fd, FnE P w K mg base k f fd ps g ∧ mg x = some (.ref f) ∧ PySem.W.keepIn K (.ref f) = true ∧ Binds K fd ps []
def tKind (K : PySem.W.Frag) (mg : Str → Option Value) (g : Ex → Option D) (a : Addr) (cls : Value) (d : Option Addr) : TE := fun σ H Q =>
  ∃ (ex : Ex) (F : Hp) (r : D), mg ex.c = some cls ∧ XaOk K mg F d ex ∧ Same F H ∧ TbOk H F ∧ g ex = some r ∧ σ[1]? = some (some (.ref a)) ∧ ∀ H' F', Fr none H F H' F' → ∀ v, Rp K mg F' r v → Q v H'
section
variable {X : Cx} {a : Addr} {oe : Obj} {cls : Value} {d : Option Addr} {pn : List (Addr × Obj)} {g : Ex → Option D} {x y n : Str} {k j : Nat} {p p1 pos : Pos}
theorem pe_kind (G : FnEC X.prog X.w X.K X.mg X.base k x [y] g) (hr : RoomH j X.A) (hz : L2N.Zn cls d oe) (hfs : ∃ vs, oe.data = .fields vs) (hg : Gl X x) (hN : X.N[1]? = some n) (hv : Vis X.env.scope n) (hk : k ≤ j := by decide)
    (hdb : (x == ("__debug__" : Str)) = false := by decide) (hdn : (n == ("__debug__" : Str)) = false := by decide) (hcd : (n == ("__classdict__" : Str)) = false := by decide)
    (he : starEach [.Name n p1] X.env = (false, eval (.Name n p1) X.env) :: starEach [] X.env := by rfl) (hpl : (backTo pos (starEach [] X.env)).any (·.1) = false := by rfl) :
    PE (X.suite a ((a, oe) :: pn)) (.Call (.Name x p) [.Name n p1] [] pos) (tKind X.K X.mg g a cls d) := by
  obtain ⟨fa, fd, FO, hm, hkp, hb⟩ := G
  refine ⟨fun pins s σ H Q I ⟨ex, F, r, m1, m2, sub, tb, hgr, hs, hq⟩ => ?_⟩
  refine wpAny_Call_Name_kw (ld_glob I hg hm ?_ hdb)
  have hpa : PA (X.suite a ((a, oe) :: pn)) [.Name n p1] (tCons (tVar 1) tNil) := pa_cons (pe_var (X := X.suite a ((a, oe) :: pn)) hN hv hdn hcd) pa_nil he
  refine PySem.W.callWith_K (h₀ := X.base) I.ok.mod.kin hkp (thn (hpa.run pos pins s σ H (fun vs H1 => vs = [.ref a] ∧ H1 = H) I ⟨_, hs, rfl, rfl⟩) fun us s1 ⟨vs, H1, I1, r1, e1, e2⟩ => ⟨I1.kIn, ?_⟩) he hpl
  subst e1 e2
  obtain ⟨u, rfl, ru⟩ := r1.one
  obtain rfl : u = Value.ref a := ru
  obtain ⟨vs, hd⟩ := hfs
  have hot : Hot1 (X.suite a ((a, oe) :: pn)).A (a, oe) := ⟨rfl, vs, hd, hz.2.2 vs hd⟩
  have P1 := I1.pin (a, oe) (List.mem_append_left _ List.mem_cons_self)
  have hpin : PinOk (X.suite a ((a, oe) :: pn)).stack H1 s1 (a, oe) := ⟨P1.1, P1.2.1, fun hm => (List.mem_cons.mp (I1.stkSub a hm)).elim P1.2.2.1 P1.2.2.2.1, P1.2.2.2.2⟩
  have b := hb s1 [.ref a] I1.kIn rfl
  rw [List.append_nil] at b
  refine wpAny_call (codeAny_mono (FO.run (X.suite a ((a, oe) :: pn)).A _ s1 H1 F ⟨[.ref a], []⟩ Q (fun _ _ _ => False) (a, oe) ex cls d r ⟨(hr.mono hk).dp, (hr.mono hk).un⟩ hot hpin I1.env0 b hz m1 m2 sub tb hgr hq) fun rr s' h => ?_)
  cases rr with
  | error e => obtain ⟨_, _, _, _, _, _, _, _, _, _, _, _, z⟩ := h; exact z.elim
  | ok fl =>
    cases fl with
    | ret u => exact I1.after h
    | next => exact False.elim h
    | brk => exact False.elim h
    | cont => exact False.elim h
end
end Sr
namespace Sr
variable [TabL]
open PySem hiding start
open PySem.Spec L2
open PyProof.Rows hiding St
open LamX (LamS lamEnv lamCx CodeO ExtN Tabs TabS TabB lam_make2 lam_start2)
open L2H (RoomH HotC Hot1 PinOk cxH)
section
variable {X : Cx} {T : Pn} {W : WX} {pos : Pos}
theorem jv_isEH {oe : Addr × Obj} {pa : Pa} {cls : Value} {d : Option Addr} {ex : Ex} {i : Nat} {n y : Str} {p p1 p2 : Pos} {cv : Value} {c : V} {tbl : List (Str × Bool)} {ty : TE} (hi : IsE X.K X.mg cv tbl) (hz : L2N.Zn cls d oe.2) (hfs : ∃ vs, oe.2.data = .fields vs) (hpn : oe ∈ X.pn) (hm : X.mg ex.c = some cls) (hd0 : PaX pa oe.1 d ex)
    (hcv : ∀ u, RelV c u → u = cv) (hy : PE X (.Name y p2) ty) (hty : ∀ σ H Q, Q c H → ty σ H Q)
    (hg : Gl X "isinstance") (hmi : X.mg "isinstance" = none) (hN : X.N[i]? = some n) (hv : Vis X.env.scope n) (hdn : (n == ("__debug__" : Str)) = false := by decide) (hcd : (n == ("__classdict__" : Str)) = false := by decide)
    (he : starEach [.Name n p1, .Name y p2] X.env = (false, eval (.Name n p1) X.env) :: starEach [.Name y p2] X.env := by rfl) (he2 : starEach [.Name y p2] X.env = (false, eval (.Name y p2) X.env) :: starEach [] X.env := by rfl) :
    JV X ((i, pa) :: T) W (.Call (.Name "isinstance" p) [.Name n p1, .Name y p2] [] pos) (mIsE tbl ex) :=
  jv_isX (a := oe.1) (oe := oe.2) hi hz hfs hpn hm hd0 hcv hy hty hg hmi hN hv hdn hcd he he2
end
structure LamOk (K : PySem.W.Frag) (mg : Str → Option Value) (base : Heap) (f : Addr) (q : Str) : Prop where
  tb : TabB base mg (cTz K f).1 (cTz K f).2
  mem : ((cTz K f).2, q) ∈ TabL.l
  one : ∀ p ∈ TabL.l, p.1 = (cTz K f).2 → p.2 = q
theorem ER.lam {K : PySem.W.Frag} {mg : Str → Option Value} {T : Pn} {e : En} {σ : St} {H F H1 : Hp} (er : ER K mg T e σ H F) (eN : ExtN H H1) (t : Tabs TabL.l H1) (all : ∀ a ps, H1 a = some (.tbl ps) → ∃ q ∈ TabL.l, q.1 = a) : ER K mg T e σ H1 F ∧ Mv e σ H F e σ H1 F := by
  refine ⟨⟨fun b o h => eN b o (er.sub b o h) (er.tb.nt b o h), er.val, fun i d h => ?_, er.inj, er.len, er.pin, ⟨t, er.tb.nt, all⟩⟩, Same.refl _, fun a o h n => ⟨fun z => eN a o h z, n⟩, fun a o h => .inl h, fun a h => ?_⟩
  · obtain ⟨p, h1, h2, h3⟩ := er.own i d h
    exact ⟨p, h1, h2, h3.keep (Same.refl _) fun o ho => eN p o ho (h3.nt ho)⟩
  · cases q : H a with
    | none => rfl
    | some o =>
      by_cases z : NTb o
      · rw [eN a o q z] at h; cases h
      · have : ∃ ps, o = .tbl ps := by
          refine Classical.byContradiction fun hn => z fun ps e => hn ⟨ps, e⟩
        obtain ⟨ps, rfl⟩ := this
        obtain ⟨r, hr, rfl⟩ := er.tb.all a ps q
        obtain ⟨ps', h1, _⟩ := t r hr
        rw [h1] at h; cases h
section
variable {X : Cx} {pins : List (Addr × Obj)} {σ : L2.St} {H : Hp} {s : Shared}
theorem lam_makeN {TL : List (Addr × Str)} {c P : Addr} {params : Arguments} {body : Expr} {scope : Scope} {pos : Pos} {E : Value → Shared → Prop} {Q : Value → Shared → Prop} (I : Inv X pins σ H s) (TB : TabB X.base X.mg c P) (hcode : X.env.code = .ref c)
    (hm : (P, X.env.qual ++ "<lambda>") ∈ TL) (hu : ∀ p ∈ TL, p.1 = P → p.2 = X.env.qual ++ "<lambda>") (hT : Tabs TL H) (hdef : defaultsOf params X.env = ([], [])) (hfree : ∀ y ∈ scope.names, y.2 = .free → ∃ c, X.env.cells.lookup y.1 = some c)
    (h : ∀ (f c' : Addr) (pm ctv : Value) (H1 : Hp) (s' : Shared), Inv X pins σ H1 s' → ExtN H H1 → Tabs TL H1 → (∀ a ps, H1 a = some (.tbl ps) → ∃ ps', H a = some (.tbl ps')) →
      s'.heap.get? f = some (PySem.W.kla_obj "<lambda>" (X.env.qual ++ "<lambda>") params body scope (cloFrom X.env.cells scope.names []) pm c' ctv) → H1 f = none → f ∉ frs X.stack → H1 c' = some (CodeO c' (X.env.qual ++ "<lambda>")) → Q (.ref f) s') :
    wpAny (model X.prog X.w) X.A (eval (.Lambda params body scope pos) X.env) Q E s := by
  obtain ⟨ps, hP, ht, ha⟩ := hT _ hm
  refine PySem.W.kla_eval hdef ?_
  have bP : s.heap.BuiltinsAt X.mg P := TB.bm.keeps I.bk
  have hP' : s.heap.get? P = some { cls := .none, data := .fields ps } := I.hok P _ hP
  have nofr : ∀ f, s.heap.objs.size ≤ f → f ∉ frs X.stack := fun f hf z => by
    rcases List.mem_cons.mp (I.stkSub _ z) with e | e
    · have h1 := I.lt
      rw [← e] at h1
      exact Nat.lt_irrefl _ (Nat.lt_of_lt_of_le h1 hf)
    · exact I.nofs hf e
  cases hc : codeAmong pos ps.toList with
  | none =>
    refine PySem.W.kla_makeFunction (mg := X.mg) (c := c) (P := P) (ps := ps) (closure_ok hfree) I.ok.glob (I.mod.glob.keeps I.bk) hcode (TB.code.keeps I.bk) hP' ht hc TB.gP bP fun c' ctv h' tk hx hge hlt hrec htb => ?_
    obtain ⟨c2, oc, vs, t, e2, hoc, hd, hv⟩ := hrec
    cases e2
    have hsz : s.heap.objs.size ≤ h'.objs.size := Nat.le_trans hge (Nat.le_of_lt hlt)
    have nC : H c' = none := I.hok.fresh hge
    have I1 := LamX.inv_table (q := X.env.qual ++ "<lambda>") (t' := tk) (more := #[rawInt pos.line, rawInt pos.col, .ref c']) (h' := h'.push (PySem.W.kla_obj "<lambda>" (X.env.qual ++ "<lambda>") params body scope (cloFrom X.env.cells scope.names []) ((X.mg "__name__").getD .none) c' ctv)) I hP
      (fun b o hb e => Heap.get?_push_of_some _ (hx b o hb e)) (Heap.get?_push_of_some _ htb) hge ⟨oc, vs, t, Heap.get?_push_of_some _ hoc, hd, hv⟩
    have at_ : ∀ b, b ≠ P → b ≠ c' → upd (upd H P (.tbl (ps ++ #[rawInt pos.line, rawInt pos.col, .ref c']))) c' (CodeO c' (X.env.qual ++ "<lambda>")) b = H b := fun b h1 h2 => by rw [upd_ne h2, upd_ne h1]
    have nPc : P ≠ c' := ne_of_none hP nC
    have hE : ExtN H (upd (upd H P (.tbl (ps ++ #[rawInt pos.line, rawInt pos.col, .ref c']))) c' (CodeO c' (X.env.qual ++ "<lambda>"))) := fun b o e n => by
      rw [at_ b (fun z => n ps (Option.some.inj (e.symm.trans (by rw [z]; exact hP)))) (ne_of_none e nC)]
      exact e
    have eL : (ps ++ #[rawInt pos.line, rawInt pos.col, .ref c']).toList = ps.toList ++ [rawInt pos.line, rawInt pos.col, .ref c'] := by simp
    refine h h'.objs.size c' ((X.mg "__name__").getD .none) ctv _ _ I1 hE (fun p hp => ?_) (fun b qs e => ?_) (Heap.get?_push_size _ rfl) ?_ (nofr _ hsz) upd_same
    · by_cases hb : p.1 = P
      · rw [hu p hp hb, hb]
        refine ⟨_, by rw [upd_ne nPc, upd_same], by rw [eL]; exact PySem.TriplesOk_snoc _ _ _ _ ht, fun p' cv hcv => ?_⟩
        rw [eL] at hcv
        rcases LamX.among_app _ ht hcv with z | z
        · obtain ⟨c0, e1, e2⟩ := ha p' cv z
          exact ⟨c0, e1, hE _ _ e2 LamX.codeO_ne⟩
        · exact ⟨c', z, upd_same⟩
      · obtain ⟨ps', a1, a2, a3⟩ := hT p hp
        refine ⟨ps', by rw [at_ _ hb (ne_of_none a1 nC)]; exact a1, a2, fun p' cv hcv => ?_⟩
        obtain ⟨c0, e1, e2⟩ := a3 p' cv hcv
        exact ⟨c0, e1, hE _ _ e2 LamX.codeO_ne⟩
    · by_cases h1 : b = c'
      · subst h1; rw [upd_same] at e; exact (LamX.codeO_ne _ (Option.some.inj e)).elim
      · by_cases h2 : b = P
        · subst h2; exact ⟨_, hP⟩
        · rw [at_ b h2 h1] at e; exact ⟨_, e⟩
    · rw [at_ _ (Nat.ne_of_gt (Nat.lt_of_lt_of_le (Heap.lt_size hP') hsz)) (Nat.ne_of_gt hlt)]
      exact I.hok.fresh hsz
  | some cv =>
    obtain ⟨c', e, hco⟩ := ha pos cv hc
    subst e
    refine PySem.W.kla_makeFunctionHit (mg := X.mg) (c := c) (P := P) (ps := ps) (closure_ok hfree) I.ok.glob (I.mod.glob.keeps I.bk) hcode (TB.code.keeps I.bk) hP' ht hc bP fun ctv h' tk hx hsz => ?_
    have I1 : Inv X pins σ H { s with heap := h'.push (PySem.W.kla_obj "<lambda>" (X.env.qual ++ "<lambda>") params body scope (cloFrom X.env.cells scope.names []) ((X.mg "__name__").getD .none) c' ctv), toks := tk } := I.kept fun b o e => Heap.get?_push_of_some _ (hx b o e)
    exact h h'.objs.size c' ((X.mg "__name__").getD .none) ctv H _ I1 (ExtN.refl H) hT (fun a ps z => ⟨ps, z⟩) (Heap.get?_push_size _ rfl) (I.hok.fresh hsz) (nofr _ hsz) hco
end
abbrev TxtC (K : PySem.W.Frag) (mg : Str → Option Value) (x : Str) (ps : List Str) (params : Arguments) (body : List Stmt) (scope : Scope) : Prop :=
  ∃ f fd, FunD K x x params body scope [] [] f fd ∧ mg x = some (.ref f) ∧ PySem.W.keepIn K (.ref f) = true ∧ Binds K fd ps []
def mSaid (ct : Str → Option Bool) (g : Ex → Option D) (m : M D) : M D := fun e => match m e with
  | .ok d e1 => .ok (.tup [.str "told", d]) e1
  | .exc x e1 => (match ct x.c with
    | some true => (match g x with
      | some r => .ok (.tup [r]) e1
      | none => .bad)
    | _ => .bad)
  | .bad => .bad
section
variable {X : Cx} {T : Pn} {W : WX} {x a en kd ec y : Str} {pg : Arguments} {bg : List Stmt} {sg : Scope} {k kl kk : Nat} {CS fa : Addr} {ct : Str → Option Bool} {g : Ex → Option D} {mE : M D} {params : Arguments} {body : Expr} {scope : Scope} {j0 : Nat}
  {p pos lpos p1 p2 p4 p5 p6 p7 q0 q1 q2 q3 q4 q5 q6 : Pos} {x1 x2 : Nat}
theorem jv_said (hp : Pl X k) (hS : TxtC X.K X.mg x [a] pg bg sg) (Sg : FnScope [a, en] [a] sg)
    (hbg : bg = [.Try [.Return (some (.Tuple [.Constant (.str "told") j0 q0, .Call (.Name a p1) [] [] p2] x1 q1)) q2] [.ExceptHandler (some (.Name ec p4)) (some en) [.Return (some (.Tuple [.Call (.Name kd p5) [.Name en p6] [] p7] x2 q3)) q4] q5] [] [] q6])
    (hge : sg.names.lookup ec = some .globalImplicit) (hgk : sg.names.lookup kd = some .globalImplicit) (hla : sg.names.lookup a = some .local) (hln : sg.names.lookup en = some .local)
    (hme : X.mg ec = some (.ref CS)) (hct : Cat X.K X.mg (.ref CS) ct) (hK : FnEC X.prog X.w X.K X.mg X.base kk kd [y] g)
    (hL : LamOk X.K X.mg X.base fa (X.env.qual ++ "<lambda>")) (hcode : X.env.code = .ref (cTz X.K fa).1) (L : LamS X.env.scope scope) (hdef : defaultsOf params X.env = ([], []))
    (hbind : ∀ (q : Str) (cl : List (Str × Addr)) (pm cv ctv : Value), bindArgs (PySem.W.kla_fn "<lambda>" q params body scope cl pm cv ctv) ⟨[], []⟩ = pure [])
    (hbody : ∀ (A : Around) (outer : List Env) (s : Shared) (H : Hp) (E : XK) (f c' : Addr), Pl (lamN X A outer s H E scope f c') kl → JV (lamN X A outer s H E scope f c') T (WE0 E) body mE)
    (hg : Gl X x) (hk1 : kl + 2 ≤ k := by decide) (hk2 : kk + 1 ≤ k := by decide)
    (hdx : (x == ("__debug__" : Str)) = false := by decide) (hda : (a == ("__debug__" : Str)) = false := by decide) (hca : (a == ("__classdict__" : Str)) = false := by decide) (hde : (en == ("__debug__" : Str)) = false := by decide) (hce : (en == ("__classdict__" : Str)) = false := by decide)
    (hdk : (kd == ("__debug__" : Str)) = false := by decide) (hdc : (ec == ("__debug__" : Str)) = false := by decide) :
    JV X T W (.Call (.Name x p) [.Lambda params body scope lpos] [] pos) (mSaid ct g mE) := by
  obtain ⟨gA, fd, G, hm, hkp, hb⟩ := hS
  obtain ⟨oc, od, dV, kV, doc, pm, an, cdv, ctv, osl, rfl, lk, hcd, _, _⟩ := G.ex
  refine ⟨fun pins s σ H Q I ⟨e, F, er, h⟩ => ?_⟩
  refine wpAny_Call_Name_kw (ld_glob I hg hm ?_ hdx)
  refine PySem.W.callWith_K (h₀ := X.base) I.ok.mod.kin hkp ?_ (by rfl) (by rfl)
  show wpAny _ _ (spliced ((false, eval (.Lambda params body scope lpos) X.env) :: backTo pos (starEach [] X.env))) _ _ s
  refine Calls.spliced_cons (lam_makeN I hL.tb hcode hL.mem hL.one er.tb.tabs hdef (L.has I.ok) fun f c' pm' ctv' H1 s' I1 eN T1 only hf hfn hfr hco => ?_)
  refine Calls.spliced_nil ⟨I1.kIn, ?_⟩
  obtain ⟨er1, mv1⟩ := er.lam eN T1 fun b ps z => by
    obtain ⟨ps', z'⟩ := only b ps z
    exact er.tb.all b ps' z'
  have rc : codeAny (model X.prog X.w) X.A (.call (.ref gA) ⟨[.ref f], []⟩) (CR (L2N.CX X.prog X.w) X.stack X.prog X.w H1 s' Q (fun _ _ _ => False)) s' := by
    have hr1 : Room (k - 1 + 1) X.A := hp.room.mono (by omega)
    refine LamX.run_ofS (CX := L2N.CX X.prog X.w) (N := [a, en]) (ps := [a]) (us := [.ref f]) (vs := [.ref f]) lk hcd Sg hr1 I1.env0 (hb s' [.ref f] I1.kIn rfl) (.cons rfl .nil) rfl fun hr' => ?_
    rw [hbg]
    refine ⟨_, pss_one (L2N.ps_try_as (X := cxOf (L2N.CX X.prog X.w) X.prog X.w X.K X.mg X.base [a, en] x sg gA cdv X.A X.stack s' H1 (fun _ _ _ => False)) (i := 1) (n := en) (c := .ref CS) (Wout := W0)
      (tb := fun W' D σ' H' => ∃ Ech : XK, (∀ cls d σ'' H'', σ''.length = 2 → Ech cls d H'' → W' cls d σ'' H'') ∧ σ'[0]? = some (some (.ref f)) ∧ H' c' = some (CodeO c' (X.env.qual ++ "<lambda>")) ∧
        TV X.K X.mg T (WE0 Ech) mE σ H' fun v H2 => ∀ q, H2 q = none → D.rt (.ref q) (upd H2 q (.tup [.str "told", v])))
      (ts := fun ae cls d D σ' H' => tTup (tCons (tKind X.K X.mg g ae cls d) tNil) σ' H' D.rt)
      rfl rfl Sg.nd rfl hln ⟨hge, hdc, .inl hme⟩ takes0 (fun W' pn xe tk _ => ?_) (fun ae oe cls d pn hz hfs => ?_)), ?_⟩
    · refine ⟨fun pins' s2 σ' H' D I2 ⟨Ech, hW, h1, h2, h3⟩ => ?_⟩
      have hact := pe_actN (k := kl) (i := 0) (E := Ech) (tb := TV X.K X.mg T (WE0 Ech) mE) (p1 := p1) (p2 := p2) I1 L hf hfn hfr (hbind _ _ _ _ _) tk hW (hr'.mono (by omega))
        (fun A outer s H hr2 hgu => hbody A outer s H Ech f c' ⟨hr2, hgu.trans hp.gu⟩) rfl (.inl hla) hda hca
      have ht := pss_one (ps_ret (pos := q2) (pe_tup (x1 := x1) (pos := q1) (pa_cons (pe_str (x := "told") (j := j0) (pos := q0)) (pa_cons hact pa_nil))))
      refine ht.run pins' s2 σ' H' D I2 ?_
      refine ⟨h1, h2, ?_⟩
      obtain ⟨e3, F3, er3, h4⟩ := h3
      refine ⟨e3, F3, er3, h4.mono fun d e4 H4 F4 er4 mv4 h5 v hv => ⟨by show 2 ≤ sizeLine; rw [sizeLine_eq]; omega, h5 v hv⟩⟩
    · have hkn := pe_kind (X := cxOf (L2N.CX X.prog X.w) X.prog X.w X.K X.mg X.base [a, en] x sg gA cdv X.A X.stack s' H1 (fun _ _ _ => False)) (a := ae) (pn := pn) (k := kk) (j := k - 1) (p := p5) (p1 := p6) (pos := p7) (n := en) hK ⟨hr'.dp, hr'.un⟩ hz hfs hgk rfl (.inl hln) (by omega) hdk hde hce
      exact pss_one (ps_ret (pe_tup (pa_cons hkn pa_nil)))
    · unfold RunAt mSaid at h
      refine ⟨fun cls d H2 => ∃ (ex : Ex) (F2 : Hp) (r : D), X.mg ex.c = some cls ∧ XaOk X.K X.mg F2 d ex ∧ Same F2 H2 ∧ TbOk H2 F2 ∧ ct ex.c = some true ∧ g ex = some r ∧ ∀ H3 F3, Fr none H2 F2 H3 F3 → ∀ v, Rp X.K X.mg F3 r v → ∀ q, H3 q = none → Q (.ref q) (upd H3 q (.tup [v])), ?_, rfl, hco, e, F, er1, ?_⟩
      · rintro cls d σ2 H2 hl ⟨ex, F2, r, m1, m2, sub, tb, hc, hgr, hq⟩
        refine ⟨true, hct _ _ hc _ m1, fun _ ae hae => ?_, fun z => nomatch z⟩
        refine ⟨ex, F2, r, m1, m2, sub, tb, hgr, List.getElem?_set_self (by omega), fun H3 F3 fr v hv => ?_⟩
        exact ⟨by show 1 ≤ sizeLine; rw [sizeLine_eq]; omega, hq H3 F3 fr v hv⟩
      · unfold RunAt
        cases q : mE e with
        | ok d e1 =>
          simp only [q] at h
          intro H2 F2 er2 mv2 v hv qa hqa
          have al : Al H2 F2 (upd H2 qa (.tup [.str "told", v])) (upd F2 qa (.tup [.str "told", v])) := Al.one hqa
          refine h _ _ (er2.al al) (mv1.trans (mv2.trans (Mv.al er2 al))) _ ?_
          rw [rp_tup]
          exact ⟨qa, _, rfl, upd_same, by rw [rl_cons]; exact ⟨_, _, rfl, by rw [rp_str], by rw [rl_cons]; exact ⟨_, _, rfl, Rp.mono (al.same er2.sub).1 _ _ hv, by rw [rl_nil]⟩⟩⟩
        | exc ex e1 =>
          simp only [q] at h
          intro H2 F2 cl dd er2 mv2 xr
          cases qc : ct ex.c with
          | none => simp only [qc] at h
          | some b =>
            cases b with
            | false => simp only [qc] at h
            | true =>
              cases qg : g ex with
              | none => simp only [qc, qg] at h
              | some r =>
                simp only [qc, qg] at h
                refine ⟨ex, F2, r, xr.1, xr.2, er2.sub, er2.tb, qc, qg, fun H3 F3 fr v hv qa hqa => ?_⟩
                · obtain ⟨er3, mv3⟩ := er2.fr fr
                  have al : Al H3 F3 (upd H3 qa (.tup [v])) (upd F3 qa (.tup [v])) := Al.one hqa
                  refine h _ _ (er3.al al) (mv1.trans ((mv2.trans mv3).trans (Mv.al er3 al))) _ ?_
                  rw [rp_tup]
                  exact ⟨qa, _, rfl, upd_same, by rw [rl_cons]; exact ⟨_, _, rfl, Rp.mono (al.same er3.sub).1 _ _ hv, by rw [rl_nil]⟩⟩
        | bad => simp only [q] at h
  refine wpAny_call (codeAny_mono rc fun r s2 hq => ?_)
  cases r with
  | error e => obtain ⟨_, _, _, _, _, _, _, _, _, _, _, _, z⟩ := hq; exact z.elim
  | ok fl =>
    cases fl with
    | ret u => exact I1.after hq
    | next => exact False.elim hq
    | brk => exact False.elim hq
    | cont => exact False.elim hq
end
end Sr
namespace Sr
open PySem hiding start
open PySem.Spec L2
open PyProof.Rows hiding St
open LamX (LamS lamEnv lamCx CodeO ExtN Tabs TabS TabB)
theorem code_of {K : PySem.W.Frag} {x q : Str} {params : Arguments} {body : List Stmt} {scope : Scope} {kws : List (Str × V)} {f : Addr} {fd : FuncData} (G : FunD K x q params body scope [] kws f fd) (h : PySem.W.codeHdIn K (cTz K f).1 (cTz K f).2 = true) : fd.code = .ref (cTz K f).1 := by
  obtain ⟨oc, od, dV, kV, doc, pm, an, cdv, ct, osl, rfl, lk, hcd, _, _⟩ := G.ex
  have e : cTz K f = cOf K cdv := by
    unfold cTz
    rw [lk]
  show cdv = _
  cases cdv with
  | ref c => rw [e]; rfl
  | _ =>
    exfalso
    rw [e] at h
    have h' : PySem.W.codeHdIn K 0 0 = true := h
    unfold PySem.W.codeHdIn at h'
    split at h'
    · simp at h'
    · cases h'
def tabsZ (K : PySem.W.Frag) (tf : List DefZ) : List (Addr × Addr) := tf.map fun d => cTz K (d.ad K)
def tlZ (K : PySem.W.Frag) (tf : List DefZ) : List (Addr × Str) := tf.map fun d => ((cTz K (d.ad K)).2, lamQ d)
theorem obsM_eq {as : List Addr} {fa : List He.Fa} {fn : List DefZ} {ex : PySem.W.Frag → Bool} {tf : List DefZ} {g : Addr → Option Obj} {s : Shared} (h : ∀ a, g a = s.heap.get? a) : obsM as fa fn ex tf g = (hookM as fa fn ex tf).obs s := by
  have e : g = s.heap.get? := funext h
  rw [e] <;> rfl
theorem lamOk_of [TabL] {tf : List DefZ} {h : Heap} {K : PySem.W.Frag} {mg : Str → Option Value} {base : Heap} {d : DefZ} (t : TabsZ tf h K) (hl : TabL.l = tlZ K tf) (hT : ∀ p ∈ tabsZ K tf, TabB base mg p.1 p.2) (i : Nat) (hi : tf[i]? = some d := by rfl) : LamOk K mg base (d.ad K) (lamQ d) := by
  have hm : d ∈ tf := List.mem_of_getElem? hi
  refine ⟨hT _ (List.mem_map.mpr ⟨d, hm, rfl⟩), by rw [hl]; exact List.mem_map.mpr ⟨d, hm, rfl⟩, fun p hp e => ?_⟩
  rw [hl] at hp
  obtain ⟨d', hm', rfl⟩ := List.mem_map.mp hp
  exact t.one d' hm' d hm e
def OnlyT (cs : List (Addr × Addr)) (H : Hp) : Prop := (∀ p ∈ cs, H p.2 = some (.tbl #[])) ∧ ∀ b, H b = none ∨ (b ∈ cs.map (·.2) ∧ H b = some (.tbl #[])) ∨ ∃ o xs, H b = some (.frz o (.lst xs))
theorem law_gT {P : Program} {w : World} {K : PySem.W.Frag} {mg mb : Str → Option Value} {k : Nat} {fa a : Addr} {cs : List (Addr × Addr)} {fd : FuncData} {x : Str} {sp : Sp} {s₁ : Shared} {vs : List Value} {ns : List Int}
    (KX : K.In s₁.heap) (hns : s₁.heap.Ns mainGlobals mg) (hb : s₁.heap.Ns builtinsNs mb) (hbb : ∀ x : Str, x ≠ "__name__" → mb x = bootBuiltins x) (hlim : s₁.heap.NoLimit) (hg : s₁.gens = #[])
    (hT : ∀ p ∈ cs, s₁.heap.get? p.2 = some { cls := .none, data := .fields #[] }) (nT : ∀ p ∈ cs, K.lookup p.2 = none) (C : ∀ p ∈ cs, PySem.W.CodeHd s₁.heap p.1 p.2)
    (hbm : ∃ (bm : Addr) (ob : Obj), mg "__builtins__" = some (.ref bm) ∧ bm ≠ builtinsNs ∧ s₁.heap.get? bm = some ob ∧ ob.cls = .type "module" ∧ ob.dict = some builtinsNs ∧ ob.data = .plain)
    (ha : s₁.heap.get? a = some { cls := .type "list", data := .seq vs.toArray }) (hi : IntsAre vs ns) (hl : ns.length ≤ sizeLine) (hr : Room k callerA)
    (F : ∀ base : Heap, (∀ p ∈ cs, TabB base mg p.1 p.2) → FnG P w K mg base k fa fd [x] sp) (hbind : ∀ (s : Shared) (u : Value), BindsTo s fd ⟨[u], []⟩ [(x, u)])
    (hsp : ∀ H : Hp, OnlyT cs H → SqL K H a (ns.map V.int) → sp [.ref a] H (fun v _ => v = .bl true) fun _ _ _ => False) :
    codeAny (model P w) callerA (.call (.ref fa) ⟨[.ref a], []⟩) (fun r s' => r = .ok (.ret (.bool true)) ∧ OldK s₁.heap s'.heap ∧ s'.os = s₁.os ∧ AllBare s'.gens) s₁ := by
  have rv := vals_ints hi
  have lenV := hi.length
  have memT : ∀ p ∈ cs, p.2 ∈ cs.map (·.2) := fun p hp => List.mem_map.mpr ⟨p, hp, rfl⟩
  have isT : ∀ b : Addr, b ∈ cs.map (·.2) → s₁.heap.get? b = some { cls := .none, data := .fields #[] } := fun b hb => by
    obtain ⟨p, hp, rfl⟩ := List.mem_map.mp hb
    exact hT p hp
  have aT : a ∉ cs.map (·.2) := fun z => by
    have q := isT a z
    rw [ha] at q
    exact nomatch (congrArg Obj.data (Option.some.inj q) : Data.seq vs.toArray _ = Data.fields #[])
  have core : ∀ H : Hp, OnlyT cs H → SqL K H a (ns.map V.int) → HOk P w H s₁.heap → (∀ b, H b ≠ none → b = a ∨ b ∈ cs.map (·.2)) → (H a ≠ none → K.lookup a = none) →
      codeAny (model P w) callerA (.call (.ref fa) ⟨[.ref a], []⟩) (fun r s' => r = .ok (.ret (.bool true)) ∧ OldK s₁.heap s'.heap ∧ s'.os = s₁.os ∧ AllBare s'.gens) s₁ := by
    intro H hO hS hok hA hK
    have noD : ∀ {b : Addr} {o : Obj}, s₁.heap.get? b = some o → (∀ vs n, o.data ≠ .seq vs n) → o.data ≠ .fields #[] → H b = none := fun {b o} e h1 h2 => by
      cases q : H b with
      | none => rfl
      | some u =>
        rcases hA b (by rw [q]; simp) with e' | e'
        · rw [e', ha] at e; cases e
          exact (h1 _ _ rfl).elim
        · rw [isT b e'] at e; cases e
          exact (h2 rfl).elim
    have nsK : ∀ {b : Addr} {m : Str → Option Value}, s₁.heap.Ns b m → (hidT s₁.heap H).Ns b m := fun {b m} ⟨o, es, ep, e, d, r⟩ =>
      ⟨o, es, ep, hidT_get e (noD e (fun vs n z => by rw [d] at z; cases z) fun z => by rw [d] at z; cases z), d, r⟩
    have hKb : K.In (hidT s₁.heap H) := fun b o e => hidT_get (KX b o e) (by
      cases q : H b with
      | none => rfl
      | some u =>
        rcases hA b (by rw [q]; simp) with e' | e'
        · rw [e'] at e q
          rw [hK (by rw [q]; simp)] at e; cases e
        · obtain ⟨p, hp, ep⟩ := List.mem_map.mp e'
          rw [← ep, nT p hp] at e; cases e)
    have hM : L2.Mod K mg (hidT s₁.heap H) := ⟨hKb, nsK hns, ⟨mb, nsK hb, hbb⟩, let ⟨mc, h1, h2⟩ := hlim; ⟨mc, nsK h1, h2⟩⟩
    have TB : ∀ p ∈ cs, TabB (hidT s₁.heap H) mg p.1 p.2 := fun p hp => by
      have hTp := hT p hp
      refine ⟨?_, ?_, fun z => ?_⟩
      · obtain ⟨o, us, file, tf, flags, tg, inF, text, tt, e1, r1, r2, r3, r4, r5, r6, r7, r8, hne⟩ := C p hp
        refine ⟨o, us, file, tf, flags, tg, inF, text, tt, hidT_get e1 (noD e1 (fun vs n z => ?_) fun z => ?_), r1, r2, r3, r4, r5, r6, r7, r8, hne⟩
        · rw [r2] at z; cases z
        · rw [r2] at z; cases z
          simp at r3
      · obtain ⟨bm, ob, b1, b2, b3, b4, b5, b6⟩ := hbm
        have nG : bm ≠ mainGlobals := fun q => by
          obtain ⟨o, es, ep, e, hd, _⟩ := hns
          rw [q, e] at b3; cases b3
          rw [hd] at b6; cases b6
        have nP : bm ≠ p.2 := fun q => by
          rw [q, hTp] at b3; cases b3
          cases b6
        exact ⟨bm, ob, b1, b2, nG, nP, hidT_get b3 (noD b3 (fun vs n z => by rw [b6] at z; cases z) fun z => by rw [b6] at z; cases z), b4, b5, b6⟩
      · obtain ⟨o, es, ep, e, hd, _⟩ := hns
        rw [z, hTp] at e; cases e
        cases hd
    have e0 : Env0 P w K mg (hidT s₁.heap H) callerA [] s₁ H := ⟨rfl, hM, fun b o e => of_hidT e, Nat.le_of_eq (hidT_size _ _), trivial, fun b z => (by cases z), hok, .of_eq hg⟩
    refine codeAny_mono ((F _ TB).run callerA [] s₁ H ⟨[.ref a], []⟩ [.ref a] [.ref a] _ _ hr rfl e0 (hbind s₁ (.ref a)) (.cons rfl .nil) (hsp H hO hS)) ?_
    intro r s' h
    match r, h with
    | .error e, h => obtain ⟨_, _, _, _, _, _, _, _, _, _, _, _, z⟩ := h; exact z.elim
    | .ok .next, h => exact h.elim
    | .ok .brk, h => exact h.elim
    | .ok .cont, h => exact h.elim
    | .ok (.ret u), ⟨v, H', os, bare, un, hok', r', q⟩ =>
      have q' : v = .bl true := q
      subst q'
      obtain rfl : u = Value.bool true := r'
      have key : ∀ b o, b ∉ cs.map (·.2) → s₁.heap.get? b = some o → s'.heap.get? b = some o := fun b o nb e => by
        cases q : H b with
        | none => exact un.keep b o e q (fun z => by cases z) (by simp)
        | some u =>
          rcases hO.2 b with z | z | ⟨ob, xs, z⟩
          · rw [q] at z; cases z
          · exact absurd z.1 nb
          · obtain ⟨e1, _⟩ := hok b _ z
            obtain ⟨e2, _⟩ := hok' b _ (un.frzs b ob _ z)
            rw [e] at e1; cases e1
            exact e2
      have grown : ∀ p ∈ cs, ∃ more : Array Value, s'.heap.get? p.2 = some { cls := .none, data := .fields more } := fun p hp => by
        obtain ⟨more, z⟩ := un.tbls p.2 #[] (hO.1 p hp)
        exact ⟨_, hok' p.2 _ z⟩
      refine ⟨rfl, ⟨fun b o e => ?_, fun b o e => ?_⟩, os, bare⟩
      · by_cases hb : b ∈ cs.map (·.2)
        · obtain ⟨p, hp, ep⟩ := List.mem_map.mp hb
          obtain ⟨more, hm⟩ := grown p hp
          rw [← ep] at e ⊢
          rw [hT p hp] at e; cases e
          exact .inr (.inl ⟨((C p hp).tab (hT p hp)).isCodeTable, rfl, #[], more, rfl, by rw [Array.empty_append]; exact hm⟩)
        · exact .inl (key b o hb e)
      · by_cases hb : b ∈ cs.map (·.2)
        · obtain ⟨p, hp, ep⟩ := List.mem_map.mp hb
          obtain ⟨more, hm⟩ := grown p hp
          rw [← ep]
          exact ⟨_, hm⟩
        · exact ⟨o, key b o hb e⟩
  have onT : ∀ {H : Hp} {b : Addr} {p : Addr × Addr}, (∀ c, c ∈ cs.map (·.2) → H c = some (.tbl #[])) → p ∈ cs → H p.2 = some (.tbl #[]) := fun h hp => h _ (memT _ hp)
  cases hk : K.lookup a with
  | some o =>
    have e := KX a o hk
    rw [ha] at e
    cases e
    have hin : ∀ c, c ∈ cs.map (·.2) → (fun b => if b ∈ cs.map (·.2) then some (HO.tbl #[]) else none : Hp) c = some (.tbl #[]) := fun c hc => if_pos hc
    have hout : ∀ c, c ∉ cs.map (·.2) → (fun b => if b ∈ cs.map (·.2) then some (HO.tbl #[]) else none : Hp) c = none := fun c hc => if_neg hc
    refine core (fun b => if b ∈ cs.map (·.2) then some (.tbl #[]) else none) ⟨fun p hp => hin _ (memT p hp), fun b => ?_⟩ (.inr ⟨_, vs.toArray, _, hk, rfl, rfl, rfl, by rw [List.size_toArray, lenV]; exact hl, by simpa using rv⟩) (fun b u z => ?_) (fun b z => ?_) fun z => absurd (hout a aT) z
    · by_cases hb : b ∈ cs.map (·.2)
      · exact .inr (.inl ⟨hb, hin b hb⟩)
      · exact .inl (hout b hb)
    · by_cases hb : b ∈ cs.map (·.2)
      · have z' := (hin b hb).symm.trans z
        cases z'
        exact isT b hb
      · have z' := (hout b hb).symm.trans z
        cases z'
    · by_cases hb : b ∈ cs.map (·.2)
      · exact .inr hb
      · exact absurd (hout b hb) z
  | none =>
    have h1 : (fun b => if b = a then some (HO.frz { cls := .type "list", data := .seq vs.toArray } (.lst (ns.map V.int))) else if b ∈ cs.map (·.2) then some (HO.tbl #[]) else none : Hp) a = some (.frz { cls := .type "list", data := .seq vs.toArray } (.lst (ns.map V.int))) := if_pos rfl
    have h2 : ∀ c, c ∈ cs.map (·.2) → (fun b => if b = a then some (HO.frz { cls := .type "list", data := .seq vs.toArray } (.lst (ns.map V.int))) else if b ∈ cs.map (·.2) then some (HO.tbl #[]) else none : Hp) c = some (.tbl #[]) := fun c hc => (if_neg (fun z => aT (by rw [← z]; exact hc))).trans (if_pos hc)
    have h3 : ∀ c, c ≠ a → c ∉ cs.map (·.2) → (fun b => if b = a then some (HO.frz { cls := .type "list", data := .seq vs.toArray } (.lst (ns.map V.int))) else if b ∈ cs.map (·.2) then some (HO.tbl #[]) else none : Hp) c = none := fun c hc hc2 => (if_neg hc).trans (if_neg hc2)
    refine core (fun b => if b = a then some (.frz { cls := .type "list", data := .seq vs.toArray } (.lst (ns.map V.int))) else if b ∈ cs.map (·.2) then some (.tbl #[]) else none) ⟨fun p hp => h2 _ (memT p hp), fun b => ?_⟩ (.inl (.inr ⟨_, h1⟩)) (fun b u z => ?_) (fun b z => ?_) fun _ => hk
    · by_cases hb : b = a
      · subst hb; exact .inr (.inr ⟨_, _, h1⟩)
      · by_cases hb2 : b ∈ cs.map (·.2)
        · exact .inr (.inl ⟨hb2, h2 b hb2⟩)
        · exact .inl (h3 b hb hb2)
    · by_cases hb : b = a
      · subst hb
        have z' := h1.symm.trans z
        cases z'
        exact ⟨ha, by rw [List.length_map]; exact hl, vs, _, rv, ha⟩
      · by_cases hb2 : b ∈ cs.map (·.2)
        · have z' := (h2 b hb2).symm.trans z
          cases z'
          exact isT b hb2
        · have z' := (h3 b hb hb2).symm.trans z
          cases z'
    · by_cases hb : b = a
      · exact .inl hb
      · by_cases hb2 : b ∈ cs.map (·.2)
        · exact .inr hb2
        · exact absurd (h3 b hb hb2) z
theorem walk_gT {l : PySem.W.OpenLaw} {n k : Nat} {q : Program} {loose : List Str} {XP : (Str → Option Value) → Heap → Prop} {YP : World → Heap → Prop} {d : DefRec} {x : Str}
    (hn : l.most = some n) (hn2 : n ≤ sizeLine) (hdf : d.params.defaults = []) (hr : Room k callerA)
    (F : ∀ (w : World) (mg : Str → Option Value) (fa : Addr) (h : Heap), YP w h → h.Ns mainGlobals mg → mg d.name = some (.ref fa) →
      ∃ (K : PySem.W.Frag) (tf : List DefZ) (fd : FuncData) (sp : Sp), K.In h ∧ TabsZ tf h K ∧ (∀ (s : Shared) (u : Value), BindsTo s fd ⟨[u], []⟩ [(x, u)]) ∧
        (∀ (H : Hp) (a : Addr) (ns : List Int), ns.length ≤ n → OnlyT (tabsZ K tf) H → SqL K H a (ns.map V.int) → sp [.ref a] H (fun v _ => v = .bl true) fun _ _ _ => False) ∧
        ∀ base : Heap, (∀ p ∈ tabsZ K tf, TabB base mg p.1 p.2) → FnG l.prog w K mg base k fa fd [x] sp) :
    PySem.W.WalkO q loose XP YP l.row.toRowW d [] (fun f vs => PySem.call f vs) := by
  refine Att.attach_callB hn hdf fun w s₀ s₁ mg mb fa o pm cd doc a vs ns G Y ho hd hcd hmg hobj hints hlen hbits hg => ?_
  obtain ⟨K, tf, fd, sp, KX, t, hb, hsp, hF⟩ := F w mg fa _ Y G.T.g hmg
  have mem : ∀ {p : Addr × Addr}, p ∈ tabsZ K tf → ∃ d ∈ tf, cTz K (d.ad K) = p := fun hp => List.mem_map.mp hp
  refine law_gT KX G.T.g G.T.b G.T.builtins G.T.nolimit hg (fun p hp => ?_) (fun p hp => ?_) (fun p hp => ?_) G.T.bmain hobj hints (Nat.le_trans hlen hn2) hr hF hb (fun H hO hS => hsp H a ns hlen hO hS)
  · obtain ⟨d, hd, rfl⟩ := mem hp; exact t.empty d hd
  · obtain ⟨d, hd, rfl⟩ := mem hp; exact t.out d hd
  · obtain ⟨d, hd, rfl⟩ := mem hp; exact PySem.W.codeHd_of_K KX (t.hd d hd)
theorem law_trueT [TabL] {K : PySem.W.Frag} {mg : Str → Option Value} {f : Fnc} {ns : List Int} {H : Hp} {a : Addr} {tf : List DefZ} (h : f .non [.scr ns] = .ok (.bl true) .non) (hl : TabL.l = tlZ K tf) (hO : OnlyT (tabsZ K tf) H) (hS : SqL K H a (ns.map V.int)) : spF0 K mg false 1 f [.ref a] H (fun v _ => v = .bl true) fun _ _ _ => False := by
  let F : Hp := fun b => match H b with
    | some (.tbl _) => none
    | o => o
  have F_ : ∀ b o, F b = some o → H b = some o ∧ NTb o := fun b o e => by
    have e : (match H b with | some (.tbl _) => none | o => o) = some o := e
    split at e
    · cases e
    · rename_i hn
      exact ⟨e, fun ps z => by subst z; exact hn ps e⟩
  have F1 : ∀ b ob xs, H b = some (.frz ob xs) → F b = some (.frz ob xs) := fun b ob xs e => by
    show (match H b with | some (.tbl _) => none | o => o) = _
    rw [e]
  have tb : TbOk H F := by
    refine ⟨fun p hp => ?_, fun b o e => (F_ b o e).2, fun b ps e => ?_⟩
    · rw [hl] at hp
      obtain ⟨d, hd, rfl⟩ := List.mem_map.mp hp
      exact TabS.nil (hO.1 _ (List.mem_map.mpr ⟨d, hd, rfl⟩))
    · rcases hO.2 b with z | ⟨z, _⟩ | ⟨ob, xs, z⟩
      · rw [e] at z; cases z
      · obtain ⟨p, hp, rfl⟩ := List.mem_map.mp z
        obtain ⟨d, hd, rfl⟩ := List.mem_map.mp hp
        exact ⟨_, by rw [hl]; exact List.mem_map.mpr ⟨d, hd, rfl⟩, rfl⟩
      · rw [e] at z; cases z
  have hS' : SqL K F a (ns.map V.int) := by
    rcases hS with (z | ⟨o, z⟩) | z
    · rcases hO.2 a with y | ⟨_, y⟩ | ⟨ob, xs, y⟩ <;> rw [z] at y <;> cases y
    · exact .inl (.inr ⟨o, F1 _ _ _ z⟩)
    · exact .inr z
  refine ⟨[.scr ns], F, fun b o e => (F_ b o e).1, tb, ?_, rfl, ?_⟩
  · rw [rl_cons]
    exact ⟨_, [], rfl, by rw [rp_scr]; exact ⟨a, rfl, hS'⟩, by rw [rl_nil]⟩
  · rw [h]
    intro H' F' _ v hv
    rw [rp_bl] at hv
    exact hv
end Sr
namespace Sr
variable [TabL]
open PySem hiding start
open PySem.Spec L2
open PyProof.Rows hiding St
theorem RpK.get {K : PySem.W.Frag} {mg : Str → Option Value} {F : Hp} : ∀ {ds : List (Key × D)} {xs : List (Key × V)} {i : Nat} {k : Key} {v : V}, RpK K mg F ds xs → xs[i]? = some (k, v) → ∃ d, ds[i]? = some (k, d) ∧ Rp K mg F d v
  | [], xs, i, k, v, h, hx => by unfold RpK at h; subst h; simp at hx
  | (q, d) :: ds, xs, i, k, v, h, hx => by
    unfold RpK at h
    obtain ⟨v', r, rfl, hv, h⟩ := h
    cases i with
    | zero =>
      rw [List.getElem?_cons_zero] at hx
      cases hx
      exact ⟨d, rfl, hv⟩
    | succ i =>
      rw [List.getElem?_cons_succ] at hx
      exact RpK.get (ds := ds) (xs := r) (i := i) h hx
end Sr
namespace Sr
open PySem hiding start
open PySem.Spec L2
open PyProof.Rows hiding St
def b8 (n : Int) : Bool := decide (0 ≤ n) && decide (n < 256)
variable [TabL]
end Sr
namespace Sr
variable [TabL]
open PySem hiding start
open PySem.Spec L2
open PyProof.Rows hiding St
open LamX (lamEnv lamCx CodeO ExtN Tabs TabS TabB)
structure LamP (sc scope : Scope) (x : Str) : Prop where
  kind : scope.kind = .function
  co : scope.isCoroutine = false
  gen : scope.isGenerator = false
  own : ∀ y ∈ scope.names, (y.2 = .local → y.1 = x) ∧ y.2 ≠ .cell
  loc : scope.names.lookup x = some .local
  free : ∀ y ∈ scope.names, y.2 = .free → sc.names.lookup y.1 = some .cell ∨ sc.names.lookup y.1 = some .free
theorem LamP.has {X : Cx} {scope : Scope} {x : Str} (L : LamP X.env.scope scope x) (ok : X.Ok) : ∀ y ∈ scope.names, y.2 = .free → ∃ c, X.env.cells.lookup y.1 = some c := fun y hy e => by
  rcases L.free y hy e with k | k
  · exact ok.has _ (.inl k)
  · exact ok.has _ (.inr k)
end Sr
namespace Sr
variable [TabL]
open PySem hiding start
open PySem.Spec L2
open PyProof.Rows hiding St
def XIni (C : Addr) (ns : List Str) (sp : Sp) : Prop := ∀ (vs : List V) (H1 : Hp) (a : Addr) (Q : VK) (E : XK), vs.length = ns.length → H1 a = none →
  (∀ d H2, H1 d = none → d ≠ a → H2 a = some (exo a C (some d)) → H2 d = some (exd d (ns.zip vs).reverse) → (∀ b, b ≠ a → b ≠ d → H2 b = H1 b) → Q .non H2) → sp (.ref a :: vs) (upd H1 a (exo a C none)) Q E
def spX2 (C : Addr) (f1 f2 : Str) : Sp := fun vs H Q E => ∃ (a : Addr) (v1 v2 : V), vs = [.ref a, v1, v2] ∧ H a = some (exo a C none) ∧ ∀ dx, H dx = none → dx ≠ a → Q .non (upd (upd (upd H dx (exd dx [(f1, v1)])) a (exo a C (some dx))) dx (exd dx [(f2, v2), (f1, v1)]))
theorem xini2 {C : Addr} {f1 f2 : Str} : XIni C [f1, f2] (spX2 C f1 f2) := by
  intro vs H1 a Q E hl hn h
  obtain ⟨v1, v2, rfl⟩ : ∃ v1 v2, vs = [v1, v2] := by
    match vs, hl with
    | [v1, v2], _ => exact ⟨v1, v2, rfl⟩
  refine ⟨a, v1, v2, rfl, upd_same, fun dx hd hne => h dx _ ?_ hne ?_ ?_ fun b h1 h2 => ?_⟩
  · rw [upd_ne hne] at hd; exact hd
  · rw [upd_ne (Ne.symm hne), upd_same]
  · rw [upd_same]; rfl
  · rw [upd_ne h2, upd_ne h1, upd_ne h2, upd_ne h1]
section
variable {P : Program} {w : World} {K : PySem.W.Frag} {mg : Str → Option Value} {base : Heap} {x qual : Str} {params : Arguments} {body : List Stmt} {scope : Scope} {kws : List (Str × V)} {f C : Addr} {fd : FuncData}
theorem fnX2 {s f1 f2 : Str} {p1 p2 p3 p4 q1 q2 q3 q4 : Pos} (T : OexC K C) (h1 : PySem.W.findIn K (.ref C) f1 = some none) (h2 : PySem.W.findIn K (.ref C) f2 = some none) (G : FunD K x qual params body scope [] kws f fd) (S : FnScope [s, f1, f2] [s, f1, f2] scope)
    (hbd : body = [.Assign [.Attribute (.Name s p1) f1 p2] (.Name f1 p3) p4, .Assign [.Attribute (.Name s q1) f2 q2] (.Name f2 q3) q4]) (v0 : Vis scope s) (v1 : Vis scope f1) (v2 : Vis scope f2)
    (a0 : (s == ("__debug__" : Str)) = false := by decide) (a1 : (s == ("__classdict__" : Str)) = false := by decide) (a2 : (f1 == ("__debug__" : Str)) = false := by decide) (a3 : (f1 == ("__classdict__" : Str)) = false := by decide)
    (a4 : (f2 == ("__debug__" : Str)) = false := by decide) (a5 : (f2 == ("__classdict__" : Str)) = false := by decide) :
    FnG P w K mg base 1 f fd [s, f1, f2] (spX2 C f1 f2) := by
  subst hbd
  refine fnG_of (k := 0) G S (fun vs H Q E ⟨a, y1, y2, e, _⟩ => by rw [e]; rfl) fun cdv _ A outer s0 H vs Q E hr hgu ⟨a, y1, y2, ev, ha, hq⟩ => ?_
  subst ev
  refine ⟨_, pss_cons (ps_ost (X := cxOf (L2N.CX P w) P w K mg base [s, f1, f2] qual scope f cdv A outer s0 H E) (pe_var (i := 0) rfl v0 a0 a1) (pe_var (i := 1) rfl v1 a2 a3)) (pss_one (ps_ost (X := cxOf (L2N.CX P w) P w K mg base [s, f1, f2] qual scope f cdv A outer s0 H E) (pe_var (i := 0) rfl v0 a0 a1) (pe_var (i := 2) rfl v2 a4 a5))), ?_⟩
  refine ⟨y1, rfl, .ref a, rfl, a, C, rfl, T, h1, .inl ⟨ha, fun dx hd hne => ?_⟩⟩
  exact ⟨y2, rfl, .ref a, rfl, a, C, rfl, T, h2, .inr ⟨dx, [(f1, y1)], upd_same, by rw [upd_ne hne, upd_same], by simp, hq dx hd hne⟩⟩
end
def tMkX (C : Addr) (ns : List Str) (ta : TA) : St → Hp → XK → Prop := fun σ H Q => ta σ H fun vs H1 => vs.length ≤ 1000 ∧ vs.length = ns.length ∧ ∀ d, H1 d = none → Q (.ref C) (some d) (upd H1 d (.xd (ns.zip vs).reverse))
section
variable {X : Cx} {e : Expr} {es : List Expr} {ta : TA} {p pos : Pos}
theorem pmk_x {x : Str} {C fI : Addr} {k : Nat} {fd : FuncData} {ps ns : List Str} {sp : Sp} (T : OexC X.K C) (iC : PySem.W.findIn X.K (.ref C) "__init__" = some (some (.ref fI))) (tI : PySem.W.typeIn X.K (.ref fI) = some (.type "function"))
    (F1 : FnG X.prog X.w X.K X.mg X.base k fI fd ps sp) (hI : XIni C ns sp) (hr : Room (k + 1) X.A) (hgu : X.A.guards = some []) (hb : Binds X.K fd ps []) (hg : Gl X x) (hm : X.mg x = some (.ref C)) (ha : PA X (e :: es) ta)
    (hdb : (x == ("__debug__" : Str)) = false := by decide) (he : starEach (e :: es) X.env = (false, eval e X.env) :: starEach es X.env := by rfl) (hpl : (backTo pos (starEach es X.env)).any (·.1) = false := by rfl) :
    L2N.PMk X (.Call (.Name x p) (e :: es) [] pos) (tMkX C ns ta) := by
  intro pins s σ H Q I h
  obtain ⟨nm, q, N, bs, bm, sn, sub, ab, col, dd, k0, k1, k2, k3, k5, hC, hbm⟩ := T.cls
  refine wpAny_Call_Name_kw (ld_glob I hg hm ?_ hdb)
  refine PySem.W.callWith_K (h₀ := X.base) I.ok.mod.kin T.kC (thn (ha.run pos pins s σ H _ I h) fun us s1 ⟨vs, H1, I1, r1, hz, hln, q1⟩ => ⟨I1.kIn, ?_⟩) he hpl
  show wpAny _ _ (call (.ref C) us) _ _ _
  obtain ⟨hp, g, dr, tk, os⟩ := s1
  have hsz : hp.objs.size ≤ hp.objs.size + 1 := Nat.le_succ _
  have hn : H1 (hp.objs.size + 1) = none := I1.hok.fresh hsz
  have hq := hI vs H1 (hp.objs.size + 1) (fun v H2 => v = .non ∧ ∃ (d : Addr) (fs : List (Str × V)), H2 (hp.objs.size + 1) = some (exo (hp.objs.size + 1) C (some d)) ∧ H2 d = some (exd d fs) ∧ H1 d = none ∧ Q (.ref C) (some d) (upd (del H2 (hp.objs.size + 1)) d (.xd fs))) (fun _ _ _ => False) hln hn
    (fun d H2 hd hda e1 e2 e3 => ⟨rfl, d, _, e1, e2, hd, by
      have z : upd (del H2 (hp.objs.size + 1)) d (.xd (ns.zip vs).reverse) = upd H1 d (.xd (ns.zip vs).reverse) := by
        funext b
        by_cases hb : b = d
        · rw [hb, upd_same, upd_same]
        · rw [upd_ne hb, upd_ne hb]
          by_cases hb2 : b = hp.objs.size + 1
          · rw [hb2, del_same, hn]
          · rw [del_ne hb2, e3 b hb2 hb]
      rw [z]; exact q1 d hd⟩)
  have kk : ∀ b o, hp.get? b = some o → ((hp.push (PySem.W.kdv_tup us)).push (PySem.HandSPX.excO C hp.objs.size)).get? b = some o := fun b o e => Heap.get?_push_of_some _ (Heap.get?_push_of_some _ e)
  have hget : ((hp.push (PySem.W.kdv_tup us)).push (PySem.HandSPX.excO C hp.objs.size)).get? (hp.objs.size + 1) = some (PySem.HandSPX.excO C hp.objs.size) := by heap_get
  have I2 : Inv X pins σ (upd H1 (hp.objs.size + 1) (exo (hp.objs.size + 1) C none)) ⟨(hp.push (PySem.W.kdv_tup us)).push (PySem.HandSPX.excO C hp.objs.size), g, dr, tk, os⟩ :=
    I1.laid (t' := tk) (a := hp.objs.size + 1) (o := exo (hp.objs.size + 1) C none) (h' := (hp.push (PySem.W.kdv_tup us)).push (PySem.HandSPX.excO C hp.objs.size)) kk hsz (exo_ok hget)
  have r2 : Vals (V.ref (hp.objs.size + 1) :: vs) (Value.ref (hp.objs.size + 1) :: us) := .cons rfl r1
  have hl : (Value.ref (hp.objs.size + 1) :: us ++ []).length = ps.length := by
    have e := r2.length
    rw [F1.len _ _ _ _ hq] at e
    rw [List.append_nil]
    exact e.symm
  have hus : us.length ≤ sizeLine := by
    rw [← Paired.length r1, sizeLine_eq]
    omega
  have b2 := hb _ (Value.ref (hp.objs.size + 1) :: us) I2.kIn hl
  rw [List.append_nil] at b2
  refine wpAny_call (PySem.HandSPX.call_own F.excBase_ValueError (fun Y => PySem.HandSPX.refsVE_contains Y bm hbm) (I1.kIn _ _ hC) (PySem.W.looks_findIn I1.kIn iC) (fun self => PySem.W.bind_fn I1.kIn self tI) hus
    (codeAny_mono (F1.run _ X.stack _ _ ⟨Value.ref (hp.objs.size + 1) :: us, []⟩ (Value.ref (hp.objs.size + 1) :: us) _ _ (fun _ _ _ => False) (hr.make C us []) (by simpa [Around.under, Code.guards, Code.isGuard, guardIds, pushGuards] using hgu) (I2.env0.make C us []) b2 r2 hq) fun r s' hq' => ?_))
  cases r with
  | error er => obtain ⟨_, _, _, _, _, _, _, _, _, _, _, _, z⟩ := hq'; exact z.elim
  | ok fl =>
    cases fl with
    | ret u =>
      obtain ⟨v, H2, os2, bare2, un2, hok2, rv, ev, d, fs, ea, ed, hd1, q2⟩ := hq'
      subst ev
      obtain ⟨h2, g2, d2, t2, os'⟩ := s'
      obtain ⟨t0, G, J, kG, ge, hoe, na⟩ := mk_end0 (d2 := d2) (t2 := t2) I1 hsz kk un2 hok2 os2 bare2 ea ed hd1
      exact ⟨rv, hp.objs.size + 1, _, _, ⟨G, g2, d2, t2, os'⟩, _, .ref C, some d, rfl, J, kG, ge, hoe, ⟨rfl, rfl, fun vs hv => by cases hv; rfl⟩, rfl, rfl, na, rfl, bare2, raises_own T.exC T.tyC, q2⟩
    | next => exact False.elim hq'
    | brk => exact False.elim hq'
    | cont => exact False.elim hq'
end
theorem rpF_app {K : PySem.W.Frag} {mg : Str → Option Value} {F : Hp} : ∀ {fs gs : List (Str × D)} {xs ys : List (Str × V)}, RpF K mg F fs xs → RpF K mg F gs ys → RpF K mg F (fs ++ gs) (xs ++ ys)
  | [], gs, xs, ys, h1, h2 => by
    rw [rf_nil] at h1
    subst h1
    exact h2
  | (f, d) :: fs, gs, xs, ys, h1, h2 => by
    rw [rf_cons] at h1
    obtain ⟨v, zs, rfl, r, h3⟩ := h1
    rw [List.cons_append, List.cons_append, rf_cons]
    exact ⟨v, _, rfl, r, rpF_app h3 h2⟩
theorem rpF_zip {K : PySem.W.Frag} {mg : Str → Option Value} {F : Hp} : ∀ (ns : List Str) {ds : List D} {vs : List V}, RpL K mg F ds vs → RpF K mg F (ns.zip ds).reverse (ns.zip vs).reverse
  | [], ds, vs, _ => by simp [rf_nil]
  | n :: ns, [], vs, h => by
    rw [rl_nil] at h
    subst h
    simp [rf_nil]
  | n :: ns, d :: ds, vs, h => by
    rw [rl_cons] at h
    obtain ⟨v, ws, rfl, r, h2⟩ := h
    rw [List.zip_cons_cons, List.zip_cons_cons, List.reverse_cons, List.reverse_cons]
    exact rpF_app (rpF_zip ns h2) (by rw [rf_cons]; exact ⟨v, [], rfl, r, by rw [rf_nil]⟩)
def sRaiseX (x : Str) (ns : List Str) (ms : M (List D)) : M Fl := bnd ms fun ds => fun e => if ds.length = ns.length then .exc ⟨x, (ns.zip ds).reverse⟩ e else .bad
structure RaiX (P : Program) (w : World) (K : PySem.W.Frag) (mg : Str → Option Value) (base : Heap) (k : Nat) (x : Str) (ns : List Str) : Prop where
  ex : ∃ C fI fd ps sp, mg x = some (.ref C) ∧ OexC K C ∧ PySem.W.findIn K (.ref C) "__init__" = some (some (.ref fI)) ∧ PySem.W.typeIn K (.ref fI) = some (.type "function") ∧ FnG P w K mg base k fI fd ps sp ∧ XIni C ns sp ∧ Binds K fd ps []
section
variable {X : Cx} {T : Pn} {W : WX} {pos : Pos}
theorem js_raiseX {x : Str} {ns : List Str} {k j : Nat} {a : Expr} {es : List Expr} {ms : M (List D)} {p pos' : Pos} (hc : X.calm = true) (R : RaiX X.prog X.w X.K X.mg X.base k x ns) (hp : Pl X j) (tk : L2N.Takes X W) (hg : Gl X x) (ha : JL X T W (a :: es) ms) (hk : k + 1 ≤ j := by decide) (hns : ns.length ≤ 1000 := by decide)
    (hdb : (x == ("__debug__" : Str)) = false := by decide) (he : starEach (a :: es) X.env = (false, eval a X.env) :: starEach es X.env := by rfl) (hpl : (backTo pos' (starEach es X.env)).any (·.1) = false := by rfl) :
    JS X T W (.Raise (some (.Call (.Name x p) (a :: es) [] pos')) none pos) (sRaiseX x ns ms) := by
  obtain ⟨C, fI, fd, ps, sp, hm, T1, iC, tI, F1, hI, hb⟩ := R.ex
  refine PSimp (L2N.ps_raise hc tk (pmk_x T1 iC tI F1 hI (hp.room.mono hk) hp.gu hb hg hm ha.ja hdb he hpl)) fun Dn σ H ⟨e, F, er, h⟩ => ?_
  refine ⟨e, F, er, h.bind.mono fun ds e1 H1 F1 er1 mv1 h1 vs hvs => ?_⟩
  unfold RunS at h1
  by_cases hl : ds.length = ns.length
  · simp only [if_pos hl] at h1
    have hlv : vs.length = ns.length := by rw [← hvs.len]; exact hl
    refine ⟨by rw [hlv]; exact hns, hlv, fun d hd => ?_⟩
    have al : Al H1 F1 (upd H1 d (.xd (ns.zip vs).reverse)) (upd F1 d (.xd (ns.zip vs).reverse)) := Al.one hd
    refine h1 σ _ _ (.ref C) (some d) (er1.al al) (Mv.al er1 al) ⟨hm, .inr ⟨d, _, rfl, upd_same, RpF.mono (al.same er1.sub).1 _ _ (rpF_zip ns hvs)⟩⟩
  · simp only [if_neg hl] at h1
end
section
variable {X : Cx} {T : Pn} {W : WX} {pos : Pos}
theorem jv_xfS {a : Addr} {pa : Pa} {oe : Obj} {cls : Value} {d : Option Addr} {pn : List (Addr × Obj)} {ex : Ex} {i : Nat} {n f : Str} {p1 : Pos} {l : List Str} (hi : XfE X.K X.mg f l) (hz : L2N.Zn cls d oe) (hfs : ∃ vs, oe.data = .fields vs) (hm : X.mg ex.c = some cls) (hd0 : PaX pa a d ex)
    (hN : X.N[i]? = some n) (hv : Vis X.env.scope n) (hdn : (n == ("__debug__" : Str)) = false := by decide) (hcd : (n == ("__classdict__" : Str)) = false := by decide)
    (hb : attributeBase (.Name n p1) f X.env (eval (.Name n p1) X.env) = eval (.Name n p1) X.env := by rfl) :
    JV (X.suite a ((a, oe) :: pn)) ((i, pa) :: T) W (.Attribute (.Name n p1) f pos) (mXf l f ex) :=
  jv_xf (X := X.suite a ((a, oe) :: pn)) hi hz hfs List.mem_cons_self hm hd0 hN hv hdn hcd hb
end
theorem oexB_ok {K : PySem.W.Frag} {C : Addr} (h : oexB K C = true) : OexC K C := by
  unfold oexB at h
  rw [Bool.and_eq_true, Bool.and_eq_true, Bool.and_eq_true, Bool.and_eq_true, decide_eq_true_eq, decide_eq_true_eq, decide_eq_true_eq] at h
  obtain ⟨q, h1, h2, h3, h4⟩ := h
  refine ⟨?_, h1, h2, h3, h4⟩
  split at q
  · rename_i dd cd sl ho
    split at q
    · rename_i C' bm k0 k1 k2 k3 n k5 hm hs
      simp only [Bool.and_eq_true, beq_iff_eq, Bool.not_eq_true'] at q
      obtain ⟨⟨⟨⟨rfl, rfl⟩, hdel⟩, hdc⟩, ht⟩ := q
      obtain ⟨nm, bs, mro, ns, qn, hd, sn, sub, ab, col, del⟩ := cd
      dsimp only at hm hdel hdc
      subst hm hdel hdc
      have hsl : sl = #[k0, k1, k2, k3, some (.builtin "ValueError.__new__"), k5] := by
        obtain ⟨l⟩ := sl
        simp only at hs
        rw [hs]
      subst hsl
      exact ⟨nm, qn, ns, bs, bm, sn, sub, ab, col, dd, k0, k1, k2, k3, k5, ho, ht⟩
    · cases q
  · cases q
structure XcF (K : PySem.W.Frag) (x : Str) (ns : List Str) : Prop where
  o : OexC K (He.ga K x)
  i : PySem.W.findIn K (.ref (He.ga K x)) "__init__" = some (some (.ref (He.ma K (He.ga K x) "__init__")))
  t : PySem.W.typeIn K (.ref (He.ma K (He.ga K x) "__init__")) = some (.type "function")
  f : XfC K (He.ga K x)
  n : ∀ f ∈ ns, PySem.W.findIn K (.ref (He.ga K x)) f = some none
theorem xcB_ok {K : PySem.W.Frag} {x : Str} {ns : List Str} (h : xcB K x ns = true) : XcF K x ns := by
  unfold xcB at h
  rw [Bool.and_eq_true, Bool.and_eq_true, Bool.and_eq_true, Bool.and_eq_true, decide_eq_true_eq, decide_eq_true_eq, List.all_eq_true] at h
  exact ⟨oexB_ok h.1, h.2.1, h.2.2.1, xfB_ok h.2.2.2.1, fun f hf => of_decide_eq_true (h.2.2.2.2 f hf)⟩
theorem xfE_of {K : PySem.W.Frag} {mg : Str → Option Value} {x f : Str} {ns : List Str} (h : XcF K x ns) (hm : mg x = some (.ref (He.ga K x))) (hf : f ∈ ns) : XfE K mg f [x] := fun c hc => by
  rw [List.mem_singleton] at hc
  subst hc
  exact ⟨_, hm, h.f, h.n f hf⟩
end Sr
namespace Sr
variable [TabL]
open PySem hiding start
open PySem.Spec L2
open PyProof.Rows hiding St
section
variable {P : Program} {w : World} {H : Hp} {h : Heap} {a b : Addr}
def addX (xs : List (NKy × Addr × V)) (k : NKy) (b : Addr) (v : V) : List (NKy × Addr × V) :=
  if (xs.any fun x => decide (x.1 = k)) = true then xs.map (fun x => if x.1 = k then (x.1, x.2.1, v) else x) else xs ++ [(k, b, v)]
end
section
variable {K : PySem.W.Frag} {mg : Str → Option Value} {F : Hp}
theorem RpN.put {k : NKy} {d : D} {b : Addr} {v : V} (hb : PkAt F k b) (hv : Rp K mg F d v) {ds : List (NKy × D)} {xs : List (NKy × Addr × V)} (h : RpN K mg F ds xs) : RpN K mg F (putG ds k d) (addX xs k b v) := by
  unfold putG addX
  rw [RpN.any h]
  split
  · exact RpN.map hv h
  · exact RpN.snoc hb hv h
end
end Sr
namespace Sr
variable [TabL]
open PySem hiding start
open PySem.Spec L2
open PyProof.Rows hiding St
def lfAdd : Kd → Bool
  | .int => true
  | .bool => true
  | _ => false
structure NumX (K : PySem.W.Frag) (C : Addr) : Prop where
  sf : PySem.W.selfFirst K C = true
  s1 : ∀ n : Kd, PySem.W.subIn K (.type n.nm) (.ref C) = some false
  s2 : ∀ n : Kd, PySem.W.subIn K (.ref C) (.type n.nm) = some false
theorem mem_kd (n : Kd) : n ∈ kdX := by cases n <;> decide
theorem numXB_ok {K : PySem.W.Frag} {c : Str} (h : numXB K c = true) : NumX K (He.ga K c) := by
  unfold numXB at h
  rw [Bool.and_eq_true, List.all_eq_true] at h
  refine ⟨h.1, fun n => ?_, fun n => ?_⟩
  · have := h.2 n (mem_kd n)
    rw [Bool.and_eq_true, decide_eq_true_eq] at this
    exact this.1
  · have := h.2 n (mem_kd n)
    rw [Bool.and_eq_true, decide_eq_true_eq, decide_eq_true_eq] at this
    exact this.2
theorem bool_add_obj (a : Bool) (x C dx : Addr) : Meets (Builtin.«int.__add__» ⟨[.bool a, .ref x], []⟩) (fun _ R s => s.heap.get? x = some (PySem.W.instObj C dx) ∧ R (.ok (.ret Value.notImplemented)) s) :=
  .of_wp fun prog w A R s h => by obtain ⟨hp, g, d, tk, os⟩ := s; obtain ⟨hl, h⟩ := h; unfold PySem.W.instObj at hl; wp_walk; exact ⟨_, rfl, h⟩
section
open PySem.W
variable {prog : Program} {w : World} {A : Around} {E : Value → Shared → Prop} {s : Shared} {K : Frag} {x C L f fr dx : Addr} {h₀ : Heap} {m : Str → Option Value} {ox : Obj} {od : Option Obj} {T : String}
theorem binX_K {op : Operator} {b : Value} {fo ro rc : Option Value} {Q : Value → Shared → Prop} (F : PyProof.Rows.Fr h₀ L s.heap m) (X₀ : K.In h₀) (I : InstAt s.heap x ox C od) (L2 : Looks (model prog w) s.heap (typeOf b) (.type T)) (hc : selfFirst K C = true)
    (hs : findIn K (.ref C) (PySem.dunder op.info.2) = some (some (.ref f))) (hf : isFn K (.ref f) = true) (hr : findIn K (.ref C) (dunderR op.info.2) = some rc) (hp : rc = none ∨ ∃ g : Addr, rc = some (.ref g))
    (h1 : findIn K (.type T) (PySem.dunder op.info.2) = some fo) (h2 : findIn K (.type T) (dunderR op.info.2) = some ro) (hsub : subIn K (.type T) (.ref C) = some false)
    (h : wpAny (model prog w) A (call (.ref f) [.ref x, b]) (PySem.W.CmpBack Q) E s) : wpAny (model prog w) A (binaryOp op (.ref x) b) Q E s := by
  have X := X₀.keeps F.keep
  obtain ⟨cd, rest, hcd, hm⟩ := ksp_first hc
  rcases hi : op.info with ⟨sym, nm'⟩
  rw [hi] at hs hr h1 h2
  dsimp only at hs hr h1 h2
  have one := ksp_try X I hs hf h
  have L1 : Looks (model prog w) s.heap (typeOf (.ref x)) (.ref C) := I.type
  have L3 : Looks (model prog w) s.heap (fillsNumberSlot (.ref C) nm') true := fills_K X hcd hm hs
  have L4 : Looks (model prog w) s.heap (fillsNumberSlot (.type T) nm') ((fo.isSome && !isSeqSlot fo) || (ro.isSome && !isSeqSlot ro)) := ksp_fillsT X h1 h2
  have L5 : Looks (model prog w) s.heap (isSubtype (.type T) (.ref C)) false := looks_subIn X hsub
  have L6 : Looks (model prog w) s.heap (numberSlotInPython (.ref C) nm') true := ksp_inPy X hs hr hp
  have L7 : Looks (model prog w) s.heap (numberSlotInPython (.type T) nm') false := Looks.of_pure rfl
  have L8 : Looks (model prog w) s.heap (typeLookup (.type T) (dunderR nm')) ro := looks_findIn X h2
  obtain ⟨hh, g, d, tt, os⟩ := s
  generalize ((fo.isSome && !isSeqSlot fo) || (ro.isSome && !isSeqSlot ro)) = right at L4
  have hne : (Value.ref C == Value.type T) = false := Bool.eq_false_iff.mpr fun q => by cases beq_iff_eq.mp q
  simp only [binaryOp, hi]
  refine wpAny_holding (wpAny_bind ?_)
  unfold binaryOp1
  refine wpAny_bind (L1.at (wpAny_bind (L2.at (wpAny_bind (L3.at ?_)))))
  simp only [hne, Bool.false_eq_true, if_false]
  cases right with
  | false =>
    ksp_lk
    refine wpAny_mono one (fun r s' hr' => ?_) fun _ _ e => e
    obtain ⟨v, rfl, hq⟩ := hr'
    ksp_lk
    exact hq
  | true =>
    ksp_lk
    refine wpAny_mono one (fun r s' hr' => ?_) fun _ _ e => e
    obtain ⟨v, rfl, hq⟩ := hr'
    ksp_lk
    exact hq
theorem fills_kd (n : Kd) {M : Model} {h : Heap} (Y : K.In h) : Looks M h (fillsNumberSlot (.type n.nm) "add") (lfAdd n) := by
  have er : (dunderR "add") = ("__radd__" : Str) := by decide
  have ea : (PySem.dunder "add") = ("__add__" : Str) := by decide
  have q : ∃ fo ro, PySem.fastLookup n.nm "__add__" = some fo ∧ PySem.fastLookup n.nm "__radd__" = some ro ∧ ((fo.isSome && !isSeqSlot fo) || (ro.isSome && !isSeqSlot ro)) = lfAdd n := by
    have z : (match PySem.fastLookup n.nm "__add__", PySem.fastLookup n.nm "__radd__" with
      | some fo, some ro => decide (((fo.isSome && !isSeqSlot fo) || (ro.isSome && !isSeqSlot ro)) = lfAdd n)
      | _, _ => false) = true := by cases n <;> decide +kernel
    split at z
    · rename_i fo ro h1 h2
      exact ⟨fo, ro, h1, h2, of_decide_eq_true z⟩
    · cases z
  obtain ⟨fo, ro, h1, h2, h3⟩ := q
  rw [← h3]
  rw [← ea] at h1
  rw [← er] at h2
  exact ksp_fillsT Y h1 h2
theorem decl_int {i : Int} {t : Tok} {Q' : Option Value → Shared → Prop} (hg : s.heap.get? x = some (instObj C dx)) (hq : Q' none s) : wpAny (model prog w) A (tryMethod (.int i t) (PySem.dunder "add") (.ref x)) Q' E s := by
  have ht : s.TypeIs (.int i t) "int" := rfl
  have a1 := F.slot_int_add
  refine (@wpAny_tryMethod_declines (model prog w) A E s (.int i t) (.ref x) "int" (PySem.dunder "add") "int.__add__" Q' ht a1) ?_
  exact call_meets a1 ht F.entry_int_add (F.args_int_add_2 _ _) (int_add_obj i t x C dx) ⟨hg, rfl, hq⟩
theorem decl_bool {i : Bool} {Q' : Option Value → Shared → Prop} (hg : s.heap.get? x = some (instObj C dx)) (hq : Q' none s) : wpAny (model prog w) A (tryMethod (.bool i) (PySem.dunder "add") (.ref x)) Q' E s := by
  have ht : s.TypeIs (.bool i) "bool" := rfl
  have a1 := F.slot_bool_add
  refine (@wpAny_tryMethod_declines (model prog w) A E s (.bool i) (.ref x) "bool" (PySem.dunder "add") "int.__add__" Q' ht a1) ?_
  exact call_meets a1 ht F.entry_int_add (F.args_int_add_2 _ _) (bool_add_obj i x C dx) ⟨hg, rfl, hq⟩
theorem raddX_K {b : Value} {lf : Bool} {Q : Value → Shared → Prop} (Fx : PyProof.Rows.Fr h₀ L s.heap m) (X₀ : K.In h₀) (I : PySem.W.InstAt s.heap x (instObj C dx) C od) (L2 : Looks (model prog w) s.heap (typeOf b) (.type T)) (hc : selfFirst K C = true)
    (hs : findIn K (.ref C) "__add__" = some (some (.ref f))) (hr : findIn K (.ref C) "__radd__" = some (some (.ref fr))) (hf : isFn K (.ref fr) = true) (hsub : subIn K (.ref C) (.type T) = some false)
    (L4 : Looks (model prog w) s.heap (fillsNumberSlot (.type T) "add") lf)
    (decl : lf = true → ∀ (Q' : Option Value → Shared → Prop), Q' none s → wpAny (model prog w) A (tryMethod b (PySem.dunder "add") (.ref x)) Q' E s)
    (h : wpAny (model prog w) A (call (.ref fr) [.ref x, b]) (PySem.W.CmpBack Q) E s) : wpAny (model prog w) A (binaryOp .Add b (.ref x)) Q E s := by
  have X := X₀.keeps Fx.keep
  obtain ⟨cd, rest, hcd, hm⟩ := ksp_first hc
  have er : (dunderR "add") = ("__radd__" : Str) := by decide
  have ea : (PySem.dunder "add") = ("__add__" : Str) := by decide
  rw [← er] at hr
  rw [← ea] at hs
  have one := ksp_try X I hr hf h
  have L1 : Looks (model prog w) s.heap (typeOf (.ref x)) (.ref C) := I.type
  have L3 : Looks (model prog w) s.heap (fillsNumberSlot (.ref C) "add") true := fills_K X hcd hm hs
  have L5 : Looks (model prog w) s.heap (isSubtype (.ref C) (.type T)) false := looks_subIn X hsub
  have hne : (Value.type T == Value.ref C) = false := Bool.eq_false_iff.mpr fun q => by cases beq_iff_eq.mp q
  have hns : numberSlotInPython (.type T) "add" = pure false := rfl
  simp only [binaryOp, Operator.info]
  refine wpAny_holding (wpAny_bind ?_)
  unfold binaryOp1
  refine wpAny_bind (L2.here (wpAny_bind (L1.here (wpAny_bind (L4.here ?_)))))
  simp only [hne, Bool.false_eq_true, if_false]
  refine wpAny_bind (L3.here ?_)
  cases lf with
  | true =>
    simp only [Bool.and_self, if_true]
    refine wpAny_bind (L5.here ?_)
    simp only [Bool.false_eq_true, if_false, Bool.not_false, Bool.and_self, if_true, Bool.true_and]
    rw [hns, pure_bind]
    simp only [Bool.false_eq_true, if_false]
    refine wpAny_bind (decl rfl _ ?_)
    dsimp only
    refine wpAny_bind (wpAny_mono one (fun r s' hr' => ?_) fun _ _ e => e)
    obtain ⟨v, rfl, hq⟩ := hr'
    refine wpAny_bind (wpAny_rule (wpAny_pure ?_))
    exact wpAny_pure hq
  | false =>
    simp only [Bool.false_and, Bool.false_eq_true, if_false, Bool.not_false, Bool.and_self, if_true, Bool.true_and, pure_bind, bind_assoc]
    refine wpAny_bind (wpAny_mono one (fun r s' hr' => ?_) fun _ _ e => e)
    obtain ⟨v, rfl, hq⟩ := hr'
    refine wpAny_bind (wpAny_rule (wpAny_pure ?_))
    exact wpAny_pure hq
end
def isP (d : D) : Option Unit := match dKind d with
  | some (.inl _) => some ()
  | _ => none
def isP2 (c : Str) (d1 d2 : D) : Option Unit := (isI c d1).bind fun _ => isP d2
def isPr (c : Str) (d1 d2 : D) : Option Unit := (isP d1).bind fun _ => isI c d2
def mBinX (c : Str) (f : Fnc) (ma mb : M D) : M D := bnd ma fun d1 => bnd mb fun d2 => bnd (opt (isP2 c d1 d2)) fun _ => ap0 f [d1, d2]
def mRadX (c : Str) (f : Fnc) (ma mb : M D) : M D := bnd ma fun d1 => bnd mb fun d2 => bnd (opt (isPr c d1 d2)) fun _ => ap0 f [d2, d1]
theorem isP_ok {K : PySem.W.Frag} {mg : Str → Option Value} {F H : Hp} {d : D} {x : V} {u : Unit} (s : Same F H) (hx : Rp K mg F d x) (h : isP d = some u) : ∃ n : Kd, dKind d = some (.inl n) ∧ TyX K H x (.type n.nm) := by
  unfold isP at h
  split at h
  · rename_i n hn
    exact ⟨n, hn, tyx_ok s hx hn⟩
  · cases h
section
variable {X : Cx} {T : Pn} {W : WX} {pos p : Pos} {a b : Expr} {ma mb : M D} {c : Str} {C : Addr} {k j : Nat} {ps : List Str} {f : Fnc}
structure OpX (op : Operator) (dn rn : Str) : Prop where
  d : PySem.dunder op.info.2 = dn
  r : dunderR op.info.2 = rn
  h1 : ∀ n : Kd, ∃ fo, PySem.fastLookup n.nm dn = some fo
  h2 : ∀ n : Kd, ∃ ro, PySem.fastLookup n.nm rn = some ro
theorem jv_binX {op : Operator} {dn rn : Str} (O : OwnM X k c C dn 2 ps f) (hr : isR (PySem.W.findIn X.K (.ref C) rn) = true) (N : NumX X.K C) (hp : Pl X j) (tk : L2N.Takes X W) (ho : OpX op dn rn) (ha : JV X T W a ma) (hb : JV X T W b mb) (hj : k ≤ j := by decide) : JV X T W (.BinOp a op b pos) (mBinX c f ma mb) := by
  obtain ⟨fa, fd, h1, h2, h3, h4⟩ := O.ex
  rw [← ho.d] at h1
  refine PEimp (pe_opW (r := fun σ x y H Q => ∃ a dx fs, ∃ n : Kd, x = .ref a ∧ H a = some (.ins C dx fs) ∧ TyX X.K H y (.type n.nm) ∧ spF0 X.K X.mg false 2 f [x, y] H Q (WE W σ)) ?_ ha hb) fun σ H Q ⟨e, F, er, h⟩ => ⟨e, F, er, h.bind.mono fun d1 e1 H1 F1 er1 mv1 g1 x hx => ⟨e1, F1, er1, g1.bind.mono fun d2 e2 H2 F2 er2 mv2 g2 y hy => ?_⟩⟩
  · intro pins s σ H x y v u Q I rx ry ⟨a, dx, fs, n, ex, ea, ty, q⟩
    subst ex
    obtain rfl : v = Value.ref a := rx
    obtain ⟨mA, J, _⟩ := ins_get I.hok ea
    obtain ⟨od, J, _⟩ := J.look
    obtain ⟨P, kx, hP, _⟩ := kit_of I ry ty
    obtain ⟨m, hF⟩ := I.fr
    have r2 : Vals [V.ref a, y] [Value.ref a, u] := .cons (show RelV (V.ref a) (Value.ref a) from rfl) (.cons ry .nil)
    obtain ⟨fo, hi1⟩ := ho.h1 n
    obtain ⟨ro, hi2⟩ := ho.h2 n
    rw [← ho.d] at hi1
    rw [← ho.r] at hi2
    obtain ⟨rc, hrc, hpp⟩ : ∃ rc, PySem.W.findIn X.K (.ref C) (dunderR op.info.2) = some rc ∧ (rc = none ∨ ∃ g : Addr, rc = some (.ref g)) := by
      rw [ho.r]
      revert hr
      cases PySem.W.findIn X.K (.ref C) rn with
      | none => intro h; cases h
      | some o =>
        intro h
        refine ⟨o, rfl, ?_⟩
        cases o with
        | none => exact .inl rfl
        | some v => cases v <;> first | exact .inr ⟨_, rfl⟩ | cases h
    exact binX_K hF I.ok.mod.kin J (kx.ty _ _ I.kIn hP) N.sf h1 h2 hrc hpp hi1 hi2 (N.s1 n) (back_of (run_g (W := W) (dvs := []) (ds := []) h3 (hp.room.mono hj) hp.gu h4 .nil tk I r2 q))
  · have hx := Rp.mono mv2.sub _ _ hx
    obtain ⟨u, hu, fin⟩ := g2.bind.fin er2
    have g3 := fin H2 F2 Al.refl
    unfold isP2 at hu
    rw [Option.bind_eq_some_iff] at hu
    obtain ⟨u1, hu1, hu2⟩ := hu
    obtain ⟨a, dx, fs, rfl, ea⟩ := isI_ok O.cl.mg er2.sub hx hu1
    obtain ⟨n, _, ty⟩ := isP_ok er2.sub hy hu2
    exact ⟨a, dx, fs, n, rfl, ea, ty, ap0_v g3 er2 (by rw [rl_cons]; exact ⟨_, _, rfl, hx, by rw [rl_cons]; exact ⟨_, _, rfl, hy, by rw [rl_nil]⟩⟩) rfl⟩
theorem jv_raddX (O : OwnM X k c C "__radd__" 2 ps f) (hg : isRs (PySem.W.findIn X.K (.ref C) "__add__") = true) (N : NumX X.K C) (hp : Pl X j) (tk : L2N.Takes X W) (ha : JV X T W a ma) (hb : JV X T W b mb) (hj : k ≤ j := by decide) : JV X T W (.BinOp a .Add b pos) (mRadX c f ma mb) := by
  obtain ⟨fa, fd, h1, h2, h3, h4⟩ := O.ex
  obtain ⟨g, hg⟩ : ∃ g, PySem.W.findIn X.K (.ref C) "__add__" = some (some (.ref g)) := by
    revert hg
    cases PySem.W.findIn X.K (.ref C) "__add__" with
    | none => intro h; cases h
    | some o =>
      intro h
      cases o with
      | none => cases h
      | some v => cases v <;> first | exact ⟨_, rfl⟩ | cases h
  refine PEimp (pe_opW (r := fun σ x y H Q => ∃ a dx fs, ∃ n : Kd, y = .ref a ∧ H a = some (.ins C dx fs) ∧ TyX X.K H x (.type n.nm) ∧ (lfAdd n = true → (∃ i, x = .int i) ∨ ∃ z, x = .bl z) ∧ (∀ i, x = .int i → n = .int) ∧ (∀ z, x = .bl z → n = .bool) ∧ spF0 X.K X.mg false 2 f [y, x] H Q (WE W σ)) ?_ ha hb) fun σ H Q ⟨e, F, er, h⟩ => ⟨e, F, er, h.bind.mono fun d1 e1 H1 F1 er1 mv1 g1 x hx => ⟨e1, F1, er1, g1.bind.mono fun d2 e2 H2 F2 er2 mv2 g2 y hy => ?_⟩⟩
  · intro pins s σ H x y v u Q I rx ry ⟨a, dx, fs, n, ey, ea, ty, lf, li, lb, q⟩
    subst ey
    obtain rfl : u = Value.ref a := ry
    obtain ⟨P, kx, hP, _⟩ := kit_of I rx ty
    have r2 : Vals [V.ref a, x] [Value.ref a, v] := .cons (show RelV (V.ref a) (Value.ref a) from rfl) (.cons rx .nil)
    obtain ⟨mA, J, _⟩ := ins_get I.hok ea
    obtain ⟨od, J, _⟩ := J.look
    obtain ⟨m, hF⟩ := I.fr
    refine raddX_K hF I.ok.mod.kin J (kx.ty _ _ I.kIn hP) N.sf hg h1 h2 (N.s2 n) (fills_kd n I.kIn) ?_ (back_of (run_g (W := W) (dvs := []) (ds := []) h3 (hp.room.mono hj) hp.gu h4 .nil tk I r2 q))
    intro hl Q' hq
    rcases lf hl with ⟨i, rfl⟩ | ⟨z, rfl⟩
    · obtain ⟨t, rfl⟩ := rx
      exact decl_int J.at_ hq
    · cases (show v = Value.bool z from rx)
      exact decl_bool J.at_ hq
  · have hx := Rp.mono mv2.sub _ _ hx
    obtain ⟨u, hu, fin⟩ := g2.bind.fin er2
    have g3 := fin H2 F2 Al.refl
    unfold isPr at hu
    rw [Option.bind_eq_some_iff] at hu
    obtain ⟨u1, hu1, hu2⟩ := hu
    obtain ⟨a, dx, fs, rfl, ea⟩ := isI_ok O.cl.mg er2.sub hy hu2
    obtain ⟨n, hn, ty⟩ := isP_ok er2.sub hx hu1
    refine ⟨a, dx, fs, n, rfl, ea, ty, fun hl => ?_, fun i e => ?_, fun z e => ?_, ap0_v g3 er2 (by rw [rl_cons]; exact ⟨_, _, rfl, hy, by rw [rl_cons]; exact ⟨_, _, rfl, hx, by rw [rl_nil]⟩⟩) rfl⟩
    · cases d1 <;> simp only [dKind, Option.some.injEq, Sum.inl.injEq, reduceCtorEq] at hn <;> subst hn <;> first | (cases hl; done) | skip
      · exact .inr ⟨_, by simpa [Rp] using hx⟩
      · exact .inl ⟨_, by simpa [Rp] using hx⟩
    · subst e
      generalize hq : n.nm = q at ty
      cases ty with
      | base t => cases t; cases n <;> first | rfl | (exact absurd hq (by decide))
    · subst e
      generalize hq : n.nm = q at ty
      cases ty with
      | base t => cases t; cases n <;> first | rfl | (exact absurd hq (by decide))
theorem some_of {α : Type _} {o : Option α} (h : o.isSome = true) : ∃ x, o = some x := Option.isSome_iff_exists.1 h
theorem opx_and : OpX .BitAnd "__and__" "__rand__" := ⟨by decide, by decide, fun n => some_of (by cases n <;> decide +kernel), fun n => some_of (by cases n <;> decide +kernel)⟩
theorem opx_or : OpX .BitOr "__or__" "__ror__" := ⟨by decide, by decide, fun n => some_of (by cases n <;> decide +kernel), fun n => some_of (by cases n <;> decide +kernel)⟩
theorem opx_add : OpX .Add "__add__" "__radd__" := ⟨by decide, by decide, fun n => some_of (by cases n <;> decide +kernel), fun n => some_of (by cases n <;> decide +kernel)⟩
end
end Sr
namespace Sr
variable [TabL]
open PySem hiding start
open PySem.Spec L2
open PyProof.Rows hiding St
open LamX
def mTryL (ct : Str → Option Bool) (su : Ex → M Fl) (m : M D) : M D := fun e => match m e with
  | .ok d e1 => .ok d e1
  | .exc x e1 => (match ct x.c with
    | some true => (match su x [.no, .no] with
      | .ok (.rt d) _ => .ok d e1
      | _ => .bad)
    | _ => .bad)
  | .bad => .bad
theorem lenO_t {X X' : Cx} {T : Pn} {W : WX} {k : Nat} {c : Str} {C : Addr} {ps : List Str} {f : Fnc} {ma : M D} {σ : L2.St} {H : Hp} {Q : VK} (O : OwnM X k c C "__len__" 1 ps f) (h : TV X.K X.mg T W (mLenO c f ma) σ H Q) :
    TV X.K X.mg T W ma σ H fun v H1 => rLenO X' C (spF0 X.K X.mg false 1 f) [v] H1 Q := by
  obtain ⟨e, F, er, h⟩ := h
  refine ⟨e, F, er, h.bind.mono fun d e1 H1 F1 er1 mv1 g1 x hx => ?_⟩
  cases d with
  | obj c' fs =>
    dsimp only at g1
    by_cases hc : c' = c
    · rw [if_pos hc] at g1
      subst hc
      cases q : f .non [.obj c' fs] with
      | ok z o =>
        cases z with
        | int z =>
          by_cases hz : 0 ≤ z ∧ z < 2 ^ 63
          · have hrun : RunAt X.K X.mg T W0 e1 F1 (ap0 f [.obj c' fs]) σ H1 (fun d _ H' F' => ∀ v, Rp X.K X.mg F' d v → ∃ b : Int, v = .int b ∧ (0 ≤ b ∧ b < 2 ^ 63) ∧ Q (.int b) H') := by
              refine RunAt.of (x := .int z) (e1 := e1) (by unfold ap0; rw [q]) fun H' F' er' mv' v hv => ?_
              unfold RunAt at g1
              simp only [q, if_pos hz] at g1
              rw [rp_int] at hv
              exact ⟨z, hv, hz, g1 H' F' er' mv' _ (by rw [rp_int])⟩
            have hx2 := hx
            rw [rp_obj] at hx2
            obtain ⟨a', C', dx, gs, rfl, m1, m2, _⟩ := hx2
            rw [O.cl.mg] at m1; cases m1
            exact ⟨a', dx, gs, rfl, er1.sub _ _ m2, ap0_v hrun er1 (by rw [rl_cons]; exact ⟨_, _, rfl, hx, by rw [rl_nil]⟩) rfl⟩
          · unfold RunAt at g1; simp only [q, if_neg hz] at g1
        | _ => unfold RunAt at g1; simp only [q] at g1
      | exc x o => unfold RunAt at g1; simp only [q] at g1
      | bad => unfold RunAt at g1; simp only [q] at g1
    · rw [if_neg hc] at g1; exact g1.elim
  | _ => exact g1.elim
section
variable {X : Cx} {T : Pn} {W : WX} {x a en ec : Str} {pg : Arguments} {bg : List Stmt} {sg : Scope} {k kl kk : Nat} {CS fa : Addr} {ct : Str → Option Bool} {mE : M D} {params : Arguments} {body : Expr} {scope : Scope}
  {p pos lpos p0 p1 p2 p4 q1 q2 q5 q6 : Pos} {c : Str} {C : Addr} {psl : List Str} {fl : Fnc} {b₀ : Stmt} {suite : List Stmt} {su : Ex → M Fl}
theorem jv_large (hp : Pl X k) (hS : TxtC X.K X.mg x [a] pg bg sg) (Sg : FnScope [a, en] [a] sg) (O : OwnM X kk c C "__len__" 1 psl fl)
    (hbg : bg = [.Try [.Return (some (.Call (.Name "len" p0) [.Call (.Name a p1) [] [] p2] [] q1)) q2] [.ExceptHandler (some (.Name ec p4)) (some en) (b₀ :: suite) q5] [] [] q6])
    (hge : sg.names.lookup ec = some .globalImplicit) (hgk : sg.names.lookup ("len" : Str) = some .globalImplicit) (hla : sg.names.lookup a = some .local) (hln : sg.names.lookup en = some .local)
    (hme : X.mg ec = some (.ref CS)) (hml : X.mg "len" = none) (hvl : bootBuiltins "len" = some (.builtin "len")) (hct : Cat X.K X.mg (.ref CS) ct)
    (hL : LamOk X.K X.mg X.base fa (X.env.qual ++ "<lambda>")) (hcode : X.env.code = .ref (cTz X.K fa).1) (L : LamS X.env.scope scope) (hdef : defaultsOf params X.env = ([], []))
    (hbind : ∀ (q : Str) (cl : List (Str × Addr)) (pm cv ctv : Value), bindArgs (PySem.W.kla_fn "<lambda>" q params body scope cl pm cv ctv) ⟨[], []⟩ = pure [])
    (hbody : ∀ (A : Around) (outer : List Env) (s : Shared) (H : Hp) (E : XK) (f c' : Addr), Pl (lamN X A outer s H E scope f c') kl → JV (lamN X A outer s H E scope f c') T (WE0 E) body mE)
    (hsu : ∀ (g : Addr) (cd : Value) (A : Around) (outer : List Env) (s : Shared) (H : Hp) (E : XK) (ae : Addr) (pa : Pa) (oe : Obj) (cls : Value) (d : Option Addr) (pn : List (Addr × Obj)) (ex : Ex), L2N.Zn cls d oe → (∃ vs, oe.data = .fields vs) → X.mg ex.c = some cls → PaX pa ae d ex → ct ex.c = some true →
      JSs ((cxOf (L2N.CX X.prog X.w) X.prog X.w X.K X.mg X.base [a, en] x sg g cd A outer s H E).suite ae ((ae, oe) :: pn)) [(1, pa)] W0 (b₀ :: suite) (su ex))
    (hg : Gl X x) (hk1 : kl + 2 ≤ k := by decide) (hk2 : kk + 2 ≤ k := by decide)
    (hdx : (x == ("__debug__" : Str)) = false := by decide) (hda : (a == ("__debug__" : Str)) = false := by decide) (hca : (a == ("__classdict__" : Str)) = false := by decide)
    (hdc : (ec == ("__debug__" : Str)) = false := by decide) :
    JV X T W (.Call (.Name x p) [.Lambda params body scope lpos] [] pos) (mTryL ct su (mLenO c fl mE)) := by
  obtain ⟨gA, fd, G, hm, hkp, hb⟩ := hS
  obtain ⟨oc, od, dV, kV, doc, pm, an, cdv, ctv, osl, rfl, lk, hcd, _, _⟩ := G.ex
  obtain ⟨fa', fd', o1, o2, o3, o4⟩ := O.ex
  refine ⟨fun pins s σ H Q I ⟨e, F, er, h⟩ => ?_⟩
  refine wpAny_Call_Name_kw (ld_glob I hg hm ?_ hdx)
  refine PySem.W.callWith_K (h₀ := X.base) I.ok.mod.kin hkp ?_ (by rfl) (by rfl)
  show wpAny _ _ (spliced ((false, eval (.Lambda params body scope lpos) X.env) :: backTo pos (starEach [] X.env))) _ _ s
  refine Calls.spliced_cons (lam_makeN I hL.tb hcode hL.mem hL.one er.tb.tabs hdef (L.has I.ok) fun f c' pm' ctv' H1 s' I1 eN T1 only hf hfn hfr hco => ?_)
  refine Calls.spliced_nil ⟨I1.kIn, ?_⟩
  obtain ⟨er1, mv1⟩ := er.lam eN T1 fun b ps z => by
    obtain ⟨ps', z'⟩ := only b ps z
    exact er.tb.all b ps' z'
  have rc : codeAny (model X.prog X.w) X.A (.call (.ref gA) ⟨[.ref f], []⟩) (CR (L2N.CX X.prog X.w) X.stack X.prog X.w H1 s' Q (fun _ _ _ => False)) s' := by
    have hr1 : Room (k - 1 + 1) X.A := hp.room.mono (by omega)
    refine LamX.run_ofS (CX := L2N.CX X.prog X.w) (N := [a, en]) (ps := [a]) (us := [.ref f]) (vs := [.ref f]) lk hcd Sg hr1 I1.env0 (hb s' [.ref f] I1.kIn rfl) (.cons rfl .nil) rfl fun hr' => ?_
    rw [hbg]
    refine ⟨_, pss_one (L2N.ps_try_as (X := cxOf (L2N.CX X.prog X.w) X.prog X.w X.K X.mg X.base [a, en] x sg gA cdv X.A X.stack s' H1 (fun _ _ _ => False)) (i := 1) (n := en) (c := .ref CS) (Wout := W0)
      (tb := fun W' D σ' H' => ∃ Ech : XK, (∀ cls d σ'' H'', σ''.length = 2 → Ech cls d H'' → W' cls d σ'' H'') ∧ σ'[0]? = some (some (.ref f)) ∧ H' c' = some (CodeO c' (X.env.qual ++ "<lambda>")) ∧
        TV X.K X.mg T (WE0 Ech) (mLenO c fl mE) σ H' fun v H2 => D.rt v H2)
      (ts := fun ae cls d Dn σ' H' => ∃ (ex : Ex) (pa : Pa), X.mg ex.c = some cls ∧ PaX pa ae d ex ∧ ct ex.c = some true ∧ TSt X.K X.mg [(1, pa)] W0 (su ex) Dn σ' H')
      rfl rfl Sg.nd rfl hln ⟨hge, hdc, .inl hme⟩ takes0 (fun W' pn xe tk _ => ?_) (fun ae oe cls d pn hz hfs => ?_)), ?_⟩
    · refine ⟨fun pins' s2 σ' H' D I2 ⟨Ech, hW, h1, h2, h3⟩ => ?_⟩
      have hact := pe_actN (k := kl) (i := 0) (E := Ech) (tb := TV X.K X.mg T (WE0 Ech) mE) (p1 := p1) (p2 := p2) I1 L hf hfn hfr (hbind _ _ _ _ _) tk hW (hr'.mono (by omega))
        (fun A outer s H hr2 hgu => hbody A outer s H Ech f c' ⟨hr2, hgu.trans hp.gu⟩) rfl (.inl hla) hda hca
      have hcl := pe_callB (X := (cxOf (L2N.CX X.prog X.w) X.prog X.w X.K X.mg X.base [a, en] x sg gA cdv X.A X.stack s' H1 (fun _ _ _ => False)).tr pn xe) (callAny (f := .builtin "len")) (p := p0) (pos := q1) hgk hml hvl (pa_cons hact pa_nil rfl) (by decide) (by decide) rfl rfl
      have ht := pss_one (ps_ret (pos := q2) hcl)
      refine ht.run pins' s2 σ' H' D I2 ?_
      refine ⟨h1, h2, ?_⟩
      obtain ⟨e3, F3, er3, h4⟩ := lenO_t (X' := (cxOf (L2N.CX X.prog X.w) X.prog X.w X.K X.mg X.base [a, en] x sg gA cdv X.A X.stack s' H1 (fun _ _ _ => False)).tr pn xe) O h3
      exact ⟨e3, F3, er3, h4.mono fun d e4 H4 F4 er4 mv4 h5 v hv => ⟨_, call_lenO o1 o2 o3 o4 (hr'.mono (by omega)) hp.gu, h5 v hv⟩⟩
    · exact ⟨fun pins s σ H Dn I ⟨ex, pa, g1, g2, g3, h⟩ => (hsu gA cdv X.A X.stack s' H1 (fun _ _ _ => False) ae pa oe cls d pn ex hz hfs g1 g2 g3).run pins s σ H Dn I h⟩
    · unfold RunAt mTryL at h
      refine ⟨fun cls d H2 => ∃ (ex : Ex) (F2 : Hp) (r : D) (e2 : En), X.mg ex.c = some cls ∧ XaOk X.K X.mg F2 d ex ∧ Same F2 H2 ∧ TbOk H2 F2 ∧ ct ex.c = some true ∧ su ex [.no, .no] = .ok (.rt r) e2 ∧ ∀ H3 F3, Fr none H2 F2 H3 F3 → ∀ v, Rp X.K X.mg F3 r v → Q v H3, ?_, rfl, hco, e, F, er1, ?_⟩
      · rintro cls d σ2 H2 hl ⟨ex, F2, r, e2, m1, m2, sub, tb, hc, hgr, hq⟩
        refine ⟨true, hct _ _ hc _ m1, fun _ ae hae => ?_, fun z => nomatch z⟩
        obtain ⟨pa, hpa, hok⟩ := m2.pa ae
        have no0 : ∀ {j : Nat} {y : Sl}, ([.no, .no] : En)[j]? = some y → y = .no := fun {j y} h => by
          match j, h with
          | 0, h => cases h; rfl
          | 1, h => cases h; rfl
          | _ + 2, h => cases h
        have er0 : ER X.K X.mg [] [.no, .no] (σ2.set 1 (some (.ref ae))) H2 F2 :=
          ⟨sub, fun j d h => (nomatch no0 h), fun j d h => (nomatch no0 h), fun j k q d d' h => (nomatch no0 h), by rw [List.length_set, hl]; rfl, fun q hq => (nomatch hq), tb⟩
        refine ⟨ex, pa, m1, hpa, hc, [.no, .no], F2, er0.pinnedX ⟨by rw [hpa.1]; exact List.getElem?_set_self (by omega), hok⟩, ?_⟩
        unfold RunS
        rw [hgr]
        intro σ3 H3 F3 v er4 mv4 rv
        exact hq H3 F3 (Mv.fr0 (nl := 2) (ds := []) er4.unpin mv4) v rv
      · unfold RunAt
        cases q : mLenO c fl mE e with
        | ok d e1 =>
          simp only [q] at h
          intro H2 F2 er2 mv2 v hv
          exact h _ _ er2 (mv1.trans mv2) _ hv
        | exc ex e1 =>
          simp only [q] at h
          intro H2 F2 cl dd er2 mv2 xr
          cases qc : ct ex.c with
          | none => simp only [qc] at h
          | some b =>
            cases b with
            | false => simp only [qc] at h
            | true =>
              cases qs : su ex [.no, .no] with
              | bad => simp only [qc, qs] at h
              | exc y e2 => simp only [qc, qs] at h
              | ok f e2 =>
                cases f with
                | rt r =>
                  simp only [qc, qs] at h
                  refine ⟨ex, F2, r, e2, xr.1, xr.2, er2.sub, er2.tb, qc, qs, fun H3 F3 fr v hv => ?_⟩
                  obtain ⟨er3, mv3⟩ := er2.fr fr
                  exact h _ _ er3 (mv1.trans (mv2.trans mv3)) _ hv
                | _ => simp only [qc, qs] at h
        | bad => simp only [q] at h
  refine wpAny_call (codeAny_mono rc fun r s2 hq => ?_)
  cases r with
  | error e => obtain ⟨_, _, _, _, _, _, _, _, _, _, _, _, z⟩ := hq; exact z.elim
  | ok fl =>
    cases fl with
    | ret u => exact I1.after hq
    | next => exact False.elim hq
    | brk => exact False.elim hq
    | cont => exact False.elim hq
end
end Sr
namespace Tb
section
variable {t : Tab} {i s : Nat}
theorem run_lt (ok : Ok t) : ∀ (w : List Bool) {i : Nat}, i < t.length → run t i w < t.length
  | [], i, h => h
  | b :: w, i, h => run_lt ok w (nx_lt ok h b)
end
section
variable {A : Type} [DecidableEq A]
theorem mem_ded {ks : List A} {y : A} : y ∈ ded ks ↔ y ∈ ks := by unfold ded; rw [mem_fold]; simp
theorem nodup_ded (ks : List A) : (ded ks).Nodup := nodup_fold ks List.nodup_nil
end
section
variable {A : Type} [BEq A] [LawfulBEq A]
theorem idxOf_pre {l r : List A} {x : A} (h : x ∈ l) : (l ++ r).idxOf x = l.idxOf x := by
  rw [List.idxOf_append, if_pos h]
theorem idxOf_inj {l : List A} {x y : A} (hx : x ∈ l) (h : l.idxOf x = l.idxOf y) : x = y := by
  have h1 : l.idxOf x < l.length := List.idxOf_lt_length_of_mem hx
  have h2 : l[l.idxOf x]'h1 = x := List.getElem_idxOf h1
  have h3 : l[l.idxOf y]'(h ▸ h1) = y := List.getElem_idxOf (h ▸ h1)
  rw [← h2, ← h3]
  simp only [h]
end
abbrev RS := List Nat × Nat
def rStep (t : Tab) : RS → Option RS := fun q => if q.2 < q.1.length then some (addN (addN q.1 (row t (q.1.getD q.2 0)).2.1) (row t (q.1.getD q.2 0)).2.2, q.2 + 1) else none
def reach (t : Tab) (s : Nat) : List Nat := (iter (rStep t) t.length ([s], 0)).1
structure RI (t : Tab) (s : Nat) (q : RS) : Prop where
  nd : q.1.Nodup
  lt : ∀ x ∈ q.1, x < t.length
  le : q.2 ≤ q.1.length
  hd : q.1[0]? = some s
  cl : ∀ i, i < q.2 → ∀ b, nx t (q.1.getD i 0) b ∈ q.1
theorem getD_mem {l : List Nat} {i : Nat} (h : i < l.length) : l.getD i 0 ∈ l := by
  simp [List.getD_eq_getElem?_getD, h]
theorem ri_step {t : Tab} {s : Nat} (ok : Ok t) {q q' : RS} (I : RI t s q) (h : rStep t q = some q') : RI t s q' ∧ t.length - q'.2 < t.length - q.2 := by
  obtain ⟨l, a⟩ := q
  unfold rStep at h
  dsimp only at h
  split at h
  · rename_i ha
    cases h
    have hm := getD_mem ha
    have hx := I.lt _ hm
    have hlen := pigeon t.length l I.nd I.lt
    obtain ⟨r1, e1⟩ := addN_pre (l := l) (x := (row t (l.getD a 0)).2.1)
    obtain ⟨r2, e2⟩ := addN_pre (l := addN l (row t (l.getD a 0)).2.1) (x := (row t (l.getD a 0)).2.2)
    have e3 : addN (addN l (row t (l.getD a 0)).2.1) (row t (l.getD a 0)).2.2 = l ++ (r1 ++ r2) := by rw [e2, e1, List.append_assoc]
    have get : ∀ i, i < l.length → (l ++ (r1 ++ r2)).getD i 0 = l.getD i 0 := fun i hi => by
      simp [List.getD_eq_getElem?_getD, List.getElem?_append_left hi]
    have hr := ok _ (row_mem hx)
    refine ⟨⟨nodup_addN (nodup_addN I.nd), fun x hxx => ?_, ?_, ?_, fun i hi b => ?_⟩, by dsimp only at *; omega⟩
    · rw [mem_addN, mem_addN] at hxx
      rcases hxx with (hxx | rfl) | rfl
      · exact I.lt x hxx
      · exact hr.1
      · exact hr.2
    · dsimp only; rw [e3, List.length_append]; omega
    · dsimp only
      have h0 := I.hd
      dsimp only at h0
      rw [e3, List.getElem?_append_left (by omega)]; exact h0
    · dsimp only at hi ⊢
      rw [e3, get i (by omega), ← e3]
      by_cases hia : i < a
      · rw [mem_addN, mem_addN]; exact .inl (.inl (I.cl i hia b))
      · have : i = a := by omega
        subst this
        unfold nx
        rw [mem_addN, mem_addN]
        cases b
        · exact .inr rfl
        · exact .inl (.inr rfl)
  · cases h
theorem ri_start {t : Tab} {s : Nat} (hs : s < t.length) : RI t s ([s], 0) := ⟨by simp, by simp; exact hs, by simp, rfl, fun i h => by dsimp only at h; omega⟩
structure RSpec (t : Tab) (s : Nat) (l : List Nat) : Prop where
  nd : l.Nodup
  lt : ∀ x ∈ l, x < t.length
  hd : l[0]? = some s
  cl : ∀ x ∈ l, ∀ b, nx t x b ∈ l
theorem reach_done {t : Tab} {s : Nat} (ok : Ok t) (hs : s < t.length) : rStep t (iter (rStep t) t.length ([s], 0)) = none :=
  iter_done (RI t s) (fun q => t.length - q.2) (fun a b I h => ri_step ok I h) t.length (ri_start hs) (by dsimp only; omega)
theorem reach_ri {t : Tab} {s : Nat} (ok : Ok t) (hs : s < t.length) : RI t s (iter (rStep t) t.length ([s], 0)) :=
  iter_inv (RI t s) (fun a b I h => (ri_step ok I h).1) _ (ri_start hs)
theorem reach_spec {t : Tab} {s : Nat} (ok : Ok t) (hs : s < t.length) : RSpec t s (reach t s) := by
  have I := reach_ri ok hs
  have D := reach_done ok hs
  unfold reach
  generalize iter (rStep t) t.length ([s], 0) = q at *
  obtain ⟨l, a⟩ := q
  have hle : l.length ≤ a := by
    unfold rStep at D
    dsimp only at D
    split at D
    · cases D
    · omega
  refine ⟨I.nd, I.lt, I.hd, fun x hx b => ?_⟩
  obtain ⟨i, hi, rfl⟩ := List.mem_iff_getElem.mp hx
  have hi' : i < l.length := hi
  have := I.cl i (by dsimp only; omega) b
  dsimp only at this
  have e : l.getD i 0 = l[i] := by simp [List.getD_eq_getElem?_getD, hi]
  rw [e] at this
  exact this
theorem run_reach {t : Tab} {s : Nat} {l : List Nat} (R : RSpec t s l) : ∀ (w : List Bool) {x : Nat}, x ∈ l → run t x w ∈ l
  | [], x, h => h
  | b :: w, x, h => run_reach R w (R.cl x h b)
theorem dist_le (f : List Nat) : dist f ≤ f.length := by
  unfold dist ded
  have H : ∀ (ks : List Nat) (l : List Nat), (ks.foldl addN l).length ≤ l.length + ks.length := by
    intro ks
    induction ks with
    | nil => intro l; simp
    | cons k ks ih =>
      intro l
      have := ih (addN l k)
      have h2 : (addN l k).length ≤ l.length + 1 := by unfold addN; split <;> simp
      rw [List.foldl_cons, List.length_cons]; omega
  have := H f []
  simpa using this
theorem keys_len (t : Tab) (f : List Nat) : (keys t f).length = t.length := by unfold keys; simp
theorem renum_len (ks : List K3) : (renum ks).length = ks.length := by unfold renum; simp
theorem keys_get {t : Tab} {f : List Nat} {i : Nat} (h : i < t.length) : (keys t f)[i]? = some (f.getD i 0, f.getD (row t i).2.1 0, f.getD (row t i).2.2 0) := by
  unfold keys
  rw [List.getElem?_map, List.getElem?_zipIdx, List.getElem?_eq_getElem h, row_eq h]
  simp
theorem renum_get {ks : List K3} {i : Nat} {k : K3} (h : ks[i]? = some k) : (renum ks).getD i 0 = (ded ks).idxOf k := by
  unfold renum
  rw [List.getD_eq_getElem?_getD, List.getElem?_map, h]; rfl
theorem renum_iff {ks : List K3} {i j : Nat} {k k' : K3} (h : ks[i]? = some k) (h' : ks[j]? = some k') : (renum ks).getD i 0 = (renum ks).getD j 0 ↔ k = k' := by
  rw [renum_get h, renum_get h']
  refine ⟨fun e => idxOf_inj ?_ e, fun e => by rw [e]⟩
  rw [mem_ded]; exact List.mem_of_getElem? h
def Fine (n : Nat) (f g : List Nat) : Prop := ∀ i j, i < n → j < n → f.getD i 0 = f.getD j 0 → g.getD i 0 = g.getD j 0
theorem sub_len : ∀ {l m : List Nat}, l.Nodup → (∀ x ∈ l, x ∈ m) → l.length ≤ m.length
  | [], m, _, _ => by simp
  | x :: l, m, hd, h => by
    rw [List.nodup_cons] at hd
    have hx := h x (by simp)
    have := sub_len (l := l) (m := m.erase x) hd.2 fun y hy => by
      have hne : y ≠ x := fun e => hd.1 (e ▸ hy)
      exact (List.mem_erase_of_ne hne).mpr (h y (by simp [hy]))
    rw [List.length_erase_of_mem hx] at this
    have : 0 < m.length := List.length_pos_of_mem hx
    rw [List.length_cons]; omega
theorem nodup_of : ∀ {m l : List Nat}, l.Nodup → (∀ x ∈ l, x ∈ m) → m.length ≤ l.length → m.Nodup
  | [], l, _, _, _ => by simp
  | x :: m, l, hd, h, hl => by
    rw [List.length_cons] at hl
    have hx : x ∉ m := fun hx => by
      have := sub_len (l := l) (m := m) hd fun y hy => by
        rcases List.mem_cons.mp (h y hy) with e | e
        · rw [e]; exact hx
        · exact e
      omega
    have := nodup_of (m := m) (l := l.erase x) (hd.erase x) (fun y hy => by
      have h3 := (List.Nodup.mem_erase_iff hd).mp hy
      rcases List.mem_cons.mp (h y h3.2) with e | e
      · exact (h3.1 e).elim
      · exact e) (by
        have := List.length_erase (a := x) (l := l)
        split at this <;> omega)
    rw [List.nodup_cons]
    exact ⟨hx, this⟩
theorem nodup_unmap {A B : Type} (g : A → B) : ∀ {l : List A}, (l.map g).Nodup → l.Nodup
  | [], _ => by simp
  | x :: l, h => by
    rw [List.map_cons, List.nodup_cons] at h
    rw [List.nodup_cons]
    exact ⟨fun hx => h.1 (List.mem_map_of_mem hx), nodup_unmap g h.2⟩
theorem getD_get {l : List Nat} {i : Nat} (h : i < l.length) : l.getD i 0 = l[i] := by simp [List.getD_eq_getElem?_getD, h]
theorem fine_back {n : Nat} {f g : List Nat} (hf : f.length = n) (hg : g.length = n) (h : Fine n f g) (hd : dist f ≤ dist g) : Fine n g f := by
  let φ : Nat → Nat := fun v => g.getD (f.idxOf v) 0
  have hφ : ∀ i, i < n → φ (f.getD i 0) = g.getD i 0 := fun i hi => by
    have hm : f.getD i 0 ∈ f := getD_mem (by omega)
    have h1 : f.idxOf (f.getD i 0) < f.length := List.idxOf_lt_length_of_mem hm
    have h2 : f[f.idxOf (f.getD i 0)]'h1 = f.getD i 0 := List.getElem_idxOf h1
    refine h _ i (by omega) hi ?_
    rw [getD_get h1, h2]
  have hn : ((ded f).map φ).Nodup := by
    refine nodup_of (nodup_ded g) (fun y hy => ?_) (by rw [List.length_map]; exact hd)
    rw [mem_ded] at hy
    obtain ⟨i, hi, rfl⟩ := List.mem_iff_getElem.mp hy
    rw [List.mem_map]
    refine ⟨f.getD i 0, by rw [mem_ded]; exact getD_mem (by omega), ?_⟩
    rw [hφ i (by omega), getD_get hi]
  intro i j hi hj e
  have e2 : φ (f.getD i 0) = φ (f.getD j 0) := by rw [hφ i hi, hφ j hj, e]
  have m1 : f.getD i 0 ∈ ded f := by rw [mem_ded]; exact getD_mem (by omega)
  have m2 : f.getD j 0 ∈ ded f := by rw [mem_ded]; exact getD_mem (by omega)
  obtain ⟨a, ha, ea⟩ := List.mem_iff_getElem.mp m1
  obtain ⟨b, hb, eb⟩ := List.mem_iff_getElem.mp m2
  have hab : a = b := by
    have la : a < ((ded f).map φ).length := by rw [List.length_map]; exact ha
    have lb : b < ((ded f).map φ).length := by rw [List.length_map]; exact hb
    refine (List.getElem_inj (h₀ := la) (h₁ := lb) hn).mp ?_
    rw [List.getElem_map, List.getElem_map, ea, eb, e2]
  subst hab
  rw [← ea, ← eb]
def Stable (t : Tab) (f : List Nat) : Prop := ∀ i j, i < t.length → j < t.length → f.getD i 0 = f.getD j 0 → (row t i).1 = (row t j).1 ∧ ∀ b, f.getD (nx t i b) 0 = f.getD (nx t j b) 0
structure CI (t : Tab) (q : CS) : Prop where
  len : q.1.length = t.length
  st : ∀ i j, i < t.length → j < t.length → q.1.getD i 0 = q.1.getD j 0 → (row t i).1 = (row t j).1
  al : ∀ i j, i < t.length → j < t.length → Alike t i j → q.1.getD i 0 = q.1.getD j 0
  le : q.2 ≤ t.length
  pv : q.2 = 0 ∨ ∃ p : List Nat, p.length = t.length ∧ q.2 = dist p ∧ q.1 = renum (keys t p)
theorem f0_get {t : Tab} {i : Nat} (h : i < t.length) : (f0 t).getD i 0 = if (row t i).1 then 1 else 0 := by
  unfold f0
  rw [List.getD_eq_getElem?_getD, List.getElem?_map, List.getElem?_eq_getElem h, row_eq h]; rfl
theorem ci_start (t : Tab) : CI t (f0 t, 0) := by
  refine ⟨by unfold f0; simp, fun i j hi hj e => ?_, fun i j hi hj h => ?_, by simp, .inl rfl⟩
  · dsimp only at e
    rw [f0_get hi, f0_get hj] at e
    cases h1 : (row t i).1 <;> cases h2 : (row t j).1 <;> simp [h1, h2] at e ⊢
  · dsimp only
    rw [f0_get hi, f0_get hj]
    have := h []
    unfold run at this
    rw [this]
theorem ci_step {t : Tab} (ok : Ok t) {q q' : CS} (I : CI t q) (h : cStep t q = some q') : CI t q' ∧ t.length - q'.2 < t.length - q.2 := by
  unfold cStep at h
  split at h
  · rename_i hlt
    cases h
    have hd := dist_le q.1
    have hl := I.len
    refine ⟨⟨by dsimp only; rw [renum_len, keys_len], fun i j hi hj e => ?_, fun i j hi hj h => ?_, by dsimp only; omega, .inr ⟨q.1, I.len, rfl, rfl⟩⟩, by dsimp only; omega⟩
    · have e2 := (renum_iff (keys_get hi) (keys_get hj)).mp e
      exact I.st i j hi hj (congrArg (·.1) e2)
    · refine (renum_iff (keys_get hi) (keys_get hj)).mpr ?_
      rw [I.al i j hi hj h]
      have h1 := I.al _ _ (nx_lt ok hi true) (nx_lt ok hj true) (h.nx true)
      have h2 := I.al _ _ (nx_lt ok hi false) (nx_lt ok hj false) (h.nx false)
      unfold Tb.nx at h1 h2
      simp only [if_true] at h1
      simp only [Bool.false_eq_true, if_false] at h2
      rw [h1, h2]
  · cases h
theorem cls_ci {t : Tab} (ok : Ok t) : CI t (iter (cStep t) t.length (f0 t, 0)) := iter_inv (CI t) (fun a b I h => (ci_step ok I h).1) _ (ci_start t)
theorem cls_done {t : Tab} (ok : Ok t) : cStep t (iter (cStep t) t.length (f0 t, 0)) = none :=
  iter_done (CI t) (fun q => t.length - q.2) (fun a b I h => ci_step ok I h) t.length (ci_start t) (by dsimp only; omega)
theorem cls_len {t : Tab} (ok : Ok t) : (cls t).length = t.length := (cls_ci ok).len
theorem cls_al {t : Tab} (ok : Ok t) {i j : Nat} (hi : i < t.length) (hj : j < t.length) (h : Alike t i j) : (cls t).getD i 0 = (cls t).getD j 0 := (cls_ci ok).al i j hi hj h
theorem cls_stable {t : Tab} (ok : Ok t) : Stable t (cls t) := by
  have I := cls_ci ok
  have D := cls_done ok
  unfold cls
  generalize iter (cStep t) t.length (f0 t, 0) = q at *
  obtain ⟨f, m⟩ := q
  have hm : dist f ≤ m := by
    unfold cStep at D
    dsimp only at D
    split at D
    · cases D
    · omega
  intro i j hi hj e
  refine ⟨I.st i j hi hj e, ?_⟩
  rcases I.pv with h0 | ⟨p, hp, h1, h2⟩
  · dsimp only at h0
    have hl := I.len
    have hf0 : 0 < dist f := by
      unfold dist
      have hmem : f.getD i 0 ∈ ded f := by rw [mem_ded]; exact getD_mem (by dsimp only at hl; omega)
      exact List.length_pos_of_mem hmem
    omega
  · dsimp only at h1 h2
    have hfine : Fine t.length f p := fun i j hi hj e => by
      rw [h2] at e
      exact congrArg (·.1) ((renum_iff (keys_get hi) (keys_get hj)).mp e)
    have back : Fine t.length p f := fine_back I.len hp hfine (by omega)
    intro b
    have e2 := e
    dsimp only at e2
    rw [h2] at e2
    have e3 := (renum_iff (keys_get hi) (keys_get hj)).mp e2
    refine back _ _ (nx_lt ok hi b) (nx_lt ok hj b) ?_
    unfold nx
    cases b
    · simp only [Bool.false_eq_true, if_false]; exact congrArg (·.2.2) e3
    · simp only [if_true]; exact congrArg (·.2.1) e3
theorem cls_run {t : Tab} (ok : Ok t) : ∀ (w : List Bool) {i j : Nat}, i < t.length → j < t.length → (cls t).getD i 0 = (cls t).getD j 0 → (cls t).getD (run t i w) 0 = (cls t).getD (run t j w) 0
  | [], i, j, hi, hj, e => e
  | b :: w, i, j, hi, hj, e => cls_run ok w (nx_lt ok hi b) (nx_lt ok hj b) ((cls_stable ok i j hi hj e).2 b)
theorem cls_iff {t : Tab} (ok : Ok t) {i j : Nat} (hi : i < t.length) (hj : j < t.length) : (cls t).getD i 0 = (cls t).getD j 0 ↔ Alike t i j :=
  ⟨fun e w => (cls_stable ok _ _ (run_lt ok w hi) (run_lt ok w hj) (cls_run ok w hi hj e)).1, cls_al ok hi hj⟩
def pick (f : List Nat) : List Nat → List Nat × List Nat → List Nat × List Nat
  | [], q => q
  | x :: xs, q => pick f xs (if f.getD x 0 ∈ q.1 then q else (q.1 ++ [f.getD x 0], q.2 ++ [x]))
def ix (t : Tab) (s x : Nat) : Nat := (pick (cls t) (reach t s) ([], [])).1.idxOf ((cls t).getD x 0)
def small (t : Tab) (s : Nat) : Tab := (pick (cls t) (reach t s) ([], [])).2.map fun x => ((row t x).1, ix t s (row t x).2.1, ix t s (row t x).2.2)
theorem small_get {t : Tab} {s i y : Nat} (h : (pick (cls t) (reach t s) ([], [])).2[i]? = some y) : row (small t s) i = ((row t y).1, ix t s (row t y).2.1, ix t s (row t y).2.2) := by
  unfold row small
  rw [List.getD_eq_getElem?_getD, List.getElem?_map, h]; rfl
structure PI (f : List Nat) (xs : List Nat) (q : List Nat × List Nat) : Prop where
  eq : q.1 = q.2.map fun x => f.getD x 0
  nd : q.1.Nodup
  all : ∀ x ∈ xs, f.getD x 0 ∈ q.1
  sub : ∀ x ∈ q.2, x ∈ xs
theorem pick_pi {f : List Nat} : ∀ (xs pre : List Nat) (q : List Nat × List Nat), PI f pre q → PI f (pre ++ xs) (pick f xs q)
  | [], pre, q, h => by rw [List.append_nil]; exact h
  | x :: xs, pre, q, h => by
    unfold pick
    rw [show pre ++ x :: xs = (pre ++ [x]) ++ xs by simp]
    refine pick_pi xs (pre ++ [x]) _ ?_
    split
    · rename_i hx
      refine ⟨h.eq, h.nd, fun y hy => ?_, fun y hy => by simp [h.sub y hy]⟩
      rw [List.mem_append, List.mem_singleton] at hy
      rcases hy with hy | rfl
      · exact h.all y hy
      · exact hx
    · rename_i hx
      refine ⟨by simp [h.eq], ?_, fun y hy => ?_, fun y hy => ?_⟩
      · rw [List.nodup_append]
        exact ⟨h.nd, by simp, fun a ha b hb => by simp at hb; subst hb; intro e; subst e; exact hx ha⟩
      · rw [List.mem_append, List.mem_singleton] at hy
        rcases hy with hy | rfl
        · exact List.mem_append_left _ (h.all y hy)
        · simp
      · dsimp only at hy
        rw [List.mem_append, List.mem_singleton] at hy
        rcases hy with hy | rfl
        · simp [h.sub y hy]
        · simp
theorem pick_head {f : List Nat} : ∀ (xs : List Nat) (q : List Nat × List Nat) {a b : Nat}, q.1[0]? = some a → q.2[0]? = some b → (pick f xs q).1[0]? = some a ∧ (pick f xs q).2[0]? = some b
  | [], q, a, b, h1, h2 => ⟨h1, h2⟩
  | x :: xs, q, a, b, h1, h2 => by
    unfold pick
    split
    · exact pick_head xs q h1 h2
    · have l1 := (List.getElem?_eq_some_iff.mp h1).1
      have l2 := (List.getElem?_eq_some_iff.mp h2).1
      refine pick_head xs _ ?_ ?_
      · rw [List.getElem?_append_left l1]; exact h1
      · rw [List.getElem?_append_left l2]; exact h2
section
variable {t : Tab} {s : Nat}
theorem small_pi (t : Tab) (s : Nat) : PI (cls t) (reach t s) (pick (cls t) (reach t s) ([], [])) := by
  have := pick_pi (f := cls t) (reach t s) [] ([], []) ⟨rfl, by simp, by simp, by simp⟩
  simpa using this
theorem small_len (t : Tab) (s : Nat) : (small t s).length = (pick (cls t) (reach t s) ([], [])).1.length := by
  have h := small_pi t s
  unfold small
  rw [h.eq]; simp
theorem ix_lt {x : Nat} (hx : x ∈ reach t s) : ix t s x < (small t s).length := by
  rw [small_len]
  exact List.idxOf_lt_length_of_mem ((small_pi t s).all x hx)
theorem small_row (ok : Ok t) (hs : s < t.length) {x : Nat} (hx : x ∈ reach t s) : row (small t s) (ix t s x) = ((row t x).1, ix t s (nx t x true), ix t s (nx t x false)) := by
  have P := small_pi t s
  have R := reach_spec ok hs
  have hl := ix_lt hx
  have hl2 := hl
  rw [small_len] at hl2
  have hq : (pick (cls t) (reach t s) ([], [])).1.length = (pick (cls t) (reach t s) ([], [])).2.length := by
    have := congrArg List.length P.eq
    rw [List.length_map] at this
    exact this
  have hl3 : ix t s x < (pick (cls t) (reach t s) ([], [])).2.length := by rw [← hq]; exact hl2
  generalize hy : (pick (cls t) (reach t s) ([], [])).2[ix t s x]'hl3 = y
  rw [small_get (y := y) (by rw [List.getElem?_eq_getElem hl3, hy])]
  have hym : y ∈ reach t s := P.sub y (by rw [← hy]; exact List.getElem_mem hl3)
  have hcy : (cls t).getD y 0 = (cls t).getD x 0 := by
    have h1 : (pick (cls t) (reach t s) ([], [])).1[ix t s x]'hl2 = (cls t).getD x 0 := List.getElem_idxOf hl2
    have h2 : (pick (cls t) (reach t s) ([], [])).1[ix t s x]? = some ((cls t).getD y 0) := by
      rw [P.eq, List.getElem?_map, List.getElem?_eq_getElem hl3, hy]; rfl
    rw [List.getElem?_eq_getElem hl2, h1] at h2
    exact (Option.some.inj h2).symm
  have S := cls_stable ok y x (R.lt y hym) (R.lt x hx) hcy
  have S1 := S.2 true
  have S2 := S.2 false
  unfold ix
  unfold nx at S1 S2 ⊢
  simp only [if_true] at S1 ⊢
  simp only [Bool.false_eq_true, if_false] at S2 ⊢
  rw [S.1, S1, S2]
theorem ix_nx (ok : Ok t) (hs : s < t.length) {x : Nat} (hx : x ∈ reach t s) (b : Bool) : nx (small t s) (ix t s x) b = ix t s (nx t x b) := by
  unfold nx
  rw [small_row ok hs hx]
  cases b <;> rfl
theorem ix_run (ok : Ok t) (hs : s < t.length) : ∀ (w : List Bool) {x : Nat}, x ∈ reach t s → run (small t s) (ix t s x) w = ix t s (run t x w)
  | [], x, hx => rfl
  | b :: w, x, hx => by
    show run (small t s) (nx (small t s) (ix t s x) b) w = _
    rw [ix_nx ok hs hx]
    exact ix_run ok hs w ((reach_spec ok hs).cl x hx b)
theorem start_mem (ok : Ok t) (hs : s < t.length) : s ∈ reach t s := List.mem_of_getElem? (reach_spec ok hs).hd
theorem ix_start (ok : Ok t) (hs : s < t.length) : ix t s s = 0 := by
  have R := reach_spec ok hs
  have h0 := R.hd
  unfold ix
  cases hr : reach t s with
  | nil => rw [hr] at h0; simp at h0
  | cons x xs =>
    rw [hr] at h0
    simp at h0
    subst h0
    have e : pick (cls t) (x :: xs) ([], []) = pick (cls t) xs ([(cls t).getD x 0], [x]) := by
      rw [pick]; simp
    rw [e]
    have h1 := (pick_head (f := cls t) xs ([(cls t).getD x 0], [x]) (a := (cls t).getD x 0) (b := x) rfl rfl).1
    have hl := (List.getElem?_eq_some_iff.mp h1).1
    have hm : (cls t).getD x 0 ∈ (pick (cls t) xs ([(cls t).getD x 0], [x])).1 := List.mem_of_getElem? h1
    have P := small_pi t x
    rw [hr, e] at P
    have h2 : (pick (cls t) xs ([(cls t).getD x 0], [x])).1.idxOf ((cls t).getD x 0) < (pick (cls t) xs ([(cls t).getD x 0], [x])).1.length := List.idxOf_lt_length_of_mem hm
    refine (List.getElem_inj (h₀ := h2) (h₁ := hl) P.nd).mp ?_
    rw [List.getElem_idxOf h2]
    exact (List.getElem?_eq_some_iff.mp h1).2.symm
theorem small_status (ok : Ok t) (hs : s < t.length) (w : List Bool) : (row (small t s) (run (small t s) 0 w)).1 = (row t (run t s w)).1 := by
  have hm := start_mem ok hs
  have h := ix_run ok hs w hm
  rw [ix_start ok hs] at h
  rw [h, small_row ok hs (run_reach (reach_spec ok hs) w hm)]
theorem small_ok (ok : Ok t) (hs : s < t.length) : Ok (small t s) := by
  intro r hr
  obtain ⟨i, hi, rfl⟩ := List.mem_iff_getElem.mp hr
  have P := small_pi t s
  have R := reach_spec ok hs
  have hl : i < (pick (cls t) (reach t s) ([], [])).2.length := by
    have := hi
    unfold small at this
    simpa using this
  have e : (small t s)[i] = ((row t ((pick (cls t) (reach t s) ([], [])).2[i]'hl)).1, ix t s (row t ((pick (cls t) (reach t s) ([], [])).2[i]'hl)).2.1, ix t s (row t ((pick (cls t) (reach t s) ([], [])).2[i]'hl)).2.2) := by
    rw [← row_eq hi]
    exact small_get (List.getElem?_eq_getElem hl)
  have hy := P.sub _ (List.getElem_mem hl)
  rw [e]
  exact ⟨ix_lt (R.cl _ hy true), ix_lt (R.cl _ hy false)⟩
theorem small_pos (ok : Ok t) (hs : s < t.length) : 0 < (small t s).length := by
  have := ix_lt (start_mem ok hs)
  omega
theorem small_le (ok : Ok t) (hs : s < t.length) : (small t s).length ≤ t.length := by
  have P := small_pi t s
  have R := reach_spec ok hs
  have h1 : (small t s).length = (pick (cls t) (reach t s) ([], [])).2.length := by
    rw [small_len]
    have := congrArg List.length P.eq
    rw [List.length_map] at this
    exact this
  rw [h1]
  refine pigeon t.length _ ?_ fun x hx => R.lt x (P.sub x hx)
  have := P.nd
  rw [P.eq] at this
  exact nodup_unmap _ this
end
end Tb
namespace Tb
section
variable {A B : Type} [DecidableEq A] [DecidableEq B]
theorem addN_in {l : List A} {x : A} (h : x ∈ l) : addN l x = l := by unfold addN; rw [if_pos h]
theorem addN_out {l : List A} {x : A} (h : x ∉ l) : addN l x = l ++ [x] := by unfold addN; rw [if_neg h]
theorem ded_append (a b : List A) : ded (a ++ b) = b.foldl addN (ded a) := by unfold ded; rw [List.foldl_append]
theorem fold_sub : ∀ (ks : List A) {l : List A}, (∀ x ∈ ks, x ∈ l) → ks.foldl addN l = l
  | [], l, _ => rfl
  | x :: ks, l, h => by rw [List.foldl_cons, addN_in (h x (by simp))]; exact fold_sub ks fun y hy => h y (by simp [hy])
theorem ded_map_acc (c : A → B) : ∀ (l acc : List A), ded ((l.foldl addN acc).map c) = (l.map c).foldl addN (ded (acc.map c))
  | [], acc => rfl
  | x :: l, acc => by
    rw [List.foldl_cons, ded_map_acc c l, List.map_cons, List.foldl_cons]
    congr 1
    by_cases h : x ∈ acc
    · rw [addN_in h, addN_in]
      rw [mem_ded]
      exact List.mem_map_of_mem h
    · rw [addN_out h, List.map_append, ded_append]
      rfl
theorem ded_map_ded (c : A → B) (l : List A) : ded ((ded l).map c) = ded (l.map c) := by
  have := ded_map_acc c l []
  unfold ded at *
  rw [this]
  rfl
theorem ded_flat_acc (a : List B) (g : A → List B) : ∀ (k acc : List A), ded (a ++ (k.foldl addN acc).flatMap g) = ded (a ++ acc.flatMap g ++ k.flatMap g)
  | [], acc => by simp
  | x :: k, acc => by
    rw [List.foldl_cons, ded_flat_acc a g k, List.flatMap_cons]
    by_cases h : x ∈ acc
    · have hs : (g x).foldl addN (ded (a ++ acc.flatMap g)) = ded (a ++ acc.flatMap g) := fold_sub _ fun y hy => by
        rw [mem_ded, List.mem_append]
        exact .inr (List.mem_flatMap.mpr ⟨x, h, hy⟩)
      rw [addN_in h, ded_append (a ++ acc.flatMap g), ded_append (a ++ acc.flatMap g), List.foldl_append, hs]
    · rw [addN_out h, List.flatMap_append]
      simp [List.append_assoc]
theorem ded_flat (a : List B) (g : A → List B) (k : List A) : ded (a ++ (ded k).flatMap g) = ded (a ++ k.flatMap g) := by
  have := ded_flat_acc a g k []
  simpa [ded] using this
theorem ded_pre (a b : List A) : ∃ r, ded (a ++ b) = ded a ++ r := by rw [ded_append]; exact fold_pre _ _
end
def Rch (c0 : Nat) (G : Nat → List Nat) (K : List Nat) : Prop := ∀ S : Nat → Prop, S c0 → (∀ k, S k → ∀ y ∈ G k, S y) → ∀ k ∈ K, S k
theorem take_pre {K Q r : List Nat} (h : K = Q ++ r) {n : Nat} (hn : n ≤ Q.length) : K.take n = Q.take n := by
  rw [h, List.take_append_of_le_length hn]
theorem closed_all {c0 : Nat} {G : Nat → List Nat} {K r : List Nat} {n : Nat} (hK : K.Nodup) (hr : Rch c0 G K) (hq : K = ded (c0 :: (K.take n).flatMap G) ++ r) (hn : (ded (c0 :: (K.take n).flatMap G)).length ≤ n) : K = K.take n := by
  generalize hQ : ded (c0 :: (K.take n).flatMap G) = Q at *
  have hsub : ∀ y ∈ Q, y ∈ K.take n := by
    intro y hy
    have e : K.take n = Q ++ (r.take (n - Q.length)) := by
      rw [hq, List.take_append, List.take_of_length_le hn]
    rw [e]
    exact List.mem_append_left _ hy
  have hall : ∀ k ∈ K, k ∈ K.take n := hr (fun k => k ∈ K.take n) (hsub _ (by rw [← hQ, mem_ded]; simp)) fun k hk y hy => hsub _ (by
    rw [← hQ, mem_ded]
    exact List.mem_cons_of_mem _ (List.mem_flatMap.mpr ⟨k, hk, hy⟩))
  have hl := sub_len hK hall
  rw [List.length_take] at hl
  rw [List.take_of_length_le (by omega)]
theorem split_pre {c0 : Nat} {G : Nat → List Nat} {K : List Nat} (h : K = ded (c0 :: K.flatMap G)) (n : Nat) : ∃ r, K = ded (c0 :: (K.take n).flatMap G) ++ r := by
  obtain ⟨r, hr⟩ := ded_pre (c0 :: (K.take n).flatMap G) ((K.drop n).flatMap G)
  refine ⟨r, ?_⟩
  rw [← hr, List.cons_append, ← List.flatMap_append, List.take_append_drop]
  exact h
theorem ded_unique {c0 : Nat} {G : Nat → List Nat} {K K' : List Nat} (h : K = ded (c0 :: K.flatMap G)) (h' : K' = ded (c0 :: K'.flatMap G)) (r : Rch c0 G K) (r' : Rch c0 G K') : K = K' := by
  have nd : K.Nodup := by rw [h]; exact nodup_ded _
  have nd' : K'.Nodup := by rw [h']; exact nodup_ded _
  have H : ∀ n, K.take n = K'.take n := by
    intro n
    induction n with
    | zero => simp
    | succ n ih =>
      obtain ⟨q, hq⟩ := split_pre h n
      obtain ⟨q', hq'⟩ := split_pre h' n
      by_cases hn : (ded (c0 :: (K.take n).flatMap G)).length ≤ n
      · have e1 := closed_all nd r hq hn
        have e2 := closed_all nd' r' hq' (by rw [← ih]; exact hn)
        have e3 : K = K' := by rw [e1, e2, ih]
        rw [e3]
      · rw [take_pre hq (by omega), take_pre hq' (by rw [← ih]; omega), ih]
  have e := H (K.length + K'.length)
  rw [List.take_of_length_le (by omega), List.take_of_length_le (by omega)] at e
  exact e
def kids (t : Tab) (x : Nat) : List Nat := [(row t x).2.1, (row t x).2.2]
section
variable {t : Tab} {s : Nat}
theorem cl_stable (ok : Ok t) {i j : Nat} (hi : i < t.length) (hj : j < t.length) (h : cl t i = cl t j) : (row t i).1 = (row t j).1 ∧ (kids t i).map (cl t) = (kids t j).map (cl t) := by
  obtain ⟨h1, h2⟩ := cls_stable ok i j hi hj h
  refine ⟨h1, ?_⟩
  have a := h2 true
  have b := h2 false
  simp only [nx, if_true] at a
  simp only [nx, Bool.false_eq_true, if_false] at b
  simp only [kids, List.map_cons, List.map_nil, cl]
  rw [a, b]
theorem take_succ_of {l r : List Nat} {a : Nat} (h : a < l.length) : (l ++ r).take (a + 1) = l.take a ++ [l.getD a 0] := by
  rw [List.take_append_of_le_length (by omega), List.take_succ, List.getElem?_eq_getElem h]
  simp [List.getD_eq_getElem?_getD, h]
theorem reach_fix (ok : Ok t) (hs : s < t.length) : reach t s = ded (s :: (reach t s).flatMap (kids t)) := by
  have I := iter_inv (f := rStep t) (fun q => q.2 ≤ q.1.length ∧ q.1 = ded (s :: (q.1.take q.2).flatMap (kids t))) (by
    rintro ⟨l, a⟩ ⟨l', a'⟩ ⟨hle, I⟩ h
    unfold rStep at h
    dsimp only at h I hle ⊢
    split at h
    · rename_i ha
      simp only [Option.some.injEq, Prod.mk.injEq] at h
      obtain ⟨rfl, rfl⟩ := h
      obtain ⟨r1, e1⟩ := addN_pre (l := l) (x := (row t (l.getD a 0)).2.1)
      obtain ⟨r2, e2⟩ := addN_pre (l := addN l (row t (l.getD a 0)).2.1) (x := (row t (l.getD a 0)).2.2)
      have e3 : addN (addN l (row t (l.getD a 0)).2.1) (row t (l.getD a 0)).2.2 = l ++ (r1 ++ r2) := by rw [e2, e1, List.append_assoc]
      refine ⟨by rw [e3, List.length_append]; omega, ?_⟩
      have e4 : (addN (addN l (row t (l.getD a 0)).2.1) (row t (l.getD a 0)).2.2).take (a + 1) = l.take a ++ [l.getD a 0] := by
        rw [e3]; exact take_succ_of ha
      rw [e4, List.flatMap_append, ← List.cons_append, ded_append, ← I]
      simp [kids]
    · cases h) t.length (a := ([s], 0)) ⟨by simp, by simp [ded, addN]⟩
  have D := reach_done ok hs
  unfold reach
  generalize iter (rStep t) t.length ([s], 0) = q at *
  obtain ⟨l, a⟩ := q
  have hle : l.length ≤ a := by
    unfold rStep at D
    dsimp only at D
    split at D
    · cases D
    · omega
  have := I.2
  dsimp only at this
  rw [List.take_of_length_le hle] at this
  exact this
theorem pick_fst (f : List Nat) : ∀ (xs : List Nat) (q : List Nat × List Nat), (pick f xs q).1 = (xs.map fun x => f.getD x 0).foldl addN q.1
  | [], q => rfl
  | x :: xs, q => by
    unfold pick
    rw [pick_fst f xs, List.map_cons, List.foldl_cons]
    congr 1
    unfold addN
    split <;> rfl
def ordC (t : Tab) (s : Nat) : List Nat := (pick (cls t) (reach t s) ([], [])).1
theorem ordC_eq : ordC t s = ded ((reach t s).map (cl t)) := by unfold ordC; rw [pick_fst]; rfl
theorem map_alike {β : Type} (c : Nat → Nat) (f : Nat → β) (P : Nat → Prop) (hf : ∀ x y, P x → P y → c x = c y → f x = f y) : ∀ (l m : List Nat), l.map c = m.map c → (∀ x ∈ l, P x) → (∀ x ∈ m, P x) → l.map f = m.map f
  | [], [], _, _, _ => rfl
  | [], y :: m, h, _, _ => by simp at h
  | x :: l, [], h, _, _ => by simp at h
  | x :: l, y :: m, h, h1, h2 => by
    simp only [List.map_cons, List.cons.injEq] at h ⊢
    exact ⟨hf x y (h1 x (by simp)) (h2 y (by simp)) h.1, map_alike c f P hf l m h.2 (fun z hz => h1 z (by simp [hz])) fun z hz => h2 z (by simp [hz])⟩
end
end Tb
namespace Tb
section
variable {A : Type} [DecidableEq A]
theorem subLen : ∀ {l m : List A}, l.Nodup → (∀ x ∈ l, x ∈ m) → l.length ≤ m.length
  | [], m, _, _ => by simp
  | x :: l, m, hd, h => by
    have h1 : x ∈ m := h x (by simp)
    have h2 := subLen (l := l) (m := m.erase x) (List.nodup_cons.mp hd).2 fun y hy => by
      rw [List.mem_erase_of_ne]
      · exact h y (by simp [hy])
      · rintro rfl; exact (List.nodup_cons.mp hd).1 hy
    rw [List.length_erase_of_mem h1] at h2
    have h3 := List.length_pos_of_mem h1
    rw [List.length_cons]; omega
def RchA (c0 : A) (G : A → List A) (K : List A) : Prop := ∀ S : A → Prop, S c0 → (∀ k, S k → ∀ y ∈ G k, S y) → ∀ k ∈ K, S k
theorem takePre {K Q r : List A} (h : K = Q ++ r) {n : Nat} (hn : n ≤ Q.length) : K.take n = Q.take n := by
  rw [h, List.take_append_of_le_length hn]
theorem closedAll {c0 : A} {G : A → List A} {K r : List A} {n : Nat} (hK : K.Nodup) (hr : RchA c0 G K) (hq : K = ded (c0 :: (K.take n).flatMap G) ++ r) (hn : (ded (c0 :: (K.take n).flatMap G)).length ≤ n) : K = K.take n := by
  generalize hQ : ded (c0 :: (K.take n).flatMap G) = Q at *
  have hsub : ∀ y ∈ Q, y ∈ K.take n := by
    intro y hy
    have e : K.take n = Q ++ (r.take (n - Q.length)) := by
      rw [hq, List.take_append, List.take_of_length_le hn]
    rw [e]
    exact List.mem_append_left _ hy
  have hall : ∀ k ∈ K, k ∈ K.take n := hr (fun k => k ∈ K.take n) (hsub _ (by rw [← hQ, mem_ded]; simp)) fun k hk y hy => hsub _ (by
    rw [← hQ, mem_ded]
    exact List.mem_cons_of_mem _ (List.mem_flatMap.mpr ⟨k, hk, hy⟩))
  have hl := subLen hK hall
  rw [List.length_take] at hl
  rw [List.take_of_length_le (by omega)]
theorem splitPre {c0 : A} {G : A → List A} {K : List A} (h : K = ded (c0 :: K.flatMap G)) (n : Nat) : ∃ r, K = ded (c0 :: (K.take n).flatMap G) ++ r := by
  obtain ⟨r, hr⟩ := ded_pre (c0 :: (K.take n).flatMap G) ((K.drop n).flatMap G)
  refine ⟨r, ?_⟩
  rw [← hr, List.cons_append, ← List.flatMap_append, List.take_append_drop]
  exact h
theorem dedUnique {c0 : A} {G : A → List A} {K K' : List A} (h : K = ded (c0 :: K.flatMap G)) (h' : K' = ded (c0 :: K'.flatMap G)) (r : RchA c0 G K) (r' : RchA c0 G K') : K = K' := by
  have nd : K.Nodup := by rw [h]; exact nodup_ded _
  have nd' : K'.Nodup := by rw [h']; exact nodup_ded _
  have H : ∀ n, K.take n = K'.take n := by
    intro n
    induction n with
    | zero => simp
    | succ n ih =>
      obtain ⟨q, hq⟩ := splitPre h n
      obtain ⟨q', hq'⟩ := splitPre h' n
      by_cases hn : (ded (c0 :: (K.take n).flatMap G)).length ≤ n
      · have e1 := closedAll nd r hq hn
        have e2 := closedAll nd' r' hq' (by rw [← ih]; exact hn)
        have e3 : K = K' := by rw [e1, e2, ih]
        rw [e3]
      · rw [takePre hq (by omega), takePre hq' (by rw [← ih]; omega), ih]
  have e := H (K.length + K'.length)
  rw [List.take_of_length_le (by omega), List.take_of_length_le (by omega)] at e
  exact e
end
open Classical in
abbrev Lg := List Bool → Bool
def lang (t : Tab) (x : Nat) : Lg := fun w => (row t (run t x w)).1
def der (b : Bool) (l : Lg) : Lg := fun w => l (b :: w)
def kidL (l : Lg) : List Lg := [der true l, der false l]
section
variable {t u : Tab} {s s' : Nat}
theorem lang_kids (x : Nat) : (kids t x).map (lang t) = kidL (lang t x) := rfl
theorem flat_lang : ∀ (l : List Nat), (l.flatMap (kids t)).map (lang t) = (l.map (lang t)).flatMap kidL
  | [] => rfl
  | x :: l => by rw [List.flatMap_cons, List.map_append, List.map_cons, List.flatMap_cons, lang_kids, flat_lang l]
noncomputable def ordL (t : Tab) (s : Nat) : List Lg := ded ((reach t s).map (lang t))
theorem ordL_fix (ok : Ok t) (hs : s < t.length) : ordL t s = ded (lang t s :: (ordL t s).flatMap kidL) := by
  have e : ded ((reach t s).map (lang t)) = ded ([lang t s] ++ ((reach t s).map (lang t)).flatMap kidL) := by
    rw [← flat_lang]
    have := ded_map_ded (lang t) (s :: (reach t s).flatMap (kids t))
    rw [← reach_fix ok hs] at this
    rw [this]
    rfl
  unfold ordL
  conv => lhs; rw [e, ← ded_flat]
  rfl
theorem ordL_rch (ok : Ok t) (hs : s < t.length) : RchA (lang t s) kidL (ordL t s) := by
  intro S h0 hS k hk
  unfold ordL at hk
  rw [mem_ded, List.mem_map] at hk
  obtain ⟨x, hx, rfl⟩ := hk
  have I := iter_inv (f := rStep t) (fun q => ∀ x ∈ q.1, S (lang t x)) (by
    rintro ⟨l, a⟩ q' J h
    unfold rStep at h
    dsimp only at h J
    split at h
    · rename_i ha
      cases h
      dsimp only
      have hk := hS _ (J _ (getD_mem ha))
      intro x hx
      rw [mem_addN, mem_addN] at hx
      rcases hx with (hx | rfl) | rfl
      · exact J x hx
      · exact hk _ (by unfold kidL; exact List.mem_cons_self)
      · exact hk _ (by unfold kidL; exact List.mem_cons_of_mem _ List.mem_cons_self)
    · cases h) t.length (a := ([s], 0)) (by simpa using h0)
  exact I x hx
theorem ordL_lang (ok : Ok t) (hs : s < t.length) (ok' : Ok u) (hs' : s' < u.length) (h : lang t s = lang u s') : ordL t s = ordL u s' :=
  dedUnique (ordL_fix ok hs) (by rw [h]; exact ordL_fix ok' hs') (ordL_rch ok hs) (by rw [h]; exact ordL_rch ok' hs')
noncomputable def tabL (K : List Lg) : Tab := K.map fun l => (l [], (K.idxOf (der true l) : Nat), (K.idxOf (der false l) : Nat))
theorem cl_lang (ok : Ok t) {i j : Nat} (hi : i < t.length) (hj : j < t.length) : cl t i = cl t j ↔ lang t i = lang t j := by
  unfold cl
  rw [cls_iff ok hi hj]
  exact ⟨fun h => funext h, fun h w => congrFun h w⟩
theorem ded_two {B C : Type} [DecidableEq B] [DecidableEq C] (c : Nat → B) (d : Nat → C) (P : Nat → Prop) (h : ∀ x y, P x → P y → (c x = c y ↔ d x = d y)) : ∀ (l acc : List Nat), (∀ x ∈ l, P x) → (∀ x ∈ acc, P x) → ∃ r : List Nat, (∀ x ∈ r, x ∈ acc ∨ x ∈ l) ∧ (l.map c).foldl addN (acc.map c) = r.map c ∧ (l.map d).foldl addN (acc.map d) = r.map d
  | [], acc, _, _ => ⟨acc, fun x hx => .inl hx, rfl, rfl⟩
  | x :: l, acc, hl, ha => by
    rw [List.map_cons, List.map_cons, List.foldl_cons, List.foldl_cons]
    by_cases hx : c x ∈ acc.map c
    · have hx' : d x ∈ acc.map d := by
        rw [List.mem_map] at hx ⊢
        obtain ⟨y, hy, e⟩ := hx
        exact ⟨y, hy, (h y x (ha y hy) (hl x (by simp))).mp e⟩
      rw [addN_in hx, addN_in hx']
      obtain ⟨r, h1, h2, h3⟩ := ded_two c d P h l acc (fun y hy => hl y (by simp [hy])) ha
      exact ⟨r, fun y hy => (h1 y hy).imp id fun z => by simp [z], h2, h3⟩
    · have hx' : d x ∉ acc.map d := by
        intro z
        rw [List.mem_map] at z
        obtain ⟨y, hy, e⟩ := z
        exact hx (List.mem_map.mpr ⟨y, hy, (h y x (ha y hy) (hl x (by simp))).mpr e⟩)
      rw [addN_out hx, addN_out hx']
      obtain ⟨r, h1, h2, h3⟩ := ded_two c d P h l (acc ++ [x]) (fun y hy => hl y (by simp [hy])) fun y hy => by
        rw [List.mem_append, List.mem_singleton] at hy
        rcases hy with hy | rfl
        · exact ha y hy
        · exact hl y (by simp)
      rw [List.map_append] at h2 h3
      refine ⟨r, fun y hy => ?_, h2, h3⟩
      rcases h1 y hy with z | z
      · rw [List.mem_append, List.mem_singleton] at z
        rcases z with z | rfl
        · exact .inl z
        · exact .inr (by simp)
      · exact .inr (by simp [z])
theorem idx_two {B C : Type} [BEq B] [LawfulBEq B] [BEq C] [LawfulBEq C] (c : Nat → B) (d : Nat → C) {y : Nat} : ∀ (r : List Nat), (∀ x ∈ r, (c x = c y ↔ d x = d y)) → (r.map c).idxOf (c y) = (r.map d).idxOf (d y)
  | [], _ => rfl
  | x :: r, h => by
    have hx := h x (by simp)
    rw [List.map_cons, List.map_cons, List.idxOf_cons, List.idxOf_cons, idx_two c d r fun z hz => h z (by simp [hz])]
    by_cases e : c x = c y
    · have e' := hx.mp e
      rw [beq_iff_eq.mpr e, beq_iff_eq.mpr e']
    · have e' : ¬ d x = d y := fun z => e (hx.mpr z)
      rw [beq_eq_false_iff_ne.mpr e, beq_eq_false_iff_ne.mpr e']
theorem small_tabL (ok : Ok t) (hs : s < t.length) : small t s = tabL (ordL t s) := by
  have R := reach_spec ok hs
  have P := small_pi t s
  obtain ⟨r, h1, h2, h3⟩ := ded_two (cl t) (lang t) (fun x => x < t.length) (fun x y hx hy => cl_lang ok hx hy) (reach t s) [] R.lt (by simp)
  have hr : ∀ x ∈ r, x < t.length ∧ x ∈ reach t s := fun x hx => by
    rcases h1 x hx with z | z
    · simp at z
    · exact ⟨R.lt x z, z⟩
  have e1 : ordC t s = r.map (cl t) := by rw [ordC_eq]; exact h2
  have e2 : ordL t s = r.map (lang t) := h3
  have e3 : small t s = r.map fun x => ((row t x).1, (ordC t s).idxOf (cl t (row t x).2.1), (ordC t s).idxOf (cl t (row t x).2.2)) := by
    unfold small
    have e : ∀ y, ix t s y = (ordC t s).idxOf (cl t y) := fun y => rfl
    simp only [e]
    refine map_alike (cl t) (fun x => ((row t x).1, (ordC t s).idxOf (cl t (row t x).2.1), (ordC t s).idxOf (cl t (row t x).2.2))) (fun x => x < t.length) (fun x y hx hy h => ?_) _ _ ?_ (fun x hx => R.lt x (P.sub x hx)) fun x hx => (hr x hx).1
    · obtain ⟨h1, h2⟩ := cl_stable ok hx hy h
      simp only [kids, List.map_cons, List.map_nil, List.cons.injEq, and_true] at h2
      simp only [h1, h2.1, h2.2]
    · rw [← e1]; exact P.eq.symm
  rw [e3, e1, e2]
  unfold tabL
  rw [List.map_map]
  apply List.map_congr_left
  intro x hx
  have hk := ok _ (row_mem (hr x hx).1)
  have i1 := idx_two (cl t) (lang t) (y := (row t x).2.1) r fun z hz => cl_lang ok (hr z hz).1 hk.1
  have i2 := idx_two (cl t) (lang t) (y := (row t x).2.2) r fun z hz => cl_lang ok (hr z hz).1 hk.2
  rw [i1, i2]
  rfl
theorem small_lang (ok : Ok t) (hs : s < t.length) (ok' : Ok u) (hs' : s' < u.length) (h : ∀ w, (row t (run t s w)).1 = (row u (run u s' w)).1) : small t s = small u s' := by
  rw [small_tabL ok hs, small_tabL ok' hs', ordL_lang ok hs ok' hs' (funext h)]
theorem small_small (ok : Ok t) (hs : s < t.length) : small (small t s) 0 = small t s :=
  small_lang (small_ok ok hs) (small_pos ok hs) ok hs fun w => small_status ok hs w
end
end Tb
namespace Tb
def stk (rise fall : Nat) : Tab := (List.range fall).map (fun i => (true, 0, i + 1)) ++ (List.range rise).map (fun j => (false, (if j + 1 < rise then fall + j + 1 else 0), fall))
section
variable {rise fall : Nat}
theorem ded_nodup {A : Type} [DecidableEq A] : ∀ (l acc : List A), (acc ++ l).Nodup → l.foldl addN acc = acc ++ l
  | [], acc, _ => by simp
  | x :: l, acc, h => by
    have hx : x ∉ acc := fun z => by
      rw [List.nodup_append] at h
      exact h.2.2 x z x (by simp) rfl
    rw [List.foldl_cons, addN_out hx, ded_nodup l (acc ++ [x]) (by simpa using h)]
    simp
theorem nodup_inj {A : Type} (c : Nat → A) : ∀ {l : List Nat}, l.Nodup → (∀ x ∈ l, ∀ y ∈ l, c x = c y → x = y) → (l.map c).Nodup
  | [], _, _ => by simp
  | x :: l, h, hi => by
    rw [List.nodup_cons] at h
    rw [List.map_cons, List.nodup_cons, List.mem_map]
    refine ⟨?_, nodup_inj c h.2 fun a ha b hb => hi a (by simp [ha]) b (by simp [hb])⟩
    rintro ⟨y, hy, e⟩
    have := hi y (by simp [hy]) x (by simp) e
    subst this
    exact h.1 hy
end
end Tb
namespace Tb
def ign (n : Nat) (t : Tab) : Tab := ((List.range n).map fun i => ((row t 0).1, i + 1, i + 1)) ++ t.map fun r => (r.1, r.2.1 + n, r.2.2 + n)
section
variable {t : Tab} {n : Nat}
theorem ign_len : (ign n t).length = n + t.length := by unfold ign; simp
theorem ign_ok (ok : Ok t) (h : 0 < t.length) : Ok (ign n t) := by
  intro r hr
  rw [ign_len]
  unfold ign at hr
  rw [List.mem_append] at hr
  rcases hr with hr | hr
  · rw [List.mem_map] at hr
    obtain ⟨i, hi, rfl⟩ := hr
    rw [List.mem_range] at hi
    exact ⟨by show i + 1 < _; omega, by show i + 1 < _; omega⟩
  · rw [List.mem_map] at hr
    obtain ⟨q, hq, rfl⟩ := hr
    have := ok q hq
    exact ⟨by show q.2.1 + n < _; omega, by show q.2.2 + n < _; omega⟩
theorem ign_lo {i : Nat} (h : i < n) : row (ign n t) i = ((row t 0).1, i + 1, i + 1) := by
  show (ign n t).getD i _ = _
  unfold ign
  rw [List.getD_eq_getElem?_getD, List.getElem?_append_left (by simpa using h)]
  simp [h]
theorem ign_hi {i : Nat} (h : i < t.length) : row (ign n t) (i + n) = ((row t i).1, (row t i).2.1 + n, (row t i).2.2 + n) := by
  rw [row_eq h]
  show (ign n t).getD (i + n) _ = _
  unfold ign
  rw [List.getD_eq_getElem?_getD, List.getElem?_append_right (by simp)]
  simp [h]
theorem ign_nx_lo {i : Nat} (h : i < n) (b : Bool) : nx (ign n t) i b = i + 1 := by
  unfold nx; rw [ign_lo h]; cases b <;> rfl
theorem ign_nx_hi {i : Nat} (h : i < t.length) (b : Bool) : nx (ign n t) (i + n) b = nx t i b + n := by
  unfold nx; rw [ign_hi h]; cases b <;> rfl
end
def jn (f : Bool → Bool → Bool) (a b : Tab) : Tab := a.flatMap fun r => b.map fun q => (f r.1 q.1, r.2.1 * b.length + q.2.1, r.2.2 * b.length + q.2.2)
section
variable {f : Bool → Bool → Bool} {a b : Tab}
theorem jn_len : (jn f a b).length = a.length * b.length := by
  unfold jn
  rw [List.length_flatMap]
  simp only [List.length_map, List.map_const', List.sum_replicate_nat]
theorem mul_lt {i j n m : Nat} (hi : i < n) (hj : j < m) : i * m + j < n * m := by
  have : (i + 1) * m ≤ n * m := Nat.mul_le_mul_right m hi
  rw [Nat.succ_mul] at this
  omega
theorem jn_ok (oa : Ok a) (ob : Ok b) : Ok (jn f a b) := by
  intro r hr
  rw [jn_len]
  unfold jn at hr
  rw [List.mem_flatMap] at hr
  obtain ⟨x, hx, hr⟩ := hr
  rw [List.mem_map] at hr
  obtain ⟨y, hy, rfl⟩ := hr
  exact ⟨mul_lt (oa x hx).1 (ob y hy).1, mul_lt (oa x hx).2 (ob y hy).2⟩
theorem flat_get {A B : Type} (g : A → List B) (m : Nat) : ∀ (l : List A) (hg : ∀ x ∈ l, (g x).length = m) {i j : Nat} (hi : i < l.length) (hj : j < m), (l.flatMap g)[i * m + j]? = (g l[i])[j]?
  | [], _, i, j, hi, _ => by simp at hi
  | x :: l, hg, i, j, hi, hj => by
    rw [List.flatMap_cons]
    have hx := hg x (by simp)
    cases i with
    | zero =>
      rw [Nat.zero_mul, Nat.zero_add, List.getElem?_append_left (by omega)]
      rfl
    | succ i =>
      rw [List.getElem?_append_right (by rw [hx, Nat.succ_mul]; omega), hx]
      have e : (i + 1) * m + j - m = i * m + j := by rw [Nat.succ_mul]; omega
      rw [e]
      rw [List.length_cons] at hi
      rw [flat_get g m l (fun y hy => hg y (by simp [hy])) (by omega) hj]
      rfl
theorem jn_row {i j : Nat} (hi : i < a.length) (hj : j < b.length) : row (jn f a b) (i * b.length + j) = (f (row a i).1 (row b j).1, (row a i).2.1 * b.length + (row b j).2.1, (row a i).2.2 * b.length + (row b j).2.2) := by
  have h := flat_get (fun r : Row => b.map fun q => (f r.1 q.1, r.2.1 * b.length + q.2.1, r.2.2 * b.length + q.2.2)) b.length a (by simp) hi hj
  unfold row jn
  rw [List.getD_eq_getElem?_getD, h]
  simp [hi, hj]
theorem jn_nx {i j : Nat} (hi : i < a.length) (hj : j < b.length) (c : Bool) : nx (jn f a b) (i * b.length + j) c = nx a i c * b.length + nx b j c := by
  unfold nx; rw [jn_row hi hj]; cases c <;> rfl
theorem jn_run (oa : Ok a) (ob : Ok b) : ∀ (w : List Bool) {i j : Nat}, i < a.length → j < b.length → run (jn f a b) (i * b.length + j) w = run a i w * b.length + run b j w
  | [], i, j, _, _ => rfl
  | c :: w, i, j, hi, hj => by
    show run (jn f a b) (nx (jn f a b) (i * b.length + j) c) w = _
    rw [jn_nx hi hj, jn_run oa ob w (nx_lt oa hi c) (nx_lt ob hj c)]
    rfl
theorem jn_ans (oa : Ok a) (ob : Ok b) (ha : 0 < a.length) (hb : 0 < b.length) (w : List Bool) : (row (jn f a b) (run (jn f a b) 0 w)).1 = f (row a (run a 0 w)).1 (row b (run b 0 w)).1 := by
  have h := jn_run (f := f) oa ob w ha hb
  rw [Nat.zero_mul, Nat.zero_add] at h
  rw [h, jn_row (run_lt oa w ha) (run_lt ob w hb)]
theorem jn_small (oa : Ok a) (ob : Ok b) (ha : 0 < a.length) (hb : 0 < b.length) : small (jn f (small a 0) (small b 0)) 0 = small (jn f a b) 0 := by
  have sa := small_ok oa ha
  have sb := small_ok ob hb
  have pa := small_pos oa ha
  have pb := small_pos ob hb
  refine small_lang (jn_ok sa sb) (by rw [jn_len]; exact Nat.mul_pos pa pb) (jn_ok oa ob) (by rw [jn_len]; exact Nat.mul_pos ha hb) fun w => ?_
  rw [jn_ans sa sb pa pb, jn_ans oa ob ha hb, small_status oa ha, small_status ob hb]
end
end Tb
namespace Tb
def q0 : KL := ([(0, 0)], [([], 0, 0)])
end Tb
namespace Tb
def hSt (m : Nat) (q : Bool × Nat) (v : Bool) : Bool × Nat := if 0 < q.2 then (q.1, q.2 - 1) else if v = q.1 then (q.1, 0) else (v, m)
section
variable {t : Tab} {m : Nat}
def hR (m : Nat) : Bool × Nat → Lg → List Bool → Bool × Nat
  | q, _, [] => q
  | q, f, b :: w => hR m (hSt m q (f [b])) (der b f) w
def hL (m : Nat) (f : Lg) : Lg := fun w => (hR m (f [], 0) f w).1
end
end Tb
namespace Tb
section
variable {t : Tab}
theorem reach_rch {s : Nat} : Rch s (kids t) (reach t s) := by
  intro S h0 hS k hk
  have I := iter_inv (f := rStep t) (fun q => ∀ x ∈ q.1, S x) (by
    rintro ⟨l, a⟩ q' J h
    unfold rStep at h
    dsimp only at h J
    split at h
    · rename_i ha
      cases h
      dsimp only
      have hk := hS _ (J _ (getD_mem ha))
      intro x hx
      rw [mem_addN, mem_addN] at hx
      rcases hx with (hx | rfl) | rfl
      · exact J x hx
      · exact hk _ (by unfold kids; exact List.mem_cons_self)
      · exact hk _ (by unfold kids; exact List.mem_cons_of_mem _ List.mem_cons_self)
    · cases h) t.length (a := ([s], 0)) (by simpa using h0)
  exact I k hk
theorem ded_of_nodup {A : Type} [DecidableEq A] : ∀ (l acc : List A), (acc ++ l).Nodup → l.foldl addN acc = acc ++ l
  | [], acc, _ => by simp
  | x :: l, acc, h => by
    have hx : x ∉ acc := by
      intro hx
      rw [List.nodup_append] at h
      exact h.2.2 x hx x (by simp) rfl
    rw [List.foldl_cons, addN_out hx, ded_of_nodup l (acc ++ [x]) (by simpa using h)]
    simp
theorem idx_map {A : Type} [BEq A] [LawfulBEq A] (c : Nat → A) : ∀ (l : List Nat) (x : Nat), (∀ y ∈ l, c y = c x → y = x) → x ∈ l → (l.map c).idxOf (c x) = l.idxOf x
  | [], x, _, h => by simp at h
  | y :: l, x, hi, h => by
    rw [List.map_cons, List.idxOf_cons, List.idxOf_cons]
    by_cases e : y = x
    · subst e; simp
    · have e' : ¬ c y = c x := fun z => e (hi y (by simp) z)
      rw [beq_eq_false_iff_ne.mpr e, beq_eq_false_iff_ne.mpr e']
      have hx : x ∈ l := by
        rcases List.mem_cons.mp h with rfl | h
        · exact absurd rfl e
        · exact h
      simp only [cond_false]
      rw [idx_map c l x (fun z hz => hi z (by simp [hz])) hx]
theorem idx_range {n x : Nat} (h : x < n) : (List.range n).idxOf x = x := by
  induction n with
  | zero => omega
  | succ n ih =>
    rw [List.range_succ, List.idxOf_append]
    by_cases hx : x < n
    · rw [if_pos (by simpa using hx), ih hx]
    · have : x = n := by omega
      subst this
      rw [if_neg (by simp)]
      simp
theorem small_self (ok : Ok t) (hp : 0 < t.length) (hr : reach t 0 = List.range t.length) (hi : ∀ i j, i < t.length → j < t.length → lang t i = lang t j → i = j) : small t 0 = t := by
  rw [small_tabL ok hp]
  have e : ordL t 0 = (List.range t.length).map (lang t) := by
    unfold ordL
    rw [hr]
    have hn : ((List.range t.length).map (lang t)).Nodup := by
      rw [List.nodup_iff_pairwise_ne, List.pairwise_map]
      have := List.nodup_range (n := t.length)
      rw [List.nodup_iff_pairwise_ne] at this
      refine List.Pairwise.imp_of_mem (fun {a b} ha hb hab z => ?_) this
      rw [List.mem_range] at ha hb
      exact hab (hi a b ha hb z)
    have := ded_of_nodup ((List.range t.length).map (lang t)) [] (by simpa using hn)
    unfold ded
    rw [this]
    simp
  rw [e]
  unfold tabL
  rw [List.map_map]
  have key : ∀ x, x < t.length → ((List.range t.length).map (lang t)).idxOf (lang t x) = x := fun x hx => by
    rw [idx_map (lang t) (List.range t.length) x (fun y hy z => hi y x (by simpa using hy) hx z) (by simpa using hx), idx_range hx]
  apply List.ext_getElem
  · simp
  · intro i h1 h2
    rw [List.getElem_map]
    have hix : i < t.length := h2
    have hk := ok _ (row_mem hix)
    have e1 : (List.range t.length)[i]'(by simpa using hix) = i := by simp
    rw [e1]
    show ((lang t i []), ((List.range t.length).map (lang t)).idxOf (der true (lang t i)), ((List.range t.length).map (lang t)).idxOf (der false (lang t i))) = t[i]
    have d1 : der true (lang t i) = lang t (nx t i true) := rfl
    have d2 : der false (lang t i) = lang t (nx t i false) := rfl
    rw [d1, d2, key _ (nx_lt ok hix true), key _ (nx_lt ok hix false)]
    have hrow := row_eq hix
    rw [← hrow]
    rfl
end
def chT (n : Nat) : Tab := ((List.range (n - 1)).map fun i => (false, i + 1, 0)) ++ [(true, n - 1, 0)]
section
variable {n : Nat}
theorem chT_len (h : 1 ≤ n) : (chT n).length = n := by unfold chT; simp; omega
theorem chT_lo (h : 1 ≤ n) {i : Nat} (hi : i < n - 1) : row (chT n) i = (false, i + 1, 0) := by
  rw [row_eq (by rw [chT_len h]; omega)]
  unfold chT
  rw [List.getElem_append_left (by simpa using hi)]
  simp
theorem chT_hi (h : 1 ≤ n) : row (chT n) (n - 1) = (true, n - 1, 0) := by
  rw [row_eq (by rw [chT_len h]; omega)]
  unfold chT
  rw [List.getElem_append_right (by simp)]
  simp
theorem chT_ok (h : 1 ≤ n) : Ok (chT n) := by
  intro r hr
  rw [chT_len h]
  unfold chT at hr
  rw [List.mem_append, List.mem_map] at hr
  rcases hr with ⟨i, hi, rfl⟩ | hr
  · rw [List.mem_range] at hi
    exact ⟨by dsimp only; omega, by dsimp only; omega⟩
  · rw [List.mem_singleton] at hr
    subst hr
    exact ⟨by dsimp only; omega, by dsimp only; omega⟩
theorem chT_kids (h : 1 ≤ n) {i : Nat} (hi : i < n) : kids (chT n) i = [if i < n - 1 then i + 1 else n - 1, 0] := by
  unfold kids
  by_cases c : i < n - 1
  · rw [chT_lo h c, if_pos c]
  · have : i = n - 1 := by omega
    subst this
    rw [chT_hi h, if_neg c]
theorem chT_ded (h : 1 ≤ n) : ∀ m, m ≤ n - 1 → ded (0 :: (List.range m).flatMap (kids (chT n))) = List.range (m + 1)
  | 0, _ => rfl
  | m + 1, hm => by
    have ih := chT_ded h m (by omega)
    rw [List.range_succ, List.flatMap_append, ← List.cons_append, ded_append, ih, List.flatMap_singleton, chT_kids h (by omega), if_pos (by omega)]
    rw [List.foldl_cons, List.foldl_cons, List.foldl_nil]
    have e1 : addN (List.range (m + 1)) (m + 1) = List.range (m + 1 + 1) := by
      rw [addN_out (by simp), ← List.range_succ]
    rw [e1, addN_in (by simp)]
theorem chT_reach (h : 1 ≤ n) : reach (chT n) 0 = List.range n := by
  have ok := chT_ok h
  have hp : 0 < (chT n).length := by rw [chT_len h]; omega
  have hd : List.range n = ded (0 :: (List.range n).flatMap (kids (chT n))) := by
    have e := chT_ded h (n - 1) (Nat.le_refl _)
    have en : List.range n = List.range (n - 1) ++ [n - 1] := by
      conv => lhs; rw [show n = (n - 1) + 1 by omega]
      rw [List.range_succ]
    conv => rhs; rw [en]
    rw [List.flatMap_append, ← List.cons_append, ded_append, e, List.flatMap_singleton, chT_kids h (by omega), if_neg (by omega), List.foldl_cons, List.foldl_cons, List.foldl_nil]
    rw [addN_in (show n - 1 ∈ List.range (n - 1 + 1) by simp), addN_in (show 0 ∈ List.range (n - 1 + 1) by simp)]
    rw [show n - 1 + 1 = n by omega]
  refine ded_unique (reach_fix ok hp) hd reach_rch ?_
  intro S h0 hS k hk
  rw [List.mem_range] at hk
  have : ∀ k, k < n → S k := by
    intro k
    induction k with
    | zero => intro _; exact h0
    | succ k ih =>
      intro hk
      refine hS k (ih (by omega)) (k + 1) ?_
      rw [chT_kids h (by omega), if_pos (by omega)]
      simp
  exact this k hk
theorem chT_pass (h : 1 ≤ n) : ∀ (m i : Nat), i < n → run (chT n) i (List.replicate m true) = min (i + m) (n - 1)
  | 0, i, hi => by show i = _; omega
  | m + 1, i, hi => by
    rw [List.replicate_succ]
    show run (chT n) (nx (chT n) i true) (List.replicate m true) = _
    unfold nx
    by_cases c : i < n - 1
    · rw [chT_lo h c]
      simp only [if_true]
      rw [chT_pass h m (i + 1) (by omega)]
      congr 1
      omega
    · have : i = n - 1 := by omega
      subst this
      rw [chT_hi h]
      simp only [if_true]
      rw [chT_pass h m (n - 1) (by omega)]
      omega
theorem chT_inj (h : 1 ≤ n) {i j : Nat} (hi : i < n) (hj : j < n) (e : lang (chT n) i = lang (chT n) j) : i = j := by
  have key : ∀ i j, i < n → j < n → lang (chT n) i = lang (chT n) j → i ≤ j := by
    intro i j hi hj e
    have e1 := congrFun e (List.replicate (n - 1 - i) true)
    unfold lang at e1
    rw [chT_pass h _ i hi, chT_pass h _ j hj] at e1
    by_cases c : i ≤ j
    · exact c
    · exfalso
      rw [show min (i + (n - 1 - i)) (n - 1) = n - 1 by omega, show min (j + (n - 1 - i)) (n - 1) = j + (n - 1 - i) by omega, chT_hi h, chT_lo h (by omega)] at e1
      cases e1
  exact Nat.le_antisymm (key i j hi hj e) (key j i hj hi e.symm)
theorem chT_small (h : 1 ≤ n) : small (chT n) 0 = chT n := by
  have hl := chT_len h
  refine small_self (chT_ok h) (by omega) (by rw [hl]; exact chT_reach h) fun i j hi hj e => ?_
  rw [hl] at hi hj
  exact chT_inj h hi hj e
end
end Tb
namespace Hi
theorem zip_app (f : Bool → Bool → Bool) (s1 s2 c1 c2 : List Bool) (h : s1.length = c1.length) : List.zipWith f (s1 ++ s2) (c1 ++ c2) = List.zipWith f s1 c1 ++ List.zipWith f s2 c2 := List.zipWith_append h
end Hi
namespace Hi
theorem fp_app {s1 s2 c1 c2 : List Bool} (h : s1.length = c1.length) : fpL (s1 ++ s2) (c1 ++ c2) = fpL s1 c1 ++ fpL s2 c2 := zip_app _ _ _ _ _ h
theorem ff_app {s1 s2 c1 c2 : List Bool} (h : s1.length = c1.length) : ffL (s1 ++ s2) (c1 ++ c2) = ffL s1 c1 ++ ffL s2 c2 := zip_app _ _ _ _ _ h
end Hi
namespace Hi
theorem starts_snoc (s : List Bool) (x : Bool) : starts (s ++ [x]) = starts s ++ if s ≠ [] ∧ s.getLastD false ≠ x then [s.length] else [] := by
  unfold starts
  rw [List.length_append, List.length_singleton, Nat.add_sub_cancel]
  by_cases h0 : s = []
  · subst h0; rfl
  · have hpos : 0 < s.length := List.length_pos_iff.mpr h0
    have e1 : List.range' 1 s.length = List.range' 1 (s.length - 1) ++ [s.length] := by
      have : s.length = (s.length - 1) + 1 := by omega
      rw [this, List.range'_concat]
      simp
      omega
    rw [e1, List.filter_append]
    congr 1
    · refine List.filter_congr fun i hi => ?_
      rw [List.mem_range'_1] at hi
      simp only [List.getD_eq_getElem?_getD]
      rw [List.getElem?_append_left (by omega), List.getElem?_append_left (by omega)]
    · have e2 : (s ++ [x]).getD s.length false = x := by simp [List.getD_eq_getElem?_getD]
      have e3 : (s ++ [x]).getD (s.length - 1) false = s.getLastD false := by
        simp only [List.getD_eq_getElem?_getD]
        rw [List.getElem?_append_left (by omega)]
        rw [List.getLastD_eq_getLast?, List.getLast?_eq_getElem?]
      rw [List.filter_cons, e2, e3]
      generalize s.getLastD false = y
      by_cases h : y = x
      · rw [if_neg (by simp [h]), if_neg (by simp [h])]; rfl
      · have hb : (x != y) = true := by simp; exact fun e => h e.symm
        rw [if_pos hb, if_pos ⟨h0, h⟩]; rfl
theorem gaps_snoc {k : Nat} {l : List Nat} {m : Nat} (h : gaps k l = true) (hm : l = [] ∨ l.getLastD 0 + k ≤ m) : gaps k (l ++ [m]) = true := by
  unfold gaps at h ⊢
  rw [List.all_eq_true] at h ⊢
  intro j hj
  rw [List.length_append, List.length_singleton, List.mem_range'_1] at hj
  simp only [List.getD_eq_getElem?_getD]
  by_cases hl : j < l.length
  · have := h j (by rw [List.mem_range'_1]; omega)
    simp only [List.getD_eq_getElem?_getD] at this
    rw [List.getElem?_append_left (by omega), List.getElem?_append_left (by omega)]
    exact this
  · have e : j = l.length := by omega
    have hne : l ≠ [] := by intro z; rw [z] at hj; simp at hj; omega
    rcases hm with hm | hm
    · exact absurd hm hne
    · have e1 : (l ++ [m])[j]? = some m := by rw [e]; simp
      have e2 : (l ++ [m])[j - 1]? = l[l.length - 1]? := by rw [List.getElem?_append_left (by omega), e]
      have e3 : (l[l.length - 1]?).getD 0 = l.getLastD 0 := by rw [List.getLastD_eq_getLast?, List.getLast?_eq_getElem?]
      rw [e1, e2, e3]
      generalize l.getLastD 0 = y at hm
      simp
      omega
theorem cnt_drop {l : List Bool} {i j : Nat} (h : j ≤ i) : (l.drop i).countP id ≤ (l.drop j).countP id := by
  have : l.drop i = (l.drop j).drop (i - j) := by rw [List.drop_drop]; congr 1; omega
  rw [this]
  exact (List.drop_sublist _ _).countP_le
theorem wnd_snoc {l : List Bool} {p : Bool} {i n a : Nat} (hn : 1 ≤ n) (hi : i ≤ l.length) (h : ∀ i, i < l.length → (wnd l i n).countP id ≤ a) (hl : ((l ++ [p]).drop (l.length + 1 - n)).countP id ≤ a) : (wnd (l ++ [p]) i n).countP id ≤ a := by
  by_cases c : i + n ≤ l.length
  · have : wnd (l ++ [p]) i n = wnd l i n := by
      unfold wnd
      rw [List.drop_append_of_le_length (by omega), List.take_append_of_le_length (by rw [List.length_drop]; omega)]
    rw [this]
    exact h i (by omega)
  · have h1 : (wnd (l ++ [p]) i n).countP id ≤ ((l ++ [p]).drop i).countP id := (List.take_sublist _ _).countP_le
    exact Nat.le_trans h1 (Nat.le_trans (cnt_drop (by omega)) hl)
theorem last_quiet {l : List Bool} {n a : Nat} (hn : 1 ≤ n) (h : ∀ i, i < l.length → (wnd l i n).countP id ≤ a) : ((l ++ [false]).drop (l.length + 1 - n)).countP id ≤ a := by
  rw [List.drop_append_of_le_length (by omega), List.countP_append]
  have e0 : [false].countP id = 0 := rfl
  rw [e0, Nat.add_zero]
  by_cases c : l.length + 1 - n < l.length
  · have := h _ c
    unfold wnd at this
    rw [List.take_of_length_le (by rw [List.length_drop]; omega)] at this
    exact this
  · rw [List.drop_eq_nil_of_le (by omega)]
    exact Nat.zero_le _
theorem fp_snoc {s c : List Bool} (h : s.length = c.length) (x y : Bool) : fpL (s ++ [x]) (c ++ [y]) = fpL s c ++ [!x && y] := by rw [fp_app h]; rfl
theorem ff_snoc {s c : List Bool} (h : s.length = c.length) (x y : Bool) : ffL (s ++ [x]) (c ++ [y]) = ffL s c ++ [x && !y] := by rw [ff_app h]; rfl
theorem okW_each {a b n : Nat} {s c : List Bool} (h : okW a b n s c = true) : ∀ i, i < c.length → (wnd (fpL s c) i n).countP id ≤ a ∧ (wnd (ffL s c) i n).countP id ≤ b := by
  unfold okW letB at h
  rw [List.all_eq_true] at h
  intro i hi
  have := h i (List.mem_range.2 hi)
  rw [Bool.and_eq_true, decide_eq_true_eq, decide_eq_true_eq] at this
  exact this
theorem Gr.step {a b n k : Nat} {s c : List Bool} {age age' : Nat} {cur cur' e : Bool} (hn : 1 ≤ n) (h : Gr a b n k s c age cur) (hc : (cur' = cur ∧ age' = age) ∨ (s ≠ [] ∧ k ≤ age ∧ cur' = !cur ∧ age' = 0))
    (he : e = true → letB a b ((fpL s c ++ [!cur']).drop (s.length + 1 - n)) ((ffL s c ++ [cur']).drop (s.length + 1 - n)) = true) : Gr a b n k (s ++ [cur']) (c ++ [cur' == !e]) (age' + 1) cur' := by
  have hl := h.len
  have lp : (fpL s c).length = s.length := by unfold fpL; rw [List.length_zipWith]; omega
  have lf : (ffL s c).length = s.length := by unfold ffL; rw [List.length_zipWith]; omega
  have ev := okW_each h.w
  have ep : ∀ i, i < (fpL s c).length → (wnd (fpL s c) i n).countP id ≤ a := fun i hi => (ev i (by omega)).1
  have ef : ∀ i, i < (ffL s c).length → (wnd (ffL s c) i n).countP id ≤ b := fun i hi => (ev i (by omega)).2
  have key : ((fpL s c ++ [!cur' && (cur' == !e)]).drop ((fpL s c).length + 1 - n)).countP id ≤ a ∧ ((ffL s c ++ [cur' && !(cur' == !e)]).drop ((ffL s c).length + 1 - n)).countP id ≤ b := by
    rw [lp, lf]
    cases e with
    | false =>
      have e1 : (!cur' && (cur' == !false)) = false := by cases cur' <;> rfl
      have e2 : (cur' && !(cur' == !false)) = false := by cases cur' <;> rfl
      rw [e1, e2]
      have := last_quiet hn ep
      have := last_quiet hn ef
      rw [lp] at *
      rw [lf] at *
      exact ⟨by assumption, by assumption⟩
    | true =>
      have e1 : (!cur' && (cur' == !true)) = !cur' := by cases cur' <;> rfl
      have e2 : (cur' && !(cur' == !true)) = cur' := by cases cur' <;> rfl
      rw [e1, e2]
      have := he rfl
      unfold letB at this
      rw [Bool.and_eq_true, decide_eq_true_eq, decide_eq_true_eq] at this
      exact this
  refine ⟨by simp [hl], ?_, ?_, fun _ => by simp, ?_⟩
  · unfold okW letB
    rw [List.all_eq_true]
    intro i hi
    rw [List.mem_range, List.length_append, List.length_singleton] at hi
    rw [fp_snoc hl, ff_snoc hl, Bool.and_eq_true, decide_eq_true_eq, decide_eq_true_eq]
    exact ⟨wnd_snoc hn (by omega) ep key.1, wnd_snoc hn (by omega) ef key.2⟩
  · rw [starts_snoc]
    rcases hc with ⟨rfl, rfl⟩ | ⟨hs, hk, rfl, rfl⟩
    · rw [if_neg (fun q => q.2 (h.last q.1)), List.append_nil]
      exact h.st
    · rw [if_pos ⟨hs, by rw [h.last hs]; cases cur <;> simp⟩]
      refine gaps_snoc h.st ?_
      rcases h.age with q | q
      · exact .inl q
      · exact .inr (by omega)
  · rw [starts_snoc]
    rcases hc with ⟨rfl, rfl⟩ | ⟨hs, hk, rfl, rfl⟩
    · rw [if_neg (fun q => q.2 (h.last q.1)), List.append_nil]
      rcases h.age with q | q
      · exact .inl q
      · refine .inr ?_
        rw [List.length_append, List.length_singleton]
        omega
    · rw [if_pos ⟨hs, by rw [h.last hs]; cases cur <;> simp⟩]
      refine .inr ?_
      simp
end Hi
namespace Ly
open Hi Tb
structure Small (a b n k : Nat) : Prop where
  la : a ≤ 3
  lb : b ≤ 3
  ln : 1 ≤ n ∧ n ≤ 5
  lk : 1 ≤ k ∧ k ≤ 2
  kn : k = 1 ∨ n ≤ 2
  ab : a = 0 ∨ b = 0 ∨ n ≤ 3
def allQ (a b n k rows : Nat) : List Sit := (List.range rows).flatMap fun r => [false, true].flatMap fun s => (List.range k).flatMap fun g => ((allFl (n - 1)).filter (lets a b)).map fun f => ⟨r, s, g + 1, f⟩
theorem fl_small : ∀ a b : Fin 4, ∀ n : Fin 5, ∀ k : Fin 2, (k.val + 1 = 1 ∨ n.val + 1 ≤ 2) → (a.val = 0 ∨ b.val = 0 ∨ n.val + 1 ≤ 3) → (k.val + 1) * ((allFl (n.val + 1 - 1)).filter (lets a.val b.val)).length ≤ 16 := by decide +kernel
theorem allQ_len {a b n k : Nat} (h : Small a b n k) (rows : Nat) : (allQ a b n k rows).length ≤ 32 * rows := by
  have hf := fl_small ⟨a, by have := h.la; omega⟩ ⟨b, by have := h.lb; omega⟩ ⟨n - 1, by have := h.ln; omega⟩ ⟨k - 1, by have := h.lk; omega⟩ (by
    have := h.kn; have := h.lk; have := h.ln
    show k - 1 + 1 = 1 ∨ n - 1 + 1 ≤ 2
    omega) (by
    have := h.ab; have := h.ln
    show a = 0 ∨ b = 0 ∨ n - 1 + 1 ≤ 3
    omega)
  have hf : (k - 1 + 1) * ((allFl (n - 1 + 1 - 1)).filter (lets a b)).length ≤ 16 := hf
  rw [Nat.sub_add_cancel h.lk.1, Nat.sub_add_cancel h.ln.1] at hf
  generalize hF : (allFl (n - 1)).filter (lets a b) = F at hf
  have hin : ∀ r s, ((List.range k).flatMap fun g => F.map fun f => (⟨r, s, g + 1, f⟩ : Sit)).length = k * F.length := by
    intro r s
    generalize k = m
    induction m with
    | zero => simp
    | succ m ih =>
      rw [List.range_succ, List.flatMap_append, List.length_append, ih, List.flatMap_singleton, List.length_map, Nat.succ_mul]
  unfold allQ
  rw [hF]
  induction rows with
  | zero => simp
  | succ r ih =>
    rw [List.range_succ, List.flatMap_append, List.length_append, List.flatMap_singleton]
    have : ([false, true].flatMap fun s => (List.range k).flatMap fun g => F.map fun f => (⟨r, s, g + 1, f⟩ : Sit)).length ≤ 32 := by
      rw [List.flatMap_cons, List.flatMap_cons, List.flatMap_nil, List.append_nil, List.length_append, hin, hin]
      omega
    omega
theorem allQ_mem {a b n k rows : Nat} {x : Sit} (h : SitOk a b n k rows x) : x ∈ allQ a b n k rows := by
  obtain ⟨r, s, g, f⟩ := x
  have h1 := h.row
  have h2 := h.age
  have h3 := h.len
  have h4 := h.fl
  have h5 := h.lt
  dsimp only at *
  unfold allQ
  refine List.mem_flatMap.2 ⟨r, List.mem_range.2 h1, List.mem_flatMap.2 ⟨s, by cases s <;> simp, List.mem_flatMap.2 ⟨g - 1, List.mem_range.2 (by omega), List.mem_map.2 ⟨f, List.mem_filter.2 ⟨?_, h5⟩, ?_⟩⟩⟩⟩
  · have := allFl_mem f h4
    have e : f.length = n - 1 := by omega
    rw [e] at this
    exact this
  · have e : g - 1 + 1 = g := by omega
    rw [e]
theorem small_len {a b n k rows : Nat} (h : Small a b n k) {l : List Sit} (hd : l.Nodup) (ho : ∀ x ∈ l, SitOk a b n k rows x) : l.length ≤ 32 * rows :=
  Nat.le_trans (nodup_len l _ hd fun x hx => allQ_mem (ho x hx)) (allQ_len h rows)
end Ly
namespace Sh
section
variable {A Q : Type} [DecidableEq A] (st : List A) (g : A → List (Q × A)) (good : A → Bool)
variable {st g good}
structure Inv (st : List A) (g : A → List (Q × A)) (good : A → Bool) (i : Nat) (ps : List (Pt A Q)) (kn : List A) : Prop where
  pth : ∀ p ∈ ps, p.1.length = i ∧ Pth st g p.1 p.2
  nd : kn.Nodup
  bad : ∀ x ∈ kn, good x = false
  cl : ∀ x ∈ kn, ∀ q ∈ g x, q.2 ∈ kn ∨ q.2 ∈ ps.map (·.2)
  d1 : ∀ w x, Pth st g w x → w.length < i → x ∈ kn
  d2 : ∀ w x, Pth st g w x → w.length = i → x ∈ kn ∨ x ∈ ps.map (·.2)
  rch : ∀ x ∈ kn, ∃ w, Pth st g w x
theorem inv_start : Inv st g good 0 (first Q st) [] where
  pth := fun p hp => by
    obtain ⟨x, hx, rfl⟩ := List.mem_map.1 hp
    exact ⟨rfl, .nil hx⟩
  nd := List.nodup_nil
  bad := fun x hx => nomatch hx
  cl := fun x hx => nomatch hx
  d1 := fun w x _ h => by omega
  d2 := fun w x h hl => by
    cases h with
    | nil hx => exact .inr (List.mem_map.2 ⟨([], x), List.mem_map.2 ⟨x, hx, rfl⟩, rfl⟩)
    | snoc h _ => simp at hl
  rch := fun x hx => nomatch hx
end
end Sh
namespace Ly
open Hi Tb Sh
structure Ky where
  run : Nat
  x : Sit
  e : Bool
  deriving DecidableEq
end Ly
namespace Ly
open Hi Tb Sh
theorem flat_le {A B : Type} (f : A → List B) (c : Nat) : ∀ l : List A, (∀ x ∈ l, (f x).length ≤ c) → (l.flatMap f).length ≤ l.length * c
  | [], _ => by simp
  | x :: l, h => by
    have h1 := h x List.mem_cons_self
    have ih := flat_le f c l fun y hy => h y (List.mem_cons_of_mem _ hy)
    rw [List.flatMap_cons, List.length_append, List.length_cons, Nat.add_mul, Nat.one_mul]
    omega
theorem keys_len {a b n k rows N : Nat} (h : Small a b n k) {l : List Ky} (hd : l.Nodup) (ho : ∀ q ∈ l, q.run ≤ N ∧ SitOk a b n k rows q.x) : l.length ≤ (N + 1) * (32 * rows * 2) := by
  have hsub : ∀ q ∈ l, q ∈ (List.range (N + 1)).flatMap fun r => (allQ a b n k rows).flatMap fun x => [(⟨r, x, false⟩ : Ky), ⟨r, x, true⟩] := by
    intro q hq
    obtain ⟨h1, h2⟩ := ho q hq
    refine List.mem_flatMap.2 ⟨q.run, List.mem_range.2 (by omega), List.mem_flatMap.2 ⟨q.x, allQ_mem h2, ?_⟩⟩
    obtain ⟨r, x, e⟩ := q
    cases e <;> simp
  refine Nat.le_trans (nodup_len l _ hd hsub) (Nat.le_trans (flat_le _ (32 * rows * 2) _ fun r _ => ?_) ?_)
  · refine Nat.le_trans (flat_le _ 2 _ fun x _ => Nat.le_refl _) ?_
    have := allQ_len h rows
    omega
  · rw [List.length_range]
    exact Nat.le_refl _
end Ly
namespace Ly
open Hi Tb
def mE (b n j : Nat) : Nat := min j (b * (j / n) + min b (j % n))
end Ly
namespace By
def bit (b : Bool) : Int := if b then 1 else 0
def v8 (l : List Bool) : Int := l.foldl (fun n b => n * 2 + bit b) 0
def nb (w : List Bool) : Nat := (w.length + 7) / 8
end By
namespace Cy
variable {α : Type} [DecidableEq α]
inductive Bk (p : α → Option (α × Int)) : α → α → Int → Nat → Prop
  | nil (u : α) : Bk p u u 0 0
  | cons {u x v : α} {c d : Int} {n : Nat} : p u = some (x, c) → Bk p x v d n → Bk p u v (c + d) (n + 1)
structure Inv (E : α → α → Int → Prop) (s : Sw α) : Prop where
  up : ∀ y x c, s.p y = some (x, c) → s.w y ≤ s.w x + c
  no : ∀ y, s.p y = none → s.w y = 0
  ed : ∀ y x c, s.p y = some (x, c) → E x y c
  po : ∀ u d n, Bk s.p u u d (n + 1) → 0 < d
def turnF (es : List (α × α × Int)) (s : Sw α) : Sw α × Bool := es.foldl (fun q e => if q.1.w e.1 + e.2.2 > q.1.w e.2.1 then (look q.1 e, true) else q) (s, false)
def s0 : Sw α := ⟨fun _ => 0, fun _ => none⟩
def after (es : List (α × α × Int)) : Nat → Sw α
  | 0 => s0
  | j + 1 => (turnF es (after es j)).1
end Cy
namespace Cy
def above (N f l : Nat) : Nat := ((List.range (N + 1)).flatMap fun l' => (List.range (l' + 1)).map fun f' => (f', l')).countP fun q => decide (f * q.2 < q.1 * l)
variable {α : Type} [DecidableEq α]
end Cy
namespace Cy
variable {α : Type} [DecidableEq α]
def fwd (st : α → Bool → Option (Nat × α)) : α → List Bool → Option (Nat × α)
  | x, [] => some (0, x)
  | x, c :: cs => (st x c).bind fun q => (fwd st q.2 cs).map fun r => (q.1 + r.1, r.2)
def back (bf : α → Option (Bool × α)) : Nat → α → Option α
  | 0, x => some x
  | n + 1, x => (bf x).bind fun q => back bf n q.2
end Cy
namespace Cy
variable {α : Type} [DecidableEq α]
structure Hv (α : Type) where
  w : α → Int
  bf : α → Option (Bool × α)
  bl : List α
  mv : Bool
abbrev CE (α : Type) := α × Nat × Bool × α
def h0 : Hv α := ⟨fun _ => 0, fun _ => none, [], true⟩
def bare (ce : List (CE α)) : List (α × α × Int) := ce.map fun e => (e.1, e.2.2.2, (e.2.1 : Int))
end Cy
namespace Cy
variable {α : Type} [DecidableEq α]
structure Rd (st : α → Bool → Option (Nat × α)) (ns : List α) (x : α) (cs : List Bool) (f : Nat) : Prop where
  mem : x ∈ ns
  pos : 1 ≤ cs.length
  len : cs.length ≤ ns.length
  go : fwd st x cs = some (f, x)
end Cy
namespace Cy
variable {α : Type} [DecidableEq α]
def pm (lv : List (α × Int)) (v : α) (c : Int) : List (α × Int) :=
  if v ∈ lv.map (·.1) then lv.map (fun q => if q.1 = v then (q.1, max q.2 c) else q) else lv ++ [(v, max 0 c)]
def more (p q : Int × Int) : Int × Int := if q.1 * p.2 > p.1 * q.2 then q else p
end Cy
namespace Cy
variable {α : Type} [DecidableEq α]
structure Mf (α : Type) where
  f : α → Int
  ks : List α
  best : Int
  lat : List (α × Int)
section
variable {ed : α → List (Nat × α)} {es : List (α × α × Int)} {st ns : List α} {M : Int}
def m0 : Mf α := ⟨fun _ => 0, [], 0, []⟩
end
end Cy
namespace Fp
variable {α L : Type} [DecidableEq α]
def putK (kn : Kn α) (k : α × Bool) (v : Nat) : Kn α := if (kn.any fun q => decide (q.1 = k)) = true then kn.map (fun q => if q.1 = k then (q.1, v) else q) else kn ++ [(k, v)]
end Fp
namespace Tb
theorem chg_app {F : List Bool} {x : Bool} {k : Nat} (hp : 0 < F.length) : chg (F ++ [x]) k ↔ chg F k ∨ (k = F.length ∧ x ≠ F.getD (F.length - 1) false) := by
  unfold chg
  have g1 : ∀ j, j < F.length → (F ++ [x]).getD j false = F.getD j false := fun j hj => by
    rw [List.getD_eq_getElem?_getD, List.getD_eq_getElem?_getD, List.getElem?_append_left hj]
  have g2 : (F ++ [x]).getD F.length false = x := by
    rw [List.getD_eq_getElem?_getD, List.getElem?_append_right (Nat.le_refl _), Nat.sub_self]; rfl
  rw [List.length_append, List.length_singleton]
  constructor
  · rintro ⟨h1, h2, h3⟩
    by_cases hk : k < F.length
    · rw [g1 k hk, g1 (k - 1) (by omega)] at h3
      exact .inl ⟨h1, hk, h3⟩
    · have e : k = F.length := by omega
      subst e
      rw [g2, g1 _ (by omega)] at h3
      exact .inr ⟨rfl, h3⟩
  · rintro (⟨h1, h2, h3⟩ | ⟨h1, h2⟩)
    · refine ⟨h1, by omega, ?_⟩
      rw [g1 k h2, g1 (k - 1) (by omega)]
      exact h3
    · subst h1
      refine ⟨by omega, by omega, ?_⟩
      rw [g2, g1 _ (by omega)]
      exact h2
theorem HInv.step {m l : Nat} {F : List Bool} {s v : Bool} (I : HInv m F l) (hs : F.getD (F.length - 1) false = s) : HInv m (F ++ [(hSt m (s, l) v).1]) (hSt m (s, l) v).2 := by
  have hp := I.pos
  have hle := I.le
  unfold hSt
  dsimp only
  by_cases hl : 0 < l
  · rw [if_pos hl]
    refine ⟨by dsimp only; omega, by simp, fun k hk => ?_, fun h0 => ?_⟩
    · rw [chg_app hp] at hk
      rw [List.length_append, List.length_singleton]
      dsimp only at hk ⊢
      rcases hk with hk | ⟨_, hk⟩
      · have := I.no k hk
        omega
      · exact absurd hs.symm hk
    · obtain ⟨k, h1, h2⟩ := I.ex hl
      refine ⟨k, (chg_app hp).mpr (.inl h1), ?_⟩
      rw [List.length_append, List.length_singleton]
      dsimp only
      omega
  · rw [if_neg hl]
    have hl0 : l = 0 := by omega
    subst hl0
    by_cases hv : v = s
    · rw [if_pos hv]
      refine ⟨by dsimp only; omega, by simp, fun k hk => ?_, fun h0 => absurd h0 (by simp)⟩
      rw [chg_app hp] at hk
      rw [List.length_append, List.length_singleton]
      dsimp only at hk ⊢
      rcases hk with hk | ⟨_, hk⟩
      · have := I.no k hk
        omega
      · exact absurd hs.symm hk
    · rw [if_neg hv]
      refine ⟨by dsimp only; omega, by simp, fun k hk => ?_, fun h0 => ?_⟩
      · have := hk.2.1
        dsimp only at hk this ⊢
        rw [List.length_append, List.length_singleton] at this ⊢
        omega
      · refine ⟨F.length, (chg_app hp).mpr (.inr ⟨rfl, by rw [hs]; exact hv⟩), ?_⟩
        rw [List.length_append, List.length_singleton]
        dsimp only
        omega
end Tb
set_option maxHeartbeats 1000000
namespace Tel
open Tb
theorem sub_len {A : Type} [DecidableEq A] : ∀ {l m : List A}, l.Nodup → (∀ x ∈ l, x ∈ m) → l.length ≤ m.length
  | [], m, _, _ => Nat.zero_le _
  | x :: l, m, nd, h => by
    rw [List.nodup_cons] at nd
    have hx := h x (List.mem_cons_self)
    have ih := sub_len (l := l) (m := m.erase x) nd.2 fun y hy => (List.mem_erase_of_ne (by rintro rfl; exact nd.1 hy)).2 (h y (List.mem_cons_of_mem _ hy))
    rw [List.length_erase_of_mem hx] at ih
    have : 0 < m.length := List.length_pos_of_mem hx
    rw [List.length_cons]; omega
section
variable (R : List Tab)
def p0 : Pos := (List.range R.length).map fun n => (n, 0)
end
section
variable {R : List Tab}
theorem flat_len {A B : Type} (f : A → List B) (k : Nat) : ∀ (l : List A), (∀ a ∈ l, (f a).length ≤ k) → (l.flatMap f).length ≤ l.length * k
  | [], _ => Nat.zero_le _
  | a :: l, h => by
    rw [List.flatMap_cons, List.length_append, List.length_cons, Nat.succ_mul]
    have := flat_len f k l fun b hb => h b (List.mem_cons_of_mem _ hb)
    have := h a List.mem_cons_self
    omega
end
section
variable (R : List Tab)
structure RI (L : List Pos) (j : Nat) (F : Fd) (left : List Pos) : Prop where
  lf : left = L.filter fun p => !lv R j p
  at' : ∀ p ∈ L, lv R j p = true → ∃ k s, k < j ∧ lv R (k + 1) p = true ∧ lv R k p = false ∧ sd R k p = some s ∧ look F p = some (k + 1, s)
  no : ∀ p, lv R j p = false → look F p = none
  sub : ∀ p, (look F p).isSome = true → p ∈ L
  len : F.length + left.length = L.length
  cnt : left.length + j ≤ L.length
def solv (j : Nat) (left : List Pos) : List (Pos × Bool) := left.filterMap fun p => (sd R j p).map fun s => (p, s)
def addF (F : Fd) (n : Nat) (sv : List (Pos × Bool)) : Fd := F ++ sv.map fun x => (x.1, n, x.2)
end
section
variable {R : List Tab}
theorem look_app (F G : Fd) (p : Pos) : look (F ++ G) p = (look F p).or (look G p) := by
  unfold look
  rw [List.find?_append]
  cases F.find? fun x => decide (x.1 = p) <;> rfl
theorem look_sv (n j : Nat) (p : Pos) : ∀ (left : List Pos), look ((solv R j left).map fun x => (x.1, n, x.2)) p = if p ∈ left then (sd R j p).map fun s => (n, s) else none
  | [] => rfl
  | a :: left => by
    have ih := look_sv n j p left
    unfold solv at ih ⊢
    rw [List.filterMap_cons]
    cases h : sd R j a with
    | none =>
      simp only [Option.map_none]
      rw [ih]
      by_cases e : p = a
      · subst e; rw [h]; simp
      · simp [e]
    | some s =>
      simp only [Option.map_some, List.map_cons]
      unfold look at ih ⊢
      rw [List.find?_cons]
      by_cases e : a = p
      · subst e; simp [h]
      · have e' : p ≠ a := fun z => e z.symm
        simp only [e, decide_false]
        rw [ih]
        simp [e']
theorem solv_len (j : Nat) : ∀ left : List Pos, (solv R j left).length + (left.filter fun p => !lv R (j + 1) p).length = left.length
  | [] => rfl
  | a :: left => by
    have ih := solv_len j left
    unfold solv at ih ⊢
    rw [List.filterMap_cons, List.filter_cons, lv_sd]
    cases h : sd R j a with
    | none => simp only [Option.map_none, Option.isSome_none, Bool.not_false, if_true, List.length_cons]; omega
    | some s => simp [Option.map_some]; omega
theorem ri_start (L : List Pos) : RI R L 0 [] L := ⟨(List.filter_eq_self.2 fun _ _ => rfl).symm, fun p _ h => (by cases h), fun _ _ => rfl, fun p h => (by cases h), by simp, by simp⟩
theorem ri_step {L : List Pos} {j : Nat} {F : Fd} {left : List Pos} (I : RI R L j F left) (hs : solv R j left ≠ []) : RI R L (j + 1) (addF F (j + 1) (solv R j left)) (left.filter fun p => !lv R (j + 1) p) := by
  have hlf : left.filter (fun p => !lv R (j + 1) p) = L.filter fun p => !lv R (j + 1) p := by
    rw [I.lf, List.filter_filter]
    congr 1; funext p
    cases h : lv R j p with
    | false => simp
    | true => rw [lv_mono j p h]; rfl
  have hl := solv_len (R := R) j left
  have hsl : 0 < (solv R j left).length := List.length_pos_iff.2 hs
  refine ⟨hlf, fun p hp h => ?_, fun p h => ?_, fun p h => ?_, ?_, ?_⟩
  · unfold addF
    rw [look_app, look_sv]
    cases h2 : lv R j p with
    | true =>
      obtain ⟨k, s, h3, h4, h5, h6, h7⟩ := I.at' p hp h2
      exact ⟨k, s, by omega, h4, h5, h6, by rw [h7]; rfl⟩
    | false =>
      rw [I.no p h2]
      have hm : p ∈ left := by rw [I.lf, List.mem_filter]; exact ⟨hp, by rw [h2]; rfl⟩
      rw [lv_sd] at h
      obtain ⟨s, hs⟩ := Option.isSome_iff_exists.1 h
      exact ⟨j, s, by omega, by rw [lv_sd]; exact h, h2, hs, by rw [if_pos hm, hs]; rfl⟩
  · unfold addF
    rw [look_app, look_sv]
    have h2 : lv R j p = false := by
      cases h2 : lv R j p with
      | false => rfl
      | true => rw [lv_mono j p h2] at h; cases h
    rw [I.no p h2]
    rw [lv_sd] at h
    have : sd R j p = none := by
      cases h3 : sd R j p with
      | none => rfl
      | some s => rw [h3] at h; cases h
    rw [this]
    split <;> rfl
  · unfold addF at h
    rw [look_app, look_sv] at h
    cases h2 : look F p with
    | some y => exact I.sub p (by rw [h2]; rfl)
    | none =>
      rw [h2] at h
      by_cases hm : p ∈ left
      · rw [I.lf, List.mem_filter] at hm; exact hm.1
      · rw [if_neg hm] at h; cases h
  · unfold addF
    rw [List.length_append, List.length_map]
    have := I.len
    omega
  · have := I.cnt
    omega
end
def wk (R : List Tab) (n : Nat) : Plan → Nat → Option Nat
  | .no, _ => none
  | .one i, _ => if i = n then some 0 else none
  | .nd s u d, r => (if st R (n, nx (tb R n) r s) = true then wk R n u (nx (tb R n) r s) else wk R n d (nx (tb R n) r s)).map (· + 1)
section
variable {a b : Tab}
theorem st0 (x : Nat) : st [a, b] (0, x) = (row a x).1 := rfl
theorem st1 (x : Nat) : st [a, b] (1, x) = (row b x).1 := rfl
end
end Tel
set_option maxHeartbeats 1000000
namespace Tel
open Tb
section
variable {R : List Tab}
theorem flat_le {A B : Type} (f : A → List B) (k : Nat) (l : List A) (h : ∀ a ∈ l, (f a).length ≤ k) : (l.flatMap f).length ≤ l.length * k := flat_len f k l h
end
end Tel
namespace Tb
section
variable {t : Tab}
theorem full_len (ok : Ok t) (hp : 0 < t.length) (hr : ∀ j, j < t.length → ∃ w, run t 0 w = j) (hi : ∀ i j, i < t.length → j < t.length → lang t i = lang t j → i = j) : (small t 0).length = t.length := by
  have R := reach_spec ok hp
  have hsub : ∀ x ∈ List.range t.length, x ∈ reach t 0 := fun x hx => by
    rw [List.mem_range] at hx
    obtain ⟨w, rfl⟩ := hr x hx
    exact run_reach R w (start_mem ok hp)
  have l1 := sub_len (List.nodup_range (n := t.length)) hsub
  have l2 := pigeon _ _ R.nd R.lt
  rw [List.length_range] at l1
  rw [small_len]
  have e : (pick (cls t) (reach t 0) ([], [])).1 = (reach t 0).map (cl t) := by
    rw [pick_fst]
    have := ded_nodup ((reach t 0).map (cl t)) [] (by
      rw [List.nil_append]
      exact nodup_inj _ R.nd fun x hx y hy e => hi x y (R.lt x hx) (R.lt y hy) ((cl_lang ok (R.lt x hx) (R.lt y hy)).1 e))
    rw [List.nil_append] at this
    exact this
  rw [e, List.length_map]
  omega
end
def rg (l : List Bool) : Tab := (List.range l.length).map fun i => (l.getD i false, (i + 1) % l.length, (i + 1) % l.length)
theorem rg_len (l : List Bool) : (rg l).length = l.length := by unfold rg; simp
theorem rg_row (l : List Bool) {i : Nat} (h : i < l.length) : row (rg l) i = (l.getD i false, (i + 1) % l.length, (i + 1) % l.length) := by
  unfold row rg
  rw [List.getD_eq_getElem?_getD, List.getElem?_map, List.getElem?_range h]
  rfl
theorem rg_ok (l : List Bool) : Ok (rg l) := by
  intro r hr
  rw [rg_len]
  unfold rg at hr
  rw [List.mem_map] at hr
  obtain ⟨i, hi, rfl⟩ := hr
  rw [List.mem_range] at hi
  exact ⟨Nat.mod_lt _ (by omega), Nat.mod_lt _ (by omega)⟩
theorem rg_nx (l : List Bool) {i : Nat} (h : i < l.length) (b : Bool) : nx (rg l) i b = (i + 1) % l.length := by
  unfold nx
  rw [rg_row l h]
  cases b <;> rfl
theorem rg_run (l : List Bool) (hp : 0 < l.length) : ∀ (w : List Bool) (i : Nat), i < l.length → run (rg l) i w = (i + w.length) % l.length
  | [], i, h => by show i = _; rw [List.length_nil, Nat.add_zero, Nat.mod_eq_of_lt h]
  | b :: w, i, h => by
    show run (rg l) (nx (rg l) i b) w = _
    rw [rg_nx l h, rg_run l hp w _ (Nat.mod_lt _ hp), Nat.mod_add_mod, List.length_cons]
    congr 1
    omega
theorem rg_ans (l : List Bool) (hp : 0 < l.length) (w : List Bool) {i : Nat} (h : i < l.length) : (row (rg l) (run (rg l) i w)).1 = l.getD ((i + w.length) % l.length) false := by
  rw [rg_run l hp w i h, rg_row l (Nat.mod_lt _ hp)]
theorem pre_len (g : Nat → Bool) (p : Nat) : (pre g p).length = p := by unfold pre; simp
theorem pre_get (g : Nat → Bool) {p i : Nat} (h : i < p) : (pre g p).getD i false = g i := by
  unfold pre
  rw [List.getD_eq_getElem?_getD, List.getElem?_map, List.getElem?_range h]
  rfl
def Per (g : Nat → Bool) (p : Nat) : Prop := ∀ k, g (k + p) = g k
theorem per_mul {g : Nat → Bool} {p : Nat} (h : Per g p) : ∀ (m k : Nat), g (k + p * m) = g k
  | 0, k => by rw [Nat.mul_zero, Nat.add_zero]
  | m + 1, k => by rw [Nat.mul_succ, ← Nat.add_assoc, h, per_mul h m k]
theorem per_mod {g : Nat → Bool} {p : Nat} (h : Per g p) (k : Nat) : g (k % p) = g k := by
  conv => rhs; rw [← Nat.mod_add_div k p]
  rw [per_mul h]
theorem pre_ans {g : Nat → Bool} {p : Nat} (hp : 0 < p) (h : Per g p) (w : List Bool) {i : Nat} (hi : i < p) : lang (rg (pre g p)) i w = g (i + w.length) := by
  unfold lang
  have hl := pre_len g p
  rw [rg_ans (pre g p) (by omega) w (by omega), hl, pre_get g (Nat.mod_lt _ hp), per_mod h]
theorem rg_least {g : Nat → Bool} {p : Nat} (hp : 0 < p) (h : Per g p) (hm : ∀ q, 0 < q → q < p → ¬ Per g q) : (small (rg (pre g p)) 0).length = p := by
  have hl := pre_len g p
  have hl2 := rg_len (pre g p)
  rw [full_len (rg_ok _) (by omega) ?_ ?_, hl2, hl]
  · intro j hj
    refine ⟨List.replicate j true, ?_⟩
    rw [rg_run _ (by omega) _ 0 (by omega), Nat.zero_add, List.length_replicate, Nat.mod_eq_of_lt (by omega)]
  · have key : ∀ i j, i < p → j < p → i < j → lang (rg (pre g p)) i = lang (rg (pre g p)) j → False := by
      intro i j hi hj hij e
      refine hm (j - i) (by omega) (by omega) fun k => ?_
      have h1 := congrFun e (List.replicate (k + p * i - i) true)
      rw [pre_ans hp h _ hi, pre_ans hp h _ hj, List.length_replicate] at h1
      have hb : i ≤ p * i := Nat.le_mul_of_pos_left i hp
      rw [show i + (k + p * i - i) = k + p * i by omega, show j + (k + p * i - i) = (k + (j - i)) + p * i by omega, per_mul h, per_mul h] at h1
      exact h1.symm
    intro i j hi hj e
    rw [hl2, hl] at hi hj
    rcases Nat.lt_trichotomy i j with c | c | c
    · exact (key i j hi hj c e).elim
    · exact c
    · exact (key j i hj hi c e.symm).elim
def u1 (n : Nat) : Nat → Bool := fun k => k % n == 0
theorem u1_per (n : Nat) : Per (u1 n) n := fun k => by unfold u1; rw [Nat.add_mod_right]
theorem u1_small (n : Nat) (h : 0 < n) : (small (rg (pre (u1 n) n)) 0).length = n :=
  rg_least h (u1_per n) fun q h1 h2 c => by
    have := c 0
    unfold u1 at this
    rw [Nat.zero_add, Nat.zero_mod, Nat.mod_eq_of_lt h2] at this
    simp at this
    omega
def jg (f : Bool → Bool → Bool) (n m : Nat) : Nat → Bool := fun k => f (u1 n k) (u1 m k)
theorem jg_per (f : Bool → Bool → Bool) (n m : Nat) : Per (jg f n m) (n * m) := fun k => by
  unfold jg
  have h1 := per_mul (u1_per n) m k
  have h2 := per_mul (u1_per m) n k
  rw [Nat.mul_comm m n] at h2
  rw [h1, h2]
theorem jn_rings (f : Bool → Bool → Bool) (n m p : Nat) (hn : 0 < n) (hm : 0 < m) (hp : 0 < p) (h : Per (jg f n m) p) : small (jn f (small (rg (pre (u1 n) n)) 0) (small (rg (pre (u1 m) m)) 0)) 0 = small (rg (pre (jg f n m) p)) 0 := by
  have la : (rg (pre (u1 n) n)).length = n := by rw [rg_len, pre_len]
  have lb : (rg (pre (u1 m) m)).length = m := by rw [rg_len, pre_len]
  rw [jn_small (rg_ok _) (rg_ok _) (by omega) (by omega)]
  refine small_lang (jn_ok (rg_ok _) (rg_ok _)) (by rw [jn_len, la, lb]; exact Nat.mul_pos hn hm) (rg_ok _) (by rw [rg_len, pre_len]; exact hp) fun w => ?_
  rw [jn_ans (rg_ok _) (rg_ok _) (by omega) (by omega)]
  have e1 := pre_ans hn (u1_per n) w hn
  have e2 := pre_ans hm (u1_per m) w hm
  have e3 := pre_ans hp h w hp
  unfold lang at e1 e2 e3
  rw [e1, e2, e3]
  rfl
theorem rot_per {g : Nat → Bool} {L q : Nat} (hL : 0 < L) (h : Per g L) (hq : q ≤ L) : (pre g L).drop q ++ (pre g L).take q = pre g L ↔ Per g q := by
  have hl := pre_len g L
  have get : ∀ i, i < L → ((pre g L).drop q ++ (pre g L).take q)[i]? = some (g (i + q)) := fun i hi => by
    have lt : ((pre g L).drop q).length = L - q := by rw [List.length_drop, hl]
    by_cases c : i < L - q
    · rw [List.getElem?_append_left (by omega), List.getElem?_drop]
      unfold pre
      rw [List.getElem?_map, List.getElem?_range (by omega)]
      show some _ = some _
      rw [Nat.add_comm]
    · rw [List.getElem?_append_right (by omega), lt, List.getElem?_take_of_lt (by omega)]
      unfold pre
      rw [List.getElem?_map, List.getElem?_range (by omega)]
      show some _ = some _
      rw [← h (i - (L - q))]
      congr 2
      omega
  have get2 : ∀ i, i < L → (pre g L)[i]? = some (g i) := fun i hi => by
    unfold pre
    rw [List.getElem?_map, List.getElem?_range hi]; rfl
  constructor
  · intro e k
    have h1 := get (k % L) (Nat.mod_lt _ hL)
    rw [e, get2 _ (Nat.mod_lt _ hL), Option.some.injEq, per_mod h] at h1
    rw [h1]
    have : k + q = k % L + q + L * (k / L) := by have := Nat.mod_add_div k L; omega
    rw [this, per_mul h]
  · intro P
    refine List.ext_getElem? fun i => ?_
    by_cases hi : i < L
    · rw [get i hi, get2 i hi, P]
    · rw [List.getElem?_eq_none (by simp [hl]; omega), List.getElem?_eq_none (by omega)]
theorem first_per (P : Nat → Bool) : ∀ (n a : Nat), (∃ q, a ≤ q ∧ q < a + n ∧ P q = true) → ∃ p r, ((List.range' a n).filter P) = p :: r ∧ a ≤ p ∧ p < a + n ∧ P p = true ∧ ∀ q, a ≤ q → q < p → P q = false
  | 0, a, h => by obtain ⟨q, h1, h2, _⟩ := h; omega
  | n + 1, a, h => by
    rw [List.range'_succ, List.filter_cons]
    by_cases c : P a = true
    · rw [if_pos c]
      exact ⟨a, _, rfl, by omega, by omega, c, fun q h1 h2 => by omega⟩
    · rw [if_neg c]
      obtain ⟨q, h1, h2, h3⟩ := h
      have hq : q ≠ a := fun e => c (e ▸ h3)
      obtain ⟨p, r, e1, e2, e3, e4, e5⟩ := first_per P n (a + 1) ⟨q, by omega, by omega, h3⟩
      refine ⟨p, r, e1, by omega, by omega, e4, fun q h1 h2 => ?_⟩
      by_cases hqa : q = a
      · subst hqa; simpa using c
      · exact e5 q (by omega) h2
section
variable {n m : Nat}
theorem ic_len (h : 1 ≤ n) : (ign m (chT n)).length = m + n := by rw [ign_len, chT_len h]
theorem ic_pass (h : 1 ≤ n) : ∀ (k i : Nat), i < m + n → run (ign m (chT n)) i (List.replicate k true) = min (i + k) (m + n - 1)
  | 0, i, hi => by show i = _; omega
  | k + 1, i, hi => by
    rw [List.replicate_succ]
    show run (ign m (chT n)) (nx (ign m (chT n)) i true) (List.replicate k true) = _
    by_cases c : i < m
    · rw [ign_nx_lo c, ic_pass h k (i + 1) (by omega)]
      congr 1
      omega
    · have hi2 : i - m < (chT n).length := by rw [chT_len h]; omega
      have e := ign_nx_hi (n := m) hi2 true
      rw [show i - m + m = i by omega] at e
      rw [e]
      unfold nx
      by_cases d : i - m < n - 1
      · rw [chT_lo h d]
        simp only [if_true]
        rw [ic_pass h k _ (by omega)]
        congr 1
        omega
      · rw [show i - m = n - 1 by omega, chT_hi h]
        simp only [if_true]
        rw [ic_pass h k _ (by omega)]
        omega
theorem ic_row (h : 2 ≤ n) {i : Nat} (hi : i < m + n) : (row (ign m (chT n)) i).1 = decide (i = m + n - 1) := by
  by_cases c : i < m
  · rw [ign_lo c, chT_lo (by omega) (by omega)]
    have : ¬ i = m + n - 1 := by omega
    simp [this]
  · have hi2 : i - m < (chT n).length := by rw [chT_len (by omega)]; omega
    have e := ign_hi (n := m) hi2
    rw [show i - m + m = i by omega] at e
    rw [e]
    by_cases d : i - m < n - 1
    · rw [chT_lo (by omega) d]
      have : ¬ i = m + n - 1 := by omega
      simp [this]
    · rw [show i - m = n - 1 by omega, chT_hi (by omega)]
      have : i = m + n - 1 := by omega
      simp [this]
theorem ic_small (h : 2 ≤ n) : (small (ign m (chT n)) 0).length = m + n := by
  have hl := ic_len (m := m) (n := n) (by omega)
  have ok := ign_ok (n := m) (chT_ok (n := n) (by omega)) (by rw [chT_len (by omega)]; omega)
  rw [full_len ok (by omega) ?_ ?_, hl]
  · intro j hj
    rw [hl] at hj
    refine ⟨List.replicate j true, ?_⟩
    rw [ic_pass (by omega) j 0 (by omega)]
    omega
  · have key : ∀ i j, i < m + n → j < m + n → lang (ign m (chT n)) i = lang (ign m (chT n)) j → i ≤ j := by
      intro i j hi hj e
      have e1 := congrFun e (List.replicate (m + n - 1 - i) true)
      unfold lang at e1
      rw [ic_pass (by omega) _ i hi, ic_pass (by omega) _ j hj, ic_row h (by omega), ic_row h (by omega)] at e1
      by_cases c : i ≤ j
      · exact c
      · exfalso
        rw [show min (i + (m + n - 1 - i)) (m + n - 1) = m + n - 1 by omega, show min (j + (m + n - 1 - i)) (m + n - 1) = j + (m + n - 1 - i) by omega] at e1
        have : ¬ j + (m + n - 1 - i) = m + n - 1 := by omega
        simp [this] at e1
    intro i j hi hj e
    rw [hl] at hi hj
    exact Nat.le_antisymm (key i j hi hj e) (key j i hj hi e.symm)
end
end Tb
namespace Sr
open PySem hiding start
open L2
theorem whl_iter {c : M Bool} {b : M Fl} {A : Type} (f : A → Option A) (R : A → En → Prop) (hno : ∀ a e, R a e → f a = none → c e = .ok false e) (hgo : ∀ a a' e, R a e → f a = some a' → c e = .ok true e ∧ ∃ e', b e = .ok .nx e' ∧ R a' e') :
    ∀ (n m : Nat) (a : A) (e : En), n < m → R a e → f (Tb.iter f n a) = none → ∃ e', whl c b m e = .ok .nx e' ∧ R (Tb.iter f n a) e'
  | n, 0, a, e, h, _, _ => by omega
  | 0, m + 1, a, e, _, r, hd => by
    unfold Tb.iter at hd ⊢
    refine ⟨e, ?_, r⟩
    unfold whl bnd
    rw [hno a e r hd]
    rfl
  | n + 1, m + 1, a, e, h, r, hd => by
    unfold Tb.iter at hd ⊢
    cases q : f a with
    | none =>
      simp only [q] at hd ⊢
      refine ⟨e, ?_, r⟩
      unfold whl bnd
      rw [hno a e r q]
      rfl
    | some a' =>
      simp only [q] at hd ⊢
      obtain ⟨h1, e1, h2, r1⟩ := hgo a a' e r q
      obtain ⟨e2, h3, r2⟩ := whl_iter f R hno hgo n m a' e1 (by omega) r1 hd
      refine ⟨e2, ?_, r2⟩
      unfold whl bnd
      rw [h1]
      show lp b (whl c b m) e = _
      rw [lp_nx h2]; exact h3
theorem lcL_map {B : Type} {w : D → M Unit} {t : M Bool} {el : M D} {vs : List Nat} (g h : B → D) (E : En) : ∀ (xs : List B) (acc : List D), acc.length + xs.length ≤ 16777216 →
    (∀ x ∈ xs, ∃ e1 e2 e3, w (g x) E = .ok () e1 ∧ t e1 = .ok true e2 ∧ el e2 = .ok (h x) e3 ∧ wipE vs e3 = E) → lcL w t el vs (xs.map g) acc E = .ok (acc ++ xs.map h) E
  | [], acc, _, _ => by simp [lcL, Sr.ret]
  | x :: xs, acc, hl, hs => by
    obtain ⟨e1, e2, e3, h1, h2, h3, h4⟩ := hs x (by simp)
    rw [List.length_cons] at hl
    have ih := lcL_map g h E xs (acc ++ [h x]) (by simp; omega) fun y hy => hs y (by simp [hy])
    have hz : acc.length < sizeLine := by
      have e : sizeLine = 16777216 := by decide
      omega
    rw [List.map_cons, lcL, bnd_ok h1, bnd_ok h2, if_pos rfl, bnd_ok h3, if_pos hz]
    show lcL w t el vs (List.map g xs) (acc ++ [h x]) (wipE vs e3) = _
    rw [h4, ih]
    simp
theorem mLc_map {B : Type} {m : M (List D)} {w : D → M Unit} {t : M Bool} {el : M D} {vs : List Nat} {e e1 : En} {xs : List B} (g h : B → D) (hm : m e = .ok (xs.map g) e1) (hl : xs.length ≤ 16777216)
    (hs : ∀ x ∈ xs, ∃ a b c, w (g x) (wipE vs e1) = .ok () a ∧ t a = .ok true b ∧ el b = .ok (h x) c ∧ wipE vs c = wipE vs e1) : mLc vs m w t el e = .ok (.lst (xs.map h)) (rst vs e1 (wipE vs e1)) := by
  unfold mLc
  rw [bnd_ok hm]
  have := lcL_map g h (wipE vs e1) xs [] (by simpa using hl) hs
  simp only [this, List.nil_append]
section
variable {A κ : Type} [BEq A] [LawfulBEq A] [DecidableEq A] [DecidableEq κ]
def dixn (enc : A → κ) (n : Nat) (l : List A) : List (κ × D) := (l.zipIdx n).map fun q => (enc q.1, .int (q.2 : Nat))
abbrev dix (enc : A → κ) (l : List A) : List (κ × D) := dixn enc 0 l
variable {enc : A → κ} (inj : ∀ x y, enc x = enc y → x = y)
include inj
theorem dixn_val (x : A) : ∀ (l : List A) (n : Nat), valD (dixn enc n l) (enc x) = if x ∈ l then some (.int ((n + l.idxOf x : Nat) : Int)) else none
  | [], n => by simp [dixn, valD]
  | y :: l, n => by
    have ih := dixn_val x l (n + 1)
    unfold dixn valD at ih ⊢
    rw [List.zipIdx_cons, List.map_cons, List.find?_cons]
    by_cases h : y = x
    · subst h
      simp
    · have h2 : ¬ enc y = enc x := fun z => h (inj _ _ z)
      have h3 : ¬ x = y := fun z => h z.symm
      simp only [h2, decide_false, ih, List.mem_cons, h3, false_or]
      split
      · have hi : (y :: l).idxOf x = l.idxOf x + 1 := by rw [List.idxOf_cons, show (y == x) = false from beq_eq_false_iff_ne.mpr h]; rfl
        rw [hi]
        congr 3
        omega
      · rfl
theorem dix_val {x : A} {l : List A} : valD (dix enc l) (enc x) = if x ∈ l then some (.int ((l.idxOf x : Nat) : Int)) else none := by
  have := dixn_val inj x l 0
  simpa using this
theorem dixn_any (x : A) : ∀ (l : List A) (n : Nat), ((dixn enc n l).any fun kv => decide (kv.1 = enc x)) = decide (x ∈ l)
  | [], n => by simp [dixn]
  | y :: l, n => by
    have ih := dixn_any x l (n + 1)
    unfold dixn at ih ⊢
    rw [List.zipIdx_cons, List.map_cons, List.any_cons, ih]
    by_cases h : y = x
    · subst h; simp
    · have h2 : ¬ enc y = enc x := fun z => h (inj _ _ z)
      have h3 : ¬ x = y := fun z => h z.symm
      simp [h2, h3]
theorem dix_put {x : A} {l : List A} (h : x ∉ l) : putG (dix enc l) (enc x) (.int (l.length : Nat)) = dix enc (l ++ [x]) := by
  unfold putG
  rw [dixn_any inj x l 0]
  simp only [h, decide_false, Bool.false_eq_true, if_false]
  unfold dix dixn
  rw [List.zipIdx_append]
  simp
theorem kn_val (x : A) : ∀ (l : List A), valD (kn enc l) (enc x) = if x ∈ l then some (.bl true) else none
  | [] => by simp [kn, valD]
  | y :: l => by
    have ih := kn_val x l
    unfold kn valD at ih ⊢
    rw [List.map_cons, List.find?_cons]
    by_cases h : y = x
    · subst h; simp
    · have h2 : ¬ enc y = enc x := fun z => h (inj _ _ z)
      have h3 : ¬ x = y := fun z => h z.symm
      simp only [h2, decide_false, ih, List.mem_cons, h3, false_or]
theorem kn_put {x : A} {l : List A} (h : x ∉ l) : putG (kn enc l) (enc x) (.bl true) = kn enc (l ++ [x]) := by
  have ha : ((kn enc l).any fun kv => decide (kv.1 = enc x)) = false := by
    rw [List.any_eq_false]
    intro kv hkv
    unfold kn at hkv
    rw [List.mem_map] at hkv
    obtain ⟨y, hy, rfl⟩ := hkv
    simp only [decide_eq_true_eq]
    intro z
    exact h (inj _ _ z ▸ hy)
  unfold putG
  rw [ha]
  simp [kn]
omit inj in
theorem dix_len {l : List A} : (dix enc l).length = l.length := by unfold dix dixn; simp
omit inj in
theorem kn_len {l : List A} : (kn enc l).length = l.length := by unfold kn; simp
end
abbrev encS (b : Bool) : D := .str (if b then "U" else "D")
def encR (r : Tb.Row) : D := .tup [encS r.1, .int (r.2.1 : Nat), .int (r.2.2 : Nat)]
def encT (t : Tb.Tab) : D := .tup (t.map encR)
def nats (l : List Nat) : List D := l.map fun x => .int (x : Nat)
def ik (x : Nat) : Key := .inl (x : Int)
theorem ik_inj : ∀ x y, ik x = ik y → x = y := fun x y h => by
  unfold ik at h
  have := Sum.inl.inj h
  omega
def ik3 (k : Tb.K3) : List Key := [ik k.1, ik k.2.1, ik k.2.2]
theorem ik3_inj : ∀ x y, ik3 x = ik3 y → x = y := fun x y h => by
  unfold ik3 at h
  simp only [List.cons.injEq, and_true] at h
  obtain ⟨h1, h2, h3⟩ := h
  have := ik_inj _ _ h1
  have := ik_inj _ _ h2
  have := ik_inj _ _ h3
  obtain ⟨a, b, c⟩ := x
  obtain ⟨a', b', c'⟩ := y
  simp_all
theorem atI_nat {A : Type} {l : List A} {i : Nat} (h : i < l.length) : L2.atI l (i : Int) = some l[i] := by
  simp [L2.atI, L2.ixN, h]
theorem nats_len (l : List Nat) : (nats l).length = l.length := by unfold nats; simp
theorem ix_nats {l : List Nat} {i : Nat} (h : i < l.length) : gIx (.lst (nats l)) (.int (i : Nat)) = some (.int (l.getD i 0 : Nat)) := by
  simp only [gIx]
  rw [atI_nat (by rw [nats_len]; exact h)]
  simp [nats, List.getD_eq_getElem?_getD, h]
theorem ix_tab {t : Tb.Tab} {i : Nat} (h : i < t.length) : gIx (encT t) (.int (i : Nat)) = some (encR (Tb.row t i)) := by
  simp only [encT, gIx]
  rw [atI_nat (by simp; exact h), Tb.row_eq h]
  simp
theorem nats_ints (l : List Nat) : dInts (nats l) = some (l.map fun (x : Nat) => (x : Int)) := by
  induction l with
  | nil => rfl
  | cons x l ih =>
    show (dInts (nats l)).map _ = _
    rw [ih]; rfl
theorem firstMet_fold (ns : List Int) : ∀ n, n ≤ ns.length → PyProof.Rows.firstMet (fun i => ns.getD i 0) n = (ns.take n).foldl PyProof.Rows.step_dedup []
  | 0, _ => by simp [PyProof.Rows.firstMet]
  | n + 1, h => by
    rw [PyProof.Rows.firstMet_succ, firstMet_fold ns n (by omega)]
    have e : ns.take (n + 1) = ns.take n ++ [ns[n]'(by omega)] := by rw [List.take_succ_eq_append_getElem]
    rw [e, List.foldl_append]
    simp [List.getD_eq_getElem?_getD, show n < ns.length by omega]
theorem distinct_nats (l : List Nat) : distinct (l.map fun (x : Nat) => (x : Int)) = Tb.dist l := by
  unfold distinct Tb.dist Tb.ded
  rw [firstMet_fold _ _ (Nat.le_refl _), List.take_length]
  have H : ∀ (l acc : List Nat), (l.map fun (x : Nat) => (x : Int)).foldl PyProof.Rows.step_dedup (acc.map fun (x : Nat) => (x : Int)) = (l.foldl Tb.addN acc).map fun (x : Nat) => (x : Int) := by
    intro l
    induction l with
    | nil => intro acc; rfl
    | cons x l ih =>
      intro acc
      rw [List.map_cons, List.foldl_cons, List.foldl_cons, ← ih]
      congr 1
      unfold PyProof.Rows.step_dedup Tb.addN
      have : ((acc.map fun (x : Nat) => (x : Int)).any (· == (x : Int))) = decide (x ∈ acc) := by
        rw [Bool.eq_iff_iff]
        simp only [List.any_eq_true, List.mem_map, beq_iff_eq, decide_eq_true_eq]
        constructor
        · rintro ⟨z, ⟨y, hy, rfl⟩, e⟩
          have : y = x := by omega
          exact this ▸ hy
        · intro hx
          exact ⟨x, ⟨x, hx, rfl⟩, rfl⟩
      rw [this]
      by_cases h : x ∈ acc <;> simp [h]
  have := H l []
  rw [List.map_nil] at this
  rw [this, List.length_map]
theorem lenSet_nats {l : List Nat} (h : l.length ≤ 4000) : gLenSet (.lst (nats l)) = some (.int (Tb.dist l : Nat)) := by
  simp only [gLenSet, nats_ints]
  rw [if_pos (by simpa using h), distinct_nats]
theorem enumL_tab (t : Tb.Tab) : enumL (t.map encR) = t.zipIdx.map fun q => .tup [.int (q.2 : Nat), encR q.1] := by
  unfold enumL
  rw [List.zipIdx_map, List.map_map]; rfl
theorem lcL_inv {w : D → M Unit} {t : M Bool} {el : M D} {vs : List Nat} (I : En → Prop) (P : D → Prop) : ∀ (ds acc : List D) (e : En), acc.length + ds.length ≤ 16777216 → (∀ d ∈ ds, ∀ e, I e → ∃ e1 e2 e3 y, w d e = .ok () e1 ∧ t e1 = .ok true e2 ∧ el e2 = .ok y e3 ∧ P y ∧ I (wipE vs e3)) → I e →
    ∃ ys e', lcL w t el vs ds acc e = .ok (acc ++ ys) e' ∧ ys.length = ds.length ∧ (∀ y ∈ ys, P y) ∧ I e'
  | [], acc, e, _, _, h => ⟨[], e, by simp [lcL, Sr.ret], rfl, by simp, h⟩
  | d :: ds, acc, e, hl, hs, h => by
    obtain ⟨e1, e2, e3, y, h1, h2, h3, h4, h5⟩ := hs d (by simp) e h
    rw [List.length_cons] at hl
    obtain ⟨ys, e', g1, g2, g3, g4⟩ := lcL_inv I P ds (acc ++ [y]) (wipE vs e3) (by simp; omega) (fun d hd => hs d (by simp [hd])) h5
    have hz : acc.length < sizeLine := by
      have e : sizeLine = 16777216 := by decide
      omega
    refine ⟨y :: ys, e', ?_, by simp [g2], fun z hz => ?_, g4⟩
    · rw [lcL, bnd_ok h1, bnd_ok h2, if_pos rfl, bnd_ok h3, if_pos hz]
      show lcL w t el vs ds (acc ++ [y]) (wipE vs e3) = _
      rw [g1]; simp
    · rcases List.mem_cons.mp hz with rfl | hz
      · exact h4
      · exact g3 z hz
def sts (w : List Bool) : Str := ⟨(w.map fun b => if b then 85 else 68).toArray⟩
theorem sts_len (w : List Bool) : (sts w).length = w.length := by unfold sts Str.length; simp
theorem sts_app (u w : List Bool) : sts u ++ sts w = sts (u ++ w) := by
  show Str.append _ _ = _
  unfold Str.append sts
  simp
def trace (t : Tb.Tab) (i : Nat) : List Bool → List Bool
  | [] => []
  | b :: w => (Tb.row t (Tb.nx t i b)).1 :: trace t (Tb.nx t i b) w
def told (t : Tb.Tab) (i : Nat) (w : List Bool) : List Bool := (Tb.row t i).1 :: trace t i w
end Sr
namespace Lw
open PySem hiding start
open PySem.Spec L2 Sr
open PyProof.Rows hiding St
def isB_int : D → Option Bool := gIsi tInt fun c => isl_int.lookup c
def isB_bool : D → Option Bool := gIsi (tOnly .bool) fun c => isl_bool.lookup c
def isB_tuple : D → Option Bool := gIsi (tOnly .tuple) fun c => isl_tuple.lookup c
def isB_str : D → Option Bool := gIsi (tOnly .str) fun c => isl_str.lookup c
def isC_Rule : D → Option Bool := gIsi (fun _ => some false) fun c => isl_Rule.lookup c
def ct_StatusError : Str → Option Bool := fun y => ctl_StatusError.lookup y
def ct_TooLarge : Str → Option Bool := fun y => ctl_TooLarge.lookup y
def u__law_large_1 (ex : Ex) : M Fl :=
  (sq (sIf (mOr (mT (mIsE isE_NumberError ex)) (mOr (mT (mIsE isE_RuleError ex)) (mNot (mT (mIsE isE_StatusError ex))))) (sRet (ret .non)) skp)
    (sRet (mTup (mCons (mXf ["TooLarge"] "needed" ex) (mCons (mXf ["TooLarge"] "limit" ex) mNil)))))
def b__law_pen : M Fl :=
  (sRetO (mLst (mCons (mCal gMax2 (mCons (ret (.int 0)) (mCons (m2 gSub (mN 0) (m2 gPow (ret (.int 10)) (ret (.int 18)))) mNil))) (mCons (m2 gAdd (m2 gMod (mCal gInt1 (mCons (mN 0) mNil)) (ret (.int 2147483629))) (ret (.int 1))) (mCons (ret (.int 0)) mNil)))))
def f__law_pen : Fnc := mkF0 1 true b__law_pen
def b__law_cell_at : M Fl :=
  (sq (sIf (mT (m2 gLt (mN 1) (m1 gLen (mN 0)))) (sRet (m2 gIx (mN 0) (mN 1))) skp)
    (sRet (ret (.int 0))))
def f__law_cell_at : Fnc := mkF0 2 false b__law_cell_at
def b_is_integer : M Fl :=
  (sRet (mAndV (mIsi isB_int (mN 0)) (mNotV (mIsi isB_bool (mN 0)))))
def f_is_integer : Fnc := mkF0 1 false b_is_integer
def b_is_between : M Fl :=
  (sRet (mAndV (mC0 f_is_integer [] (mCons (mN 0) mNil)) (mChain gLe gLe (mN 1) (mN 0) (mN 2))))
def f_is_between : Fnc := mkF0 3 false b_is_between
def b_is_row : M Fl :=
  (sq (sIf (mOr (mNot (mT (mIsi isB_tuple (mN 0)))) (mOr (mT (m2 gNe (m1 gLen (mN 0)) (ret (.int 3)))) (mNot (mT (mIsi isB_str (m2 gIx (mN 0) (ret (.int 0)))))))) (sRet (ret (.bl false))) skp)
    (sRet (mAndV (m2 gIn (m2 gIx (mN 0) (ret (.int 0))) (mTup (mCons (ret (.str "U")) (mCons (ret (.str "D")) mNil)))) (mAndV (mC0 f_is_between [] (mCons (m2 gIx (mN 0) (ret (.int 1))) (mCons (ret (.int 0)) (mCons (m2 gSub (mN 1) (ret (.int 1))) mNil)))) (mC0 f_is_between [] (mCons (m2 gIx (mN 0) (ret (.int 2))) (mCons (ret (.int 0)) (mCons (m2 gSub (mN 1) (ret (.int 1))) mNil))))))))
def f_is_row : Fnc := mkF0 2 false b_is_row
def t_is_table_1 : M Bool :=
  mYes
def e_is_table_1 : M D :=
  (mC0 f_is_row [] (mCons (mN 1) (mCons (m1 gLen (mN 0)) mNil)))
def b_is_table : M Fl :=
  (sq (sIf (mOr (mNot (mT (mIsi isB_tuple (mN 0)))) (mNot (mT (mChain gLe gLe (ret (.int 1)) (m1 gLen (mN 0)) (ret (.int 64)))))) (sRet (ret (.bl false))) skp)
    (sRet (m1 gAll (mLc [1] (mItems (mN 0)) (gN 1) t_is_table_1 e_is_table_1))))
def f_is_table : Fnc := mkF0 2 false b_is_table
def t_row_classes_1 : M Bool :=
  mYes
def e_row_classes_1 : M D :=
  (mCal gInt1 (mCons (m2 gEq (m2 gIx (mN 6) (ret (.int 0))) (ret (.str "U"))) mNil))
def l_row_classes_1 : M Fl :=
  (sq (sSet 7 (mTup (mCons (m2 gIx (mN 1) (mN 5)) (mCons (m2 gIx (mN 1) (m2 gIx (mN 6) (ret (.int 1)))) (mCons (m2 gIx (mN 1) (m2 gIx (mN 6) (ret (.int 2)))) mNil)))))
    (sq (sIf (mT (m2r gDnot (mN 7) (mNB 3))) (sPutD 3 (mN 7) (mCal1 gLenA (mNB 3))) skp)
    (sApp 4 (m2b gDg (mNB 3) (mN 7)))))
def l_row_classes_2 : M Fl :=
  (sq (sSet 2 (mCal1 gLenSet (mB (mN 1))))
    (sq (sSetO 3 (ret (.dt [])))
    (sq (sSetO 4 (mLst mNil))
    (sq (sFor (mEnumT (mCons (mN 0) mNil)) (gT 2 (gsC (gN 5) (gsC (gN 6) gsN))) l_row_classes_1)
    (sSet 1 (mN 4))))))
def b_row_classes : M Fl :=
  (sq (sSet 1 (mLc [6] (mItems (mN 0)) (gN 6) t_row_classes_1 e_row_classes_1))
    (sq (sSet 2 (ret (.int 0)))
    (sq (sWhile (mT (m2 gLt (mN 2) (mCal1 gLenSet (mB (mN 1))))) l_row_classes_2)
    (sRet (mN 1)))))
def f_row_classes : Fnc := mkF0 8 false b_row_classes
def l_reached_1 : M Fl :=
  (sIf (mT (m2r gDnot (mN 5) (mNB 3))) (sq (sPutD 3 (mN 5) (ret (.bl true)))
    (sApp 2 (mN 5))) skp)
def l_reached_2 : M Fl :=
  (sq (sFor (mItems (mSl (m2 gIx (mN 0) (m2b gIx (mNB 2) (mN 4))) (mPart (ret (.int 1))) mNoP)) (gN 5) l_reached_1)
    (sSet 4 (m2 gAdd (mN 4) (ret (.int 1)))))
def b_reached : M Fl :=
  (sq (sSetO 2 (mLst (mCons (mN 1) mNil)))
    (sq (sSetO 3 (mDisp [((mN 1), (ret (.bl true)))]))
    (sq (sSet 4 (ret (.int 0)))
    (sq (sWhile (mT (m2 gLt (mN 4) (mCal1 gLen (mNB 2)))) l_reached_2)
    (sRet (mN 2))))))
def f_reached : Fnc := mkF0 6 false b_reached
def t_smallest_1 : M Bool :=
  mYes
def e_smallest_1 : M D :=
  (mTup (mCons (mN 6) (mCons (m2b gDg (mNB 3) (m2 gIx (mN 2) (mN 7))) (mCons (m2b gDg (mNB 3) (m2 gIx (mN 2) (mN 8))) mNil))))
def l_smallest_1 : M Fl :=
  (sIf (mT (m2r gDnot (m2 gIx (mN 2) (mN 5)) (mNB 3))) (sq (sPutD 3 (m2 gIx (mN 2) (mN 5)) (mCal1 gLen (mNB 4)))
    (sApp 4 (m2 gIx (mN 0) (mN 5)))) skp)
def b_smallest : M Fl :=
  (sq (sSet 2 (mC0 f_row_classes [] (mCons (mN 0) mNil)))
    (sq (sSetO 3 (ret (.dk [])))
    (sq (sSetO 4 (mLst mNil))
    (sq (sFor (mItems (mC0 f_reached [] (mCons (mN 0) (mCons (mN 1) mNil)))) (gN 5) l_smallest_1)
    (sRet (m1 gTuple (mLc [6, 7, 8] (mItems (mN 4)) (gT 3 (gsC (gN 6) (gsC (gN 7) (gsC (gN 8) gsN)))) t_smallest_1 e_smallest_1)))))))
def f_smallest : Fnc := mkF0 9 false b_smallest
def b_RuleU_initU : M Fl :=
  (sq (sIf (mNot (mT (mC0 f_is_table [] (mCons (mN 1) mNil)))) (sRaise "TableError") skp)
    (sAsg (mC0 f_smallest [] (mCons (mN 1) (mCons (ret (.int 0)) mNil))) (gA 0 "Rule" "table")))
def f_RuleU_initU : Fnc := mkF1 2 false b_RuleU_initU
def b__law_draw : M Fl :=
  (sq (sIf (mT (m2 gGt (m2b gIx (mNB 0) (ret (.int 0))) (ret (.int 0)))) (sq (sSet 2 (m2 gMod (mCal gInt1 (mCons (m2b gIx (mNB 0) (ret (.int 0))) mNil)) (mN 1)))
    (sq (sPutI 0 (ret (.int 0)) (m2 gDiv (m2b gIx (mNB 0) (ret (.int 0))) (mN 1)))
    (sRet (mN 2)))) skp)
    (sq (sPutI 0 (ret (.int 2)) (m2 gAdd (m2b gIx (mNB 0) (ret (.int 2))) (ret (.int 1))))
    (sq (sPutI 0 (ret (.int 1)) (m2 gMod (mCal gInt1 (mCons (m2 gAdd (m2 gAdd (m2 gMul (m2b gIx (mNB 0) (ret (.int 1))) (ret (.int 48271))) (m2 gMul (ret (.int 1009)) (m2b gIx (mNB 0) (ret (.int 2))))) (ret (.int 7))) mNil)) (ret (.int 2147483647))))
    (sq (sSet 3 (m2 gMod (mCal gInt1 (mCons (m2 gAdd (m2 gAdd (m2 gMul (m2b gIx (mNB 0) (ret (.int 1))) (m2b gIx (mNB 0) (ret (.int 1)))) (m2 gMul (ret (.int 69621)) (m2b gIx (mNB 0) (ret (.int 1))))) (ret (.int 11))) mNil)) (ret (.int 2147483629))))
    (sq (sSet 3 (m2 gMod (mCal gInt1 (mCons (m2 gAdd (m2 gMul (mN 3) (mN 3)) (m2 gMul (ret (.int 40014)) (mN 3))) mNil)) (ret (.int 2147483587))))
    (sRet (m2 gMod (mCal gInt1 (mCons (m2 gDiv (mN 3) (ret (.int 16))) mNil)) (mN 1))))))))
def f__law_draw : Fnc := mkF1 4 false b__law_draw
def t__law_table_1 : M Bool :=
  mYes
def e__law_table_1 : M D :=
  (mTup (mCons (m2 gIx (ret (.str "UD")) (mC1 f__law_draw 0 [] (mCons (ret (.int 2)) mNil))) (mCons (mC1 f__law_draw 0 [] (mCons (mN 4) mNil)) (mCons (mC1 f__law_draw 0 [] (mCons (mN 4) mNil)) mNil))))
def l__law_table_1 : M Fl :=
  (sq (sSet 7 (m2 gIx (ret (.str "UD")) (mC1 f__law_draw 0 [] (mCons (ret (.int 2)) mNil))))
    (sIf (mT (m2 gEq (mN 2) (ret (.int 0)))) (sApp 3 (mTup (mCons (mN 7) (mCons (mC1 f__law_draw 0 [] (mCons (mN 1) mNil)) (mCons (mC1 f__law_draw 0 [] (mCons (mN 1) mNil)) mNil))))) (sIf (mT (m2 gEq (mN 2) (ret (.int 1)))) (sApp 3 (mTup (mCons (mN 7) (mCons (m2 gMod (mCal gInt1 (mCons (m2 gAdd (mN 6) (ret (.int 1))) mNil)) (mN 1)) (mCons (mC1 f__law_draw 0 [] (mCons (m2 gAdd (mN 6) (ret (.int 1))) mNil)) mNil))))) (sq (sAsg (m2 gIx (mN 5) (m2 gMod (mCal gInt1 (mCons (mN 6) mNil)) (mN 4))) (gT 3 (gsC (gN 7) (gsC (gN 8) (gsC (gN 9) gsN)))))
    (sApp 3 (mTup (mCons (mN 7) (mCons (m2 gAdd (mN 8) (m2 gMul (mN 4) (mCal gInt1 (mCons (mAndV (m2 gLt (m2 gAdd (mN 8) (mN 4)) (mN 1)) (m2 gGt (mN 6) (ret (.int 0)))) mNil)))) (mCons (mN 9) mNil)))))))))
def b__law_table : M Fl :=
  (sq (sParM [2, 3, 4] (xCons (mC1 f__law_draw 0 [] (mCons (ret (.int 3)) mNil)) (xConsO (mLst mNil) (xCons (m2 gAdd (ret (.int 1)) (mC1 f__law_draw 0 [] (mCons (mN 1) mNil))) xNil))))
    (sq (sSet 5 (mLc [10] (mRng (mCons (mN 4) mNil)) (gN 10) t__law_table_1 e__law_table_1))
    (sq (sFor (mRng (mCons (mN 1) mNil)) (gN 6) l__law_table_1)
    (sRet (mCal1 gTuple (mNB 3))))))
def f__law_table : Fnc := mkF1 11 false b__law_table
def b__law_pick : M Fl :=
  (sRet (m2 gIx (mN 1) (mC1 f__law_draw 0 [] (mCons (m1 gLen (mN 1)) mNil))))
def f__law_pick : Fnc := mkF1 2 false b__law_pick
def b__law_odd : M Fl :=
  (sq (sSet 1 (mLst (mCons (ret .non) (mCons (ret (.bl true)) (mCons (ret (.bl false)) (mCons (m1 gNeg (ret (.int 1))) (mCons (ret (.int 0)) (mCons (ret (.int 1)) (mCons (ret (.int 2)) (mCons (ret (.int 7)) (mCons (m2 gPow (ret (.int 10)) (ret (.int 11))) (mCons (ret (.str "")) (mCons (ret (.str "U")) (mCons (ret (.str "D")) (mCons (ret (.str "+")) (mCons (ret (.str "-")) (mCons (ret (.str "UD")) (mCons (ret (.str "+-")) (mCons (mTup mNil) (mCons (mLst mNil) (mCons (ret (.dk [])) (mCons (mTup (mCons (ret (.int 0)) mNil)) (mCons (mLst (mCons (ret (.int 0)) mNil)) mNil)))))))))))))))))))))))
    (sq (sSet 1 (m2 gAdd (mN 1) (mLst (mCons (mDisp [((ret (.int 0)), (ret (.int 1)))]) (mCons (mTup (mCons (ret (.str "U")) (mCons (ret (.int 0)) (mCons (ret (.int 0)) mNil)))) (mCons (mTup (mCons (mTup (mCons (ret (.str "U")) (mCons (ret (.int 0)) (mCons (ret (.int 0)) mNil)))) mNil)) (mCons (mLst (mCons (mTup (mCons (ret (.str "U")) (mCons (ret (.int 0)) (mCons (ret (.int 0)) mNil)))) mNil)) (mCons (mTup (mCons (ret (.str "U")) (mCons (ret (.str "+")) mNil))) (mCons (mTup (mCons (ret (.str "")) (mCons (ret (.str "")) mNil))) (mCons (ret (.str "00U1")) (mCons (mTup (mCons (ret .non) mNil)) (mCons (ret (.str "?")) mNil))))))))))))
    (sRet (mC1 f__law_pick 0 [] (mCons (mN 1) mNil)))))
def f__law_odd : Fnc := mkF1 2 false b__law_odd
def b__law_kindE (ex : Ex) : M Fl :=
  (sq (sSet 1 (mLst (mCons (mIsE isE_TableError ex) (mCons (mIsE isE_ChecksError ex) (mCons (mIsE isE_RuleError ex) mNil)))))
    (sq (sSet 1 (m2 gAdd (mN 1) (mLst (mCons (mIsE isE_NumberError ex) mNil))))
    (sq (sSet 1 (m2 gAdd (mN 1) (mLst (mCons (mIsE isE_LimitsError ex) (mCons (mIsE isE_StateError ex) (mCons (mIsE isE_SituationError ex) mNil))))))
    (sq (sSet 1 (m2 gAdd (mN 1) (mLst (mCons (mIsE isE_FractionError ex) (mCons (mIsE isE_RulesError ex) (mCons (mIsE isE_StatusesError ex) mNil))))))
    (sq (sSet 1 (m2 gAdd (mN 1) (mLst (mCons (mIsE isE_NamesError ex) (mCons (mIsE isE_SignsError ex) (mCons (mIsE isE_UnknownName ex) mNil))))))
    (sq (sSet 1 (m2 gAdd (mN 1) (mLst (mCons (mIsE isE_MonitorError ex) (mCons (mIsE isE_NothingToUndo ex) (mCons (mIsE isE_DataError ex) mNil))))))
    (sq (sSet 1 (m2 gAdd (mN 1) (mLst (mCons (mIsE isE_TooLarge ex) (mCons (mIsE isE_TextError ex) mNil)))))
    (sq (sSet 2 (mLst (mCons (ret (.str "table")) (mCons (ret (.str "checks")) (mCons (ret (.str "rule")) (mCons (ret (.str "number")) (mCons (ret (.str "limits")) (mCons (ret (.str "state")) (mCons (ret (.str "situation")) (mCons (ret (.str "fraction")) (mCons (ret (.str "rules")) (mCons (ret (.str "statuses")) mNil))))))))))))
    (sq (sSet 2 (m2 gAdd (mN 2) (mLst (mCons (ret (.str "names")) (mCons (ret (.str "signs")) (mCons (ret (.str "unknown")) (mCons (ret (.str "monitor")) (mCons (ret (.str "undo")) (mCons (ret (.str "data")) (mCons (ret (.str "large")) (mCons (ret (.str "text")) mNil)))))))))))
    (sq (sIf (mOr (mT (m2 gNe (mMl gCnt (mB (mN 1)) (ret (.bl true))) (ret (.int 1)))) (mNot (mT (mIsE isE_ValueError ex)))) (sRet (ret (.str "other"))) skp)
    (sRet (m2 gIx (mN 2) (mMl gIdx (mB (mN 1)) (ret (.bl true)))))))))))))))
def g__law_kindE : Ex → Option D := mkE 3 b__law_kindE
def b_check_rule : M Fl :=
  (sIf (mNot (mT (mIsi isC_Rule (mN 0)))) (sRaise "RuleError") skp)
def f_check_rule : Fnc := mkF0 1 false b_check_rule
def b_made : M Fl :=
  (sq (sSet 2 (mC0 f_smallest [] (mCons (mN 0) (mCons (mN 1) mNil))))
    (sq (sIf (mT (m2 gGt (m1 gLen (mN 2)) (ret (.int 64)))) (sRaiseX "TooLarge" ["needed", "limit"] (mCons (m1 gLen (mN 2)) (mCons (ret (.int 64)) mNil))) skp)
    (sRet (mMk "Rule" f_RuleU_initU (fun ds es => ds) (mCons (mN 2) mNil) mNil))))
def f_made : Fnc := mkF0 3 false b_made
def l_joined_1 : M Fl :=
  (sq (sSet 11 (m2 gAdd (mCal gInt1 (mCons (m2 gEq (mN 5) (ret (.str "U"))) mNil)) (mCal gInt1 (mCons (m2 gEq (mN 8) (ret (.str "U"))) mNil))))
    (sq (sSet 12 (mIf (mOr (mT (m2 gEq (mN 11) (ret (.int 2)))) (mAnd (mT (m2 gEq (mN 11) (ret (.int 1)))) (mNot (mT (mN 2))))) (ret (.str "U")) (ret (.str "D"))))
    (sApp 4 (mTup (mCons (mN 12) (mCons (m2 gAdd (m2 gMul (mN 6) (mN 3)) (mN 9)) (mCons (m2 gAdd (m2 gMul (mN 7) (mN 3)) (mN 10)) mNil)))))))
def l_joined_2 : M Fl :=
  (sFor (mItems (mN 1)) (gT 3 (gsC (gN 8) (gsC (gN 9) (gsC (gN 10) gsN)))) l_joined_1)
def b_joined : M Fl :=
  (sq (sSet 3 (m1 gLen (mN 1)))
    (sq (sSetO 4 (mLst mNil))
    (sq (sFor (mItems (mN 0)) (gT 3 (gsC (gN 5) (gsC (gN 6) (gsC (gN 7) gsN)))) l_joined_2)
    (sRet (mCal1 gTuple (mNB 4))))))
def f_joined : Fnc := mkF0 13 false b_joined
def b_RuleU_andU : M Fl :=
  (sq (sDrop (mC0 f_check_rule [] (mCons (mN 1) mNil)))
    (sRet (mC0 f_made [] (mCons (mC0 f_joined [] (mCons (m1 (gFld "Rule" "table") (mN 0)) (mCons (m1 (gFld "Rule" "table") (mN 1)) (mCons (ret (.bl true)) mNil)))) (mCons (ret (.int 0)) mNil)))))
def f_RuleU_andU : Fnc := mkF0 2 false b_RuleU_andU
def b_RuleU_orU : M Fl :=
  (sq (sDrop (mC0 f_check_rule [] (mCons (mN 1) mNil)))
    (sRet (mC0 f_made [] (mCons (mC0 f_joined [] (mCons (m1 (gFld "Rule" "table") (mN 0)) (mCons (m1 (gFld "Rule" "table") (mN 1)) (mCons (ret (.bl false)) mNil)))) (mCons (ret (.int 0)) mNil)))))
def f_RuleU_orU : Fnc := mkF0 2 false b_RuleU_orU
def b_check_number : M Fl :=
  (sIf (mNot (mT (mC0 f_is_between [] (mCons (mN 0) (mCons (mN 1) (mCons (mN 2) mNil)))))) (sRaise "NumberError") skp)
def f_check_number : Fnc := mkF0 3 false b_check_number
def b_held_place : M Fl :=
  (sq (sIf (mT (m2 gGt (mN 3) (ret (.int 0)))) (sRet (m2 gSub (m2 gAdd (m2 gMul (m2 gAdd (m2 gMul (mN 1) (ret (.int 2))) (mCal gInt1 (mCons (m2 gEq (mN 2) (ret (.str "U"))) mNil))) (m2 gAdd (mN 4) (ret (.int 1)))) (mN 3)) (ret (.int 1)))) skp)
    (sq (sIf (mT (m2 gEq (m2 gIx (m2 gIx (mN 0) (mN 1)) (ret (.int 0))) (mN 2))) (sRet (m2 gMul (m2 gAdd (m2 gMul (mN 1) (ret (.int 2))) (mCal gInt1 (mCons (m2 gEq (mN 2) (ret (.str "U"))) mNil))) (m2 gAdd (mN 4) (ret (.int 1))))) skp)
    (sRet (m2 gAdd (m2 gMul (m2 gAdd (m2 gMul (mN 1) (ret (.int 2))) (mCal gInt1 (mCons (m2 gNe (mN 2) (ret (.str "U"))) mNil))) (m2 gAdd (mN 4) (ret (.int 1)))) (mN 4)))))
def f_held_place : Fnc := mkF0 5 false b_held_place
def l_held_1 : M Fl :=
  (sq (sSet 8 (mC0 f_held_place [] (mCons (mN 0) (mCons (mN 4) (mCons (mN 6) (mCons (mN 7) (mCons (mN 1) mNil)))))))
    (sApp 2 (mTup (mCons (mN 6) (mCons (mN 8) (mCons (mC0 f_held_place [] (mCons (mN 0) (mCons (mN 5) (mCons (mN 6) (mCons (mN 7) (mCons (mN 1) mNil)))))) mNil))))))
def l_held_2 : M Fl :=
  (sFor (mRng (mCons (m2 gAdd (mN 1) (ret (.int 1))) mNil)) (gN 7) l_held_1)
def l_held_3 : M Fl :=
  (sFor (mItems (mTup (mCons (ret (.str "D")) (mCons (ret (.str "U")) mNil)))) (gN 6) l_held_2)
def b_held : M Fl :=
  (sq (sSetO 2 (mLst mNil))
    (sq (sFor (mItems (mN 0)) (gT 3 (gsC (gN 3) (gsC (gN 4) (gsC (gN 5) gsN)))) l_held_3)
    (sRet (mTup (mCons (mCal1 gTuple (mNB 2)) (mCons (m2 gMul (mCal gInt1 (mCons (m2 gEq (m2 gIx (m2 gIx (mN 0) (ret (.int 0))) (ret (.int 0))) (ret (.str "U"))) mNil)) (m2 gAdd (mN 1) (ret (.int 1)))) mNil))))))
def f_held : Fnc := mkF0 9 false b_held
def b_RuleU_addU : M Fl :=
  (sq (sDrop (mC0 f_check_number [] (mCons (mN 1) (mCons (ret (.int 0)) (mCons (ret (.int 9)) mNil)))))
    (sq (sAsg (mC0 f_held [] (mCons (m1 (gFld "Rule" "table") (mN 0)) (mCons (mN 1) mNil))) (gT 2 (gsC (gN 2) (gsC (gN 3) gsN))))
    (sRet (mC0 f_made [] (mCons (mN 2) (mCons (mN 3) mNil))))))
def f_RuleU_addU : Fnc := mkF0 4 false b_RuleU_addU
def t_ignoring_1 : M Bool :=
  mYes
def e_ignoring_1 : M D :=
  (mTup (mCons (m2 gIx (m2 gIx (mN 0) (ret (.int 0))) (ret (.int 0))) (mCons (m2 gAdd (mN 3) (ret (.int 1))) (mCons (m2 gAdd (mN 3) (ret (.int 1))) mNil))))
def t_ignoring_2 : M Bool :=
  mYes
def e_ignoring_2 : M D :=
  (mTup (mCons (mN 4) (mCons (m2 gAdd (mN 5) (mN 1)) (mCons (m2 gAdd (mN 6) (mN 1)) mNil))))
def b_ignoring : M Fl :=
  (sq (sSet 2 (mLc [3] (mRng (mCons (mN 1) mNil)) (gN 3) t_ignoring_1 e_ignoring_1))
    (sRet (m1 gTuple (m2 gAdd (mN 2) (mLc [4, 5, 6] (mItems (mN 0)) (gT 3 (gsC (gN 4) (gsC (gN 5) (gsC (gN 6) gsN)))) t_ignoring_2 e_ignoring_2)))))
def f_ignoring : Fnc := mkF0 7 false b_ignoring
def b_RuleU_raddU : M Fl :=
  (sq (sDrop (mC0 f_check_number [] (mCons (mN 1) (mCons (ret (.int 0)) (mCons (ret (.int 9)) mNil)))))
    (sRet (mC0 f_made [] (mCons (mC0 f_ignoring [] (mCons (m1 (gFld "Rule" "table") (mN 0)) (mCons (mN 1) mNil))) (mCons (ret (.int 0)) mNil)))))
def f_RuleU_raddU : Fnc := mkF0 2 false b_RuleU_raddU
def b__law_words : M Fl :=
  (sq (sSetO 2 (mLst (mCons (mSaid ct_StatusError g__law_kindE (mBinX "Rule" f_RuleU_andU (mN 0) (mN 1))) mNil)))
    (sq (sApp 2 (mSaid ct_StatusError g__law_kindE (mBinX "Rule" f_RuleU_orU (mN 0) (mN 1))))
    (sq (sApp 2 (mSaid ct_StatusError g__law_kindE (mBinX "Rule" f_RuleU_addU (mN 0) (mN 1))))
    (sq (sApp 2 (mSaid ct_StatusError g__law_kindE (mRadX "Rule" f_RuleU_raddU (mN 1) (mN 0))))
    (sRet (mN 2))))))
def f__law_words : Fnc := mkF0 3 false b__law_words
def b__law_same : M Fl :=
  (sRet (m2 gEq (m1 gReprB (mN 0)) (m1 gReprB (mN 1))))
def f__law_same : Fnc := mkF0 2 false b__law_same
def t__law_chain_1 : M Bool :=
  mYes
def e__law_chain_1 : M D :=
  (mTup (mCons (ret (.str "D")) (mCons (m2 gAdd (mN 1) (ret (.int 1))) (mCons (ret (.int 0)) mNil))))
def b__law_chain : M Fl :=
  (sRet (m1 gTuple (m2 gAdd (mLc [1] (mRng (mCons (m2 gSub (mN 0) (ret (.int 1))) mNil)) (gN 1) t__law_chain_1 e__law_chain_1) (mLst (mCons (mTup (mCons (ret (.str "U")) (mCons (m2 gSub (mN 0) (ret (.int 1))) (mCons (ret (.int 0)) mNil)))) mNil)))))
def f__law_chain : Fnc := mkF0 2 false b__law_chain
def b_RuleU_lenU : M Fl :=
  (sRet (m1 gLen (m1 (gFld "Rule" "table") (mN 0))))
def f_RuleU_lenU : Fnc := mkF0 1 false b_RuleU_lenU
def b__law_owed : M Fl :=
  (sRet (mIf (mT (m2 gLe (mN 0) (ret (.int 64)))) (mN 0) (mTup (mCons (mN 0) (mCons (ret (.int 64)) mNil)))))
def f__law_owed : Fnc := mkF0 1 false b__law_owed
def t__law_ring_1 : M Bool :=
  mYes
def e__law_ring_1 : M D :=
  (mTup (mCons (m2 gIx (mN 0) (mN 2)) (mCons (m2 gMod (mCal gInt1 (mCons (m2 gAdd (mN 2) (ret (.int 1))) mNil)) (mN 1)) (mCons (m2 gMod (mCal gInt1 (mCons (m2 gAdd (mN 2) (ret (.int 1))) mNil)) (mN 1)) mNil))))
def b__law_ring : M Fl :=
  (sq (sSet 1 (m1 gLen (mN 0)))
    (sRet (m1 gTuple (mLc [2] (mRng (mCons (mN 1) mNil)) (gN 2) t__law_ring_1 e__law_ring_1))))
def f__law_ring : Fnc := mkF0 3 false b__law_ring
def t__law_period_1 : M Bool :=
  (mT (m2 gEq (m2 gAdd (mSl (mN 0) (mPart (mN 1)) mNoP) (mSl (mN 0) mNoP (mPart (mN 1)))) (mN 0)))
def e__law_period_1 : M D :=
  (mN 1)
def b__law_period : M Fl :=
  (sRet (m2 gIx (mLc [1] (mRng2 (mCons (ret (.int 1)) (mCons (m2 gAdd (m1 gLen (mN 0)) (ret (.int 1))) mNil))) (gN 1) t__law_period_1 e__law_period_1) (ret (.int 0))))
def f__law_period : Fnc := mkF0 2 false b__law_period
def l__law_are_rings_right_1 : M Fl :=
  (sq (sSet 7 (m2 gAdd (mCal gInt1 (mCons (m2 gEq (m2 gMod (mCal gInt1 (mCons (mN 6) mNil)) (mN 0)) (ret (.int 0))) mNil)) (mCal gInt1 (mCons (m2 gEq (m2 gMod (mCal gInt1 (mCons (mN 6) mNil)) (mN 1)) (ret (.int 0))) mNil))))
    (sq (sSet 4 (m2 gAdd (mN 4) (mIf (mT (m2 gEq (mN 7) (ret (.int 2)))) (ret (.str "U")) (ret (.str "D")))))
    (sSet 5 (m2 gAdd (mN 5) (mIf (mT (m2 gGt (mN 7) (ret (.int 0)))) (ret (.str "U")) (ret (.str "D")))))))
def b__law_are_rings_right : M Fl :=
  (sq (sSet 2 (mMk "Rule" f_RuleU_initU (fun ds es => ds) (mCons (mC0 f__law_ring [] (mCons (m2 gAdd (ret (.str "U")) (m2 gMulA (ret (.str "D")) (m2 gSub (mN 0) (ret (.int 1))))) mNil)) mNil) mNil))
    (sq (sSet 3 (mMk "Rule" f_RuleU_initU (fun ds es => ds) (mCons (mC0 f__law_ring [] (mCons (m2 gAdd (ret (.str "U")) (m2 gMulA (ret (.str "D")) (m2 gSub (mN 1) (ret (.int 1))))) mNil)) mNil) mNil))
    (sq (sAsg (mTup (mCons (ret (.str "")) (mCons (ret (.str "")) mNil))) (gT 2 (gsC (gN 4) (gsC (gN 5) gsN))))
    (sq (sFor (mRng (mCons (m2 gMul (mN 0) (mN 1)) mNil)) (gN 6) l__law_are_rings_right_1)
    (sq (sIf (mNot (mT (mC0 f__law_same [] (mCons (mTryL ct_TooLarge u__law_large_1 (mLenO "Rule" f_RuleU_lenU (mBinO "Rule" f_RuleU_andU (mN 2) (mN 3)))) (mCons (mC0 f__law_owed [] (mCons (mC0 f__law_period [] (mCons (mN 4) mNil)) mNil)) mNil))))) (sRet (ret (.bl false))) skp)
    (sRet (mC0 f__law_same [] (mCons (mTryL ct_TooLarge u__law_large_1 (mLenO "Rule" f_RuleU_lenU (mBinO "Rule" f_RuleU_orU (mN 2) (mN 3)))) (mCons (mC0 f__law_owed [] (mCons (mC0 f__law_period [] (mCons (mN 5) mNil)) mNil)) mNil)))))))))
def f__law_are_rings_right : Fnc := mkF0 8 false b__law_are_rings_right
def l_law_1 : M Fl :=
  (sq (sSet 6 (mLst (mCons (mTup (mCons (ret (.str "rule")) mNil)) (mCons (mTup (mCons (ret (.str "rule")) mNil)) (mCons (mTup (mCons (ret (.str "number")) mNil)) (mCons (mTup (mCons (ret (.str "number")) mNil)) mNil))))))
    (sq (sSet 7 (mAndV (mIsi isB_int (mN 5)) (mAndV (mNotV (mIsi isB_bool (mN 5))) (mChain gLe gLe (ret (.int 0)) (mN 5) (ret (.int 9))))))
    (sIf (mAnd (mNot (mT (mN 7))) (mT (m2 gNe (mC0 f__law_words [] (mCons (mN 3) (mCons (mN 5) mNil))) (mN 6)))) (sRet (ret (.bl false))) skp)))
def l_law_2 : M Fl :=
  (sq (sSetO 2 (mC0 f__law_pen [] (mCons (mC0 f__law_cell_at [] (mCons (mN 0) (mCons (mN 1) mNil))) mNil)))
    (sq (sSet 3 (mMk "Rule" f_RuleU_initU (fun ds es => ds) (mCons (mC1 f__law_table 2 [] (mCons (m2 gAdd (ret (.int 1)) (mC1 f__law_draw 2 [] (mCons (ret (.int 6)) mNil))) mNil)) mNil) mNil))
    (sq (sSet 4 (m1 (gFld "Rule" "table") (mN 3)))
    (sq (sFor (mItems (mLst (mCons (mC1 f__law_odd 2 [] mNil) (mCons (m1 gNeg (ret (.int 1))) (mCons (ret (.int 10)) (mCons (ret (.bl true)) (mCons (ret .non) (mCons (ret (.str "1")) (mCons (mTup (mCons (ret (.int 1)) mNil)) (mCons (mLst (mCons (ret (.int 1)) mNil)) (mCons (ret (.dk [])) (mCons (m2 gPow (ret (.int 10)) (ret (.int 11))) mNil)))))))))))) (gN 5) l_law_1)
    (sq (sIf (mOr (mT (m2 gNe (mSaid ct_StatusError g__law_kindE (mBinO "Rule" f_RuleU_addU (mN 3) (mN 3))) (mTup (mCons (ret (.str "number")) mNil)))) (mNot (mT (mC0 f__law_same [] (mCons (m1 (gFld "Rule" "table") (mN 3)) (mCons (mN 4) mNil)))))) (sRet (ret (.bl false))) skp)
    (sq (sAsg (mTup (mCons (m2 gAdd (ret (.int 50)) (mC1 f__law_draw 2 [] (mCons (ret (.int 15)) mNil))) (mCons (mC1 f__law_draw 2 [] (mCons (ret (.int 10)) mNil)) mNil))) (gT 2 (gsC (gN 8) (gsC (gN 9) gsN))))
    (sq (sSet 10 (mMk "Rule" f_RuleU_initU (fun ds es => ds) (mCons (mC0 f__law_chain [] (mCons (mN 8) mNil)) mNil) mNil))
    (sq (sIf (mOr (mNot (mT (mC0 f__law_same [] (mCons (mTryL ct_TooLarge u__law_large_1 (mLenO "Rule" f_RuleU_lenU (mRadX "Rule" f_RuleU_raddU (mN 9) (mN 10)))) (mCons (mC0 f__law_owed [] (mCons (m2 gAdd (mN 8) (mN 9)) mNil)) mNil))))) (mT (m2 gNe (mLenO "Rule" f_RuleU_lenU (mN 10)) (mN 8)))) (sRet (ret (.bl false))) skp)
    (sq (sIf (mNot (mT (mC0 f__law_are_rings_right [] (mCons (m2 gAdd (ret (.int 1)) (mC1 f__law_draw 2 [] (mCons (ret (.int 13)) mNil))) (mCons (m2 gAdd (ret (.int 1)) (mC1 f__law_draw 2 [] (mCons (ret (.int 13)) mNil))) mNil))))) (sRet (ret (.bl false))) skp)
    (sIf (mNot (mT (mC0 f__law_are_rings_right [] (mCons (ret (.int 14)) (mCons (m2 gAdd (ret (.int 10)) (m2 gMul (ret (.int 2)) (mC1 f__law_draw 2 [] (mCons (ret (.int 2)) mNil)))) mNil))))) (sRet (ret (.bl false))) skp))))))))))
def b_law : M Fl :=
  (sq (sFor (mRng (mCons (mCal gMax2 (mCons (ret (.int 1)) (mCons (mCal gMin2 (mCons (m1 gLen (mN 0)) (mCons (ret (.int 3)) mNil))) mNil))) mNil)) (gN 1) l_law_2)
    (sRet (ret (.bl true))))
def f_law : Fnc := mkF0 11 false b_law
end Lw
namespace Lw
open PySem hiding start
open PySem.Spec L2 Sr
open PyProof.Rows hiding St
structure Tx [TabL] (K : PySem.W.Frag) (mg : Str → Option Value) : Prop where
  f_max : mg "max" = none
  f_int : mg "int" = none
  f_len : mg "len" = none
  f_isinstance : mg "isinstance" = none
  f_bool : mg "bool" = none
  f_tuple : mg "tuple" = none
  f_str : mg "str" = none
  c_UP : ∃ t, mg "UP" = some (.str "U" t)
  c_DOWN : ∃ t, mg "DOWN" = some (.str "D" t)
  c_MOST_ROWS : ∃ t, mg "MOST_ROWS" = some (.int 64 t)
  f_all : mg "all" = none
  f_set : mg "set" = none
  f_enumerate : mg "enumerate" = none
  f_range : mg "range" = none
  f_ValueError : mg "ValueError" = none
  c_MOST_ADDED : ∃ t, mg "MOST_ADDED" = some (.int 9 t)
  f_repr : mg "repr" = none
  f_min : mg "min" = none
  k_Rule : mg "Rule" = some (.ref (He.ga K "Rule"))
  cl_Rule : Cls K (He.ga K "Rule")
  k_TableError : mg "TableError" = some (.ref (He.ga K "TableError"))
  k_ChecksError : mg "ChecksError" = some (.ref (He.ga K "ChecksError"))
  k_RuleError : mg "RuleError" = some (.ref (He.ga K "RuleError"))
  k_NumberError : mg "NumberError" = some (.ref (He.ga K "NumberError"))
  k_LimitsError : mg "LimitsError" = some (.ref (He.ga K "LimitsError"))
  k_StateError : mg "StateError" = some (.ref (He.ga K "StateError"))
  k_SituationError : mg "SituationError" = some (.ref (He.ga K "SituationError"))
  k_FractionError : mg "FractionError" = some (.ref (He.ga K "FractionError"))
  k_RulesError : mg "RulesError" = some (.ref (He.ga K "RulesError"))
  k_StatusesError : mg "StatusesError" = some (.ref (He.ga K "StatusesError"))
  k_NamesError : mg "NamesError" = some (.ref (He.ga K "NamesError"))
  k_SignsError : mg "SignsError" = some (.ref (He.ga K "SignsError"))
  k_UnknownName : mg "UnknownName" = some (.ref (He.ga K "UnknownName"))
  k_MonitorError : mg "MonitorError" = some (.ref (He.ga K "MonitorError"))
  k_NothingToUndo : mg "NothingToUndo" = some (.ref (He.ga K "NothingToUndo"))
  k_DataError : mg "DataError" = some (.ref (He.ga K "DataError"))
  k_TooLarge : mg "TooLarge" = some (.ref (He.ga K "TooLarge"))
  k_TextError : mg "TextError" = some (.ref (He.ga K "TextError"))
  k_StatusError : mg "StatusError" = some (.ref (He.ga K "StatusError"))
  n_Rule_table : NoAttr K (He.ga K "Rule") "table"
  i_int : IsiK K mg (.type "int") isB_int
  i_bool : IsiK K mg (.type "bool") isB_bool
  i_tuple : IsiK K mg (.type "tuple") isB_tuple
  i_str : IsiK K mg (.type "str") isB_str
  i_Rule : IsiK K mg (.ref (He.ga K "Rule")) isC_Rule
  x_TableError : Rai K mg "TableError"
  x_RuleError : Rai K mg "RuleError"
  x_NumberError : Rai K mg "NumberError"
  xc_TooLarge : XcF K "TooLarge" ["needed", "limit"]
  xf_needed : XfE K mg "needed" ["TooLarge"]
  xf_limit : XfE K mg "limit" ["TooLarge"]
  ct_StatusError : Cat K mg (.ref (He.ga K "StatusError")) Lw.ct_StatusError
  ct_TooLarge : Cat K mg (.ref (He.ga K "TooLarge")) Lw.ct_TooLarge
  e_TableError : IsE K mg (.ref (He.ga K "TableError")) isE_TableError
  e_ChecksError : IsE K mg (.ref (He.ga K "ChecksError")) isE_ChecksError
  e_RuleError : IsE K mg (.ref (He.ga K "RuleError")) isE_RuleError
  e_NumberError : IsE K mg (.ref (He.ga K "NumberError")) isE_NumberError
  e_LimitsError : IsE K mg (.ref (He.ga K "LimitsError")) isE_LimitsError
  e_StateError : IsE K mg (.ref (He.ga K "StateError")) isE_StateError
  e_SituationError : IsE K mg (.ref (He.ga K "SituationError")) isE_SituationError
  e_FractionError : IsE K mg (.ref (He.ga K "FractionError")) isE_FractionError
  e_RulesError : IsE K mg (.ref (He.ga K "RulesError")) isE_RulesError
  e_StatusesError : IsE K mg (.ref (He.ga K "StatusesError")) isE_StatusesError
  e_NamesError : IsE K mg (.ref (He.ga K "NamesError")) isE_NamesError
  e_SignsError : IsE K mg (.ref (He.ga K "SignsError")) isE_SignsError
  e_UnknownName : IsE K mg (.ref (He.ga K "UnknownName")) isE_UnknownName
  e_MonitorError : IsE K mg (.ref (He.ga K "MonitorError")) isE_MonitorError
  e_NothingToUndo : IsE K mg (.ref (He.ga K "NothingToUndo")) isE_NothingToUndo
  e_DataError : IsE K mg (.ref (He.ga K "DataError")) isE_DataError
  e_TooLarge : IsE K mg (.ref (He.ga K "TooLarge")) isE_TooLarge
  e_TextError : IsE K mg (.ref (He.ga K "TextError")) isE_TextError
  e_ValueError : IsE K mg (.type "ValueError") isE_ValueError
  e_StatusError : IsE K mg (.ref (He.ga K "StatusError")) isE_StatusError
  sf_Rule : PySem.W.selfFirst K (He.ga K "Rule") = true
  nx_Rule : numXB K "Rule" = true
  ir_Rule__rand__ : isR (PySem.W.findIn K (.ref (He.ga K "Rule")) "__rand__") = true
  ir_Rule__ror__ : isR (PySem.W.findIn K (.ref (He.ga K "Rule")) "__ror__") = true
  ir_Rule__radd__ : isR (PySem.W.findIn K (.ref (He.ga K "Rule")) "__radd__") = true
  is_Rule__add__ : isRs (PySem.W.findIn K (.ref (He.ga K "Rule")) "__add__") = true
def gV_Rule_1_ : List V → List V → List V := fun vs _ => vs
theorem rel_Rule_1_ [TabL] {K : PySem.W.Frag} {mg : Str → Option Value} (ds es : List D) (vs zs : List V) (F : Hp) (x : Addr) (h1 : RpL K mg F ds vs) (h2 : RpL K mg F es zs) (l1 : ds.length = 1) (l2 : es.length = 0) : ∃ ws, gV_Rule_1_ (.ref x :: vs) zs = .ref x :: ws ∧ RpL K mg F ((fun ds es => ds) ds es) ws ∧ ((fun ds es => ds) ds es).length + 1 = 2 :=
  ⟨vs, rfl, h1, by simp only [l1]⟩
section
variable [TabL] {P : Program} {w : World} {K : PySem.W.Frag} {mg : Str → Option Value} {base : Heap}
theorem sc_TooLargeU_initU : FnScope ["self", "needed", "limit"] ["self", "needed", "limit"] (defScope st_TooLargeU_initU) := ⟨rfl, rfl, rfl, by decide +kernel, rfl, by decide +kernel, by decide +kernel⟩
theorem ok_TooLargeU_initU (Z : Tx K mg) {f : Addr} {fd : FuncData} {kws : List (Str × V)} (G : FunD K "__init__" "TooLarge.__init__" (defArgs st_TooLargeU_initU) (defBody st_TooLargeU_initU) (defScope st_TooLargeU_initU) [] kws f fd) : FnG P w K mg base 1 f fd ["self", "needed", "limit"] (spX2 (He.ga K "TooLarge") "needed" "limit") :=
  fnX2 Z.xc_TooLarge.o (Z.xc_TooLarge.n _ (by decide)) (Z.xc_TooLarge.n _ (by decide)) G sc_TooLargeU_initU (by rfl) (Or.inl rfl) (Or.inl rfl) (Or.inl rfl)
theorem sc__law_said : FnScope ["_law_call", "_law_e"] ["_law_call"] (defScope st__law_said) := ⟨rfl, rfl, rfl, by decide +kernel, rfl, by decide +kernel, by decide +kernel⟩
theorem sc__law_large : FnScope ["_law_call", "_law_e"] ["_law_call"] (defScope st__law_large) := ⟨rfl, rfl, rfl, by decide +kernel, rfl, by decide +kernel, by decide +kernel⟩
def hs__law_large : List Stmt := match defBody st__law_large with
  | [.Try _ [.ExceptHandler _ _ b _] _ _ _] => b
  | _ => []
theorem hd__law_large (Z : Tx K mg) (g1 : Addr) (cd1 : Value) (A1 : Around) (o1 : List Env) (s1 : Shared) (H1 : Hp) (E1 : XK) (a1 : Addr) (pa1 : Pa) (oe1 : Obj) (cls1 : Value) (d1 : Option Addr) (pn1 : List (Addr × Obj)) (ex : Ex) (hz : L2N.Zn cls1 d1 oe1) (hfs : ∃ vs, oe1.data = .fields vs) (hm : mg ex.c = some cls1) (hd : PaX pa1 a1 d1 ex) :
    JSs ((cxOf (L2N.CX P w) P w K mg base ["_law_call", "_law_e"] "_law_large" (defScope st__law_large) g1 cd1 A1 o1 s1 H1 E1).suite a1 ((a1, oe1) :: pn1)) [(1, pa1)] W0 hs__law_large (u__law_large_1 ex) :=
  (js_cons (js_if (ofW (jw_or (jt_val (jv_isE (c := .ref (He.ga K "NumberError")) Z.e_NumberError hz hfs hm hd (fun u h => h) (pe_glob (v := .ref (He.ga K "NumberError")) (by rfl) Z.k_NumberError rfl (by decide)) (fun _ _ _ h => h) (by rfl) Z.f_isinstance rfl (Or.inl rfl))) (jw_or (jt_val (jv_isE (c := .ref (He.ga K "RuleError")) Z.e_RuleError hz hfs hm hd (fun u h => h) (pe_glob (v := .ref (He.ga K "RuleError")) (by rfl) Z.k_RuleError rfl (by decide)) (fun _ _ _ h => h) (by rfl) Z.f_isinstance rfl (Or.inl rfl))) (jw_or1 (jt_not (jt_val (jv_isE (c := .ref (He.ga K "StatusError")) Z.e_StatusError hz hfs hm hd (fun u h => h) (pe_glob (v := .ref (He.ga K "StatusError")) (by rfl) Z.k_StatusError rfl (by decide)) (fun _ _ _ h => h) (by rfl) Z.f_isinstance rfl (Or.inl rfl)))))))) (js_one (js_ret jv_non)) js_nil)
    (js_one (js_ret (jv_tup (jl_cons (jv_xfS Z.xf_needed hz hfs hm hd rfl (Or.inl rfl)) (jl_cons (jv_xfS Z.xf_limit hz hfs hm hd rfl (Or.inl rfl)) jl_nil)).ja))))
abbrev N__law_pen : List Str := ["_law_cell"]
theorem sc__law_pen : FnScope N__law_pen ["_law_cell"] (defScope st__law_pen) := ⟨rfl, rfl, rfl, by decide +kernel, rfl, by decide +kernel, by decide +kernel⟩
theorem d__law_pen (Z : Tx K mg)  {f : Addr} {cdv : Value} {A : Around} {outer : List Env} {s0 : Shared} {H : Hp} {E : XK} (hr : Room 0 (A.deeper (envOfC "_law_pen" (defScope st__law_pen) s0.heap.objs.size f cdv))) (hgu : A.guards = some []) : JSs (cxOf (L2N.CX P w) P w K mg base N__law_pen "_law_pen" (defScope st__law_pen) f cdv A outer s0 H E) [] (WE0 E) (defBody st__law_pen) b__law_pen := by
  have hp : Pl (cxOf (L2N.CX P w) P w K mg base N__law_pen "_law_pen" (defScope st__law_pen) f cdv A outer s0 H E) 0 := ⟨hr, hgu⟩
  exact (js_one (js_retO (jo_lst (jl_cons (jv_callB (c_max (by rfl)) (by rfl) Z.f_max bt_max (jl_cons jv_int (jl_cons (jv_bin o_sub (jv_name 0 rfl (Or.inl rfl)) (jv_bin o_pow jv_int jv_int)) jl_nil)).ja) (jl_cons (jv_bin o_add (jv_bin o_mod (jv_callTy c_int (by rfl) Z.f_int bt_int (jl_cons (jv_name 0 rfl (Or.inl rfl)) jl_nil).ja) jv_int) jv_int) (jl_cons jv_int jl_nil))).ja)))
theorem ok__law_pen (Z : Tx K mg)  {f : Addr} {fd : FuncData} {kws : List (Str × V)} (G : FunD K "_law_pen" "_law_pen" (defArgs st__law_pen) (defBody st__law_pen) (defScope st__law_pen) [] kws f fd) : FnG P w K mg base 1 f fd ["_law_cell"] (spF0 K mg true 1 f__law_pen) :=
  fn0 (P := P) (w := w) (mg := mg) (base := base) (ro := true) (s := b__law_pen) (N := N__law_pen) (ps := ["_law_cell"]) rfl rfl G sc__law_pen fun cdv A outer s0 H E hr hgu => d__law_pen Z  hr hgu
abbrev N__law_cell_at : List Str := ["_law_script", "_law_k"]
theorem sc__law_cell_at : FnScope N__law_cell_at ["_law_script", "_law_k"] (defScope st__law_cell_at) := ⟨rfl, rfl, rfl, by decide +kernel, rfl, by decide +kernel, by decide +kernel⟩
theorem d__law_cell_at (Z : Tx K mg)  {f : Addr} {cdv : Value} {A : Around} {outer : List Env} {s0 : Shared} {H : Hp} {E : XK} (hr : Room 0 (A.deeper (envOfC "_law_cell_at" (defScope st__law_cell_at) s0.heap.objs.size f cdv))) (hgu : A.guards = some []) : JSs (cxOf (L2N.CX P w) P w K mg base N__law_cell_at "_law_cell_at" (defScope st__law_cell_at) f cdv A outer s0 H E) [] (WE0 E) (defBody st__law_cell_at) b__law_cell_at := by
  have hp : Pl (cxOf (L2N.CX P w) P w K mg base N__law_cell_at "_law_cell_at" (defScope st__law_cell_at) f cdv A outer s0 H E) 0 := ⟨hr, hgu⟩
  exact (js_cons (js_if (jt_cmp (p_lt hp) (jv_name 1 rfl (Or.inl rfl)) (jv_callV1 c_len (by rfl) Z.f_len bt_len (jv_name 0 rfl (Or.inl rfl)))) (js_one (js_ret (jv_ix (jv_name 0 rfl (Or.inl rfl)) (jv_name 1 rfl (Or.inl rfl))))) js_nil)
    (js_one (js_ret jv_int)))
theorem ok__law_cell_at (Z : Tx K mg)  {f : Addr} {fd : FuncData} {kws : List (Str × V)} (G : FunD K "_law_cell_at" "_law_cell_at" (defArgs st__law_cell_at) (defBody st__law_cell_at) (defScope st__law_cell_at) [] kws f fd) : FnG P w K mg base 1 f fd ["_law_script", "_law_k"] (spF0 K mg false 2 f__law_cell_at) :=
  fn0 (P := P) (w := w) (mg := mg) (base := base) (ro := false) (s := b__law_cell_at) (N := N__law_cell_at) (ps := ["_law_script", "_law_k"]) rfl rfl G sc__law_cell_at fun cdv A outer s0 H E hr hgu => d__law_cell_at Z  hr hgu
abbrev N_is_integer : List Str := ["value"]
theorem sc_is_integer : FnScope N_is_integer ["value"] (defScope st_is_integer) := ⟨rfl, rfl, rfl, by decide +kernel, rfl, by decide +kernel, by decide +kernel⟩
theorem d_is_integer (Z : Tx K mg)  {f : Addr} {cdv : Value} {A : Around} {outer : List Env} {s0 : Shared} {H : Hp} {E : XK} (hr : Room 0 (A.deeper (envOfC "is_integer" (defScope st_is_integer) s0.heap.objs.size f cdv))) (hgu : A.guards = some []) : JSs (cxOf (L2N.CX P w) P w K mg base N_is_integer "is_integer" (defScope st_is_integer) f cdv A outer s0 H E) [] (WE0 E) (defBody st_is_integer) b_is_integer := by
  have hp : Pl (cxOf (L2N.CX P w) P w K mg base N_is_integer "is_integer" (defScope st_is_integer) f cdv A outer s0 H E) 0 := ⟨hr, hgu⟩
  exact (js_one (js_ret (jv_and (jv_isiB Z.i_int (by rfl) Z.f_isinstance (by rfl) Z.f_int bt_int (jv_name 0 rfl (Or.inl rfl))) (jv_one (jv_not (jv_isiB Z.i_bool (by rfl) Z.f_isinstance (by rfl) Z.f_bool bt_bool (jv_name 0 rfl (Or.inl rfl))))))))
theorem ok_is_integer (Z : Tx K mg)  {f : Addr} {fd : FuncData} {kws : List (Str × V)} (G : FunD K "is_integer" "is_integer" (defArgs st_is_integer) (defBody st_is_integer) (defScope st_is_integer) [] kws f fd) : FnG P w K mg base 1 f fd ["value"] (spF0 K mg false 1 f_is_integer) :=
  fn0 (P := P) (w := w) (mg := mg) (base := base) (ro := false) (s := b_is_integer) (N := N_is_integer) (ps := ["value"]) rfl rfl G sc_is_integer fun cdv A outer s0 H E hr hgu => d_is_integer Z  hr hgu
abbrev N_is_between : List Str := ["value", "low", "high"]
theorem sc_is_between : FnScope N_is_between ["value", "low", "high"] (defScope st_is_between) := ⟨rfl, rfl, rfl, by decide +kernel, rfl, by decide +kernel, by decide +kernel⟩
theorem d_is_between (Z : Tx K mg) (hF_is_integer : FnC P w K mg base 1 "is_integer" (spF0 K mg false 1 f_is_integer) ["value"] []) {f : Addr} {cdv : Value} {A : Around} {outer : List Env} {s0 : Shared} {H : Hp} {E : XK} (hr : Room 1 (A.deeper (envOfC "is_between" (defScope st_is_between) s0.heap.objs.size f cdv))) (hgu : A.guards = some []) : JSs (cxOf (L2N.CX P w) P w K mg base N_is_between "is_between" (defScope st_is_between) f cdv A outer s0 H E) [] (WE0 E) (defBody st_is_between) b_is_between := by
  have hp : Pl (cxOf (L2N.CX P w) P w K mg base N_is_between "is_between" (defScope st_is_between) f cdv A outer s0 H E) 1 := ⟨hr, hgu⟩
  exact (js_one (js_ret (jv_and (jv_c0 ⟨hF_is_integer⟩ hp (L2N.takes_of rfl rfl rfl rfl) nodd (by rfl) (jl_cons (jv_name 0 rfl (Or.inl rfl)) jl_nil)) (jv_one (jv_chain p_le p_le (jv_name 1 rfl (Or.inl rfl)) (jv_name 0 rfl (Or.inl rfl)) (jv_name 2 rfl (Or.inl rfl)))))))
theorem ok_is_between (Z : Tx K mg) (hF_is_integer : FnC P w K mg base 1 "is_integer" (spF0 K mg false 1 f_is_integer) ["value"] []) {f : Addr} {fd : FuncData} {kws : List (Str × V)} (G : FunD K "is_between" "is_between" (defArgs st_is_between) (defBody st_is_between) (defScope st_is_between) [] kws f fd) : FnG P w K mg base 2 f fd ["value", "low", "high"] (spF0 K mg false 3 f_is_between) :=
  fn0 (P := P) (w := w) (mg := mg) (base := base) (ro := false) (s := b_is_between) (N := N_is_between) (ps := ["value", "low", "high"]) rfl rfl G sc_is_between fun cdv A outer s0 H E hr hgu => d_is_between Z hF_is_integer hr hgu
abbrev N_is_row : List Str := ["value", "count"]
theorem sc_is_row : FnScope N_is_row ["value", "count"] (defScope st_is_row) := ⟨rfl, rfl, rfl, by decide +kernel, rfl, by decide +kernel, by decide +kernel⟩
theorem d_is_row (Z : Tx K mg) (hF_is_between : FnC P w K mg base 2 "is_between" (spF0 K mg false 3 f_is_between) ["value", "low", "high"] []) {f : Addr} {cdv : Value} {A : Around} {outer : List Env} {s0 : Shared} {H : Hp} {E : XK} (hr : Room 2 (A.deeper (envOfC "is_row" (defScope st_is_row) s0.heap.objs.size f cdv))) (hgu : A.guards = some []) : JSs (cxOf (L2N.CX P w) P w K mg base N_is_row "is_row" (defScope st_is_row) f cdv A outer s0 H E) [] (WE0 E) (defBody st_is_row) b_is_row := by
  have hp : Pl (cxOf (L2N.CX P w) P w K mg base N_is_row "is_row" (defScope st_is_row) f cdv A outer s0 H E) 2 := ⟨hr, hgu⟩
  exact (js_cons (js_if (ofW (jw_or (jt_not (jt_val (jv_isiB Z.i_tuple (by rfl) Z.f_isinstance (by rfl) Z.f_tuple bt_tuple (jv_name 0 rfl (Or.inl rfl))))) (jw_or (jt_cmp (o_ne hp.u64) (jv_callV1 c_len (by rfl) Z.f_len bt_len (jv_name 0 rfl (Or.inl rfl))) jv_int) (jw_or1 (jt_not (jt_val (jv_isiB Z.i_str (by rfl) Z.f_isinstance (by rfl) Z.f_str bt_str (jv_ix (jv_name 0 rfl (Or.inl rfl)) jv_int)))))))) (js_one (js_ret jv_bl)) js_nil)
    (js_one (js_ret (jv_and (jv_cmp (o_in hp) (jv_ix (jv_name 0 rfl (Or.inl rfl)) jv_int) (jv_tup (jl_cons (jv_gS (by rfl) Z.c_UP) (jl_cons (jv_gS (by rfl) Z.c_DOWN) jl_nil)).ja)) (jv_and (jv_c0 ⟨hF_is_between⟩ hp (L2N.takes_of rfl rfl rfl rfl) nodd (by rfl) (jl_cons (jv_ix (jv_name 0 rfl (Or.inl rfl)) jv_int) (jl_cons jv_int (jl_cons (jv_bin o_sub (jv_name 1 rfl (Or.inl rfl)) jv_int) jl_nil)))) (jv_one (jv_c0 ⟨hF_is_between⟩ hp (L2N.takes_of rfl rfl rfl rfl) nodd (by rfl) (jl_cons (jv_ix (jv_name 0 rfl (Or.inl rfl)) jv_int) (jl_cons jv_int (jl_cons (jv_bin o_sub (jv_name 1 rfl (Or.inl rfl)) jv_int) jl_nil))))))))))
theorem ok_is_row (Z : Tx K mg) (hF_is_between : FnC P w K mg base 2 "is_between" (spF0 K mg false 3 f_is_between) ["value", "low", "high"] []) {f : Addr} {fd : FuncData} {kws : List (Str × V)} (G : FunD K "is_row" "is_row" (defArgs st_is_row) (defBody st_is_row) (defScope st_is_row) [] kws f fd) : FnG P w K mg base 3 f fd ["value", "count"] (spF0 K mg false 2 f_is_row) :=
  fn0 (P := P) (w := w) (mg := mg) (base := base) (ro := false) (s := b_is_row) (N := N_is_row) (ps := ["value", "count"]) rfl rfl G sc_is_row fun cdv A outer s0 H E hr hgu => d_is_row Z hF_is_between hr hgu
abbrev N_is_table : List Str := ["value", "row"]
theorem sc_is_table : FnScope N_is_table ["value"] (defScope st_is_table) := ⟨rfl, rfl, rfl, by decide +kernel, rfl, by decide +kernel, by decide +kernel⟩
theorem d_is_table (Z : Tx K mg) (hF_is_row : FnC P w K mg base 3 "is_row" (spF0 K mg false 2 f_is_row) ["value", "count"] []) {f : Addr} {cdv : Value} {A : Around} {outer : List Env} {s0 : Shared} {H : Hp} {E : XK} (hr : Room 3 (A.deeper (envOfC "is_table" (defScope st_is_table) s0.heap.objs.size f cdv))) (hgu : A.guards = some []) : JSs (cxOf (L2N.CX P w) P w K mg base N_is_table "is_table" (defScope st_is_table) f cdv A outer s0 H E) [] (WE0 E) (defBody st_is_table) b_is_table := by
  have hp : Pl (cxOf (L2N.CX P w) P w K mg base N_is_table "is_table" (defScope st_is_table) f cdv A outer s0 H E) 3 := ⟨hr, hgu⟩
  exact (js_cons (js_if (ofW (jw_or (jt_not (jt_val (jv_isiB Z.i_tuple (by rfl) Z.f_isinstance (by rfl) Z.f_tuple bt_tuple (jv_name 0 rfl (Or.inr (Or.inl rfl)))))) (jw_or1 (jt_not (jt_chain p_le p_le jv_int (jv_callV1 c_len (by rfl) Z.f_len bt_len (jv_name 0 rfl (Or.inr (Or.inl rfl)))) (jv_gI (by rfl) Z.c_MOST_ROWS)))))) (js_one (js_ret jv_bl)) js_nil)
    (js_one (js_ret (jv_callV1 (c_all (by rfl)) (by rfl) Z.f_all bt_all (ofO (jo_lc [("row", 1)] hp rfl sc_is_table.nd noPs_nil (blkOk_by (by rfl)) (ji_v (jv_name 0 rfl (Or.inr (Or.inl rfl)))) (fun s1 H1 C1 cl1 fp1 hp => (jh_name noP_nil sc_is_table.nd rfl (Or.inl rfl) (by decide))) (fun s1 H1 C1 cl1 fp1 hp => jts_nil) (fun s1 H1 C1 cl1 fp1 hp => (jv_c0 ⟨hF_is_row⟩ hp Sr.takes0 nodd (by rfl) (jl_cons (jv_name 1 rfl (Or.inl rfl)) (jl_cons (jv_callV1 c_len (by rfl) Z.f_len bt_len (jv_name 0 rfl (Or.inr (Or.inl rfl)))) jl_nil))))))))))
theorem ok_is_table (Z : Tx K mg) (hF_is_row : FnC P w K mg base 3 "is_row" (spF0 K mg false 2 f_is_row) ["value", "count"] []) {f : Addr} {fd : FuncData} {kws : List (Str × V)} (G : FunD K "is_table" "is_table" (defArgs st_is_table) (defBody st_is_table) (defScope st_is_table) [] kws f fd) : FnG P w K mg base 4 f fd ["value"] (spF0 K mg false 1 f_is_table) :=
  fn0 (P := P) (w := w) (mg := mg) (base := base) (ro := false) (s := b_is_table) (N := N_is_table) (ps := ["value"]) rfl rfl G sc_is_table fun cdv A outer s0 H E hr hgu => d_is_table Z hF_is_row hr hgu
abbrev N_row_classes : List Str := ["rows", "found", "many", "numbers", "later", "at", "row", "key"]
theorem sc_row_classes : FnScope N_row_classes ["rows"] (defScope st_row_classes) := ⟨rfl, rfl, rfl, by decide +kernel, rfl, by decide +kernel, by decide +kernel⟩
theorem d_row_classes (Z : Tx K mg)  {f : Addr} {cdv : Value} {A : Around} {outer : List Env} {s0 : Shared} {H : Hp} {E : XK} (hr : Room 0 (A.deeper (envOfC "row_classes" (defScope st_row_classes) s0.heap.objs.size f cdv))) (hgu : A.guards = some []) : JSs (cxOf (L2N.CX P w) P w K mg base N_row_classes "row_classes" (defScope st_row_classes) f cdv A outer s0 H E) [] (WE0 E) (defBody st_row_classes) b_row_classes := by
  have hp : Pl (cxOf (L2N.CX P w) P w K mg base N_row_classes "row_classes" (defScope st_row_classes) f cdv A outer s0 H E) 0 := ⟨hr, hgu⟩
  exact (js_cons (js_setLc [("row", 6)] hp rfl sc_row_classes.nd noPs_nil (blkOk_by (by rfl)) noP_nil rfl rfl (sw_true rfl rfl rfl rfl) (ji_v (jv_name 0 rfl (Or.inl rfl))) (fun s1 H1 C1 cl1 fp1 hp => (jh_name noP_nil sc_row_classes.nd rfl (Or.inl rfl) (by decide))) (fun s1 H1 C1 cl1 fp1 hp => jts_nil) (fun s1 H1 C1 cl1 fp1 hp => (jv_callTy c_int (by rfl) Z.f_int bt_int (jl_cons (jv_cmp (o_eq hp.u64) (jv_ix (jv_name 6 rfl (Or.inl rfl)) jv_int) (jv_gS (by rfl) Z.c_UP)) jl_nil).ja)))
    (js_cons (js_set noP_nil sc_row_classes.nd rfl (Or.inl rfl) jv_int)
    (js_cons (js_while (passes_of rfl) (jt_cmp (p_lt hp) (jv_name 2 rfl (Or.inl rfl)) (jv_lenSet (by rfl) Z.f_len (by rfl) Z.f_set (ofV (jv_name 1 rfl (Or.inl rfl)))))
    (js_cons (js_set noP_nil sc_row_classes.nd rfl (Or.inl rfl) (jv_lenSet (by rfl) Z.f_len (by rfl) Z.f_set (ofV (jv_name 1 rfl (Or.inl rfl)))))
    (js_cons (js_setO noP_nil sc_row_classes.nd rfl (Or.inl rfl) jo_dnewT)
    (js_cons (js_setO noP_nil sc_row_classes.nd rfl (Or.inl rfl) (jo_lst jl_nil.ja))
    (js_cons (js_for (passes_of rfl) rfl (ji_enumT (by rfl) Z.f_enumerate (jl_cons (jv_name 0 rfl (Or.inl rfl)) jl_nil).ja) (jg_tup rfl (jgs_cons (jg_name noP_nil sc_row_classes.nd rfl (Or.inl rfl)) (jgs_cons (jg_name noP_nil sc_row_classes.nd rfl (Or.inl rfl)) jgs_nil))) (ne_tup (nes_cons ne_name (nes_cons ne_name nes_nil)))
    (js_cons (js_set noP_nil sc_row_classes.nd rfl (Or.inl rfl) (jv_tup (jl_cons (jv_ix (jv_name 1 rfl (Or.inl rfl)) (jv_name 5 rfl (Or.inl rfl))) (jl_cons (jv_ix (jv_name 1 rfl (Or.inl rfl)) (jv_ix (jv_name 6 rfl (Or.inl rfl)) jv_int)) (jl_cons (jv_ix (jv_name 1 rfl (Or.inl rfl)) (jv_ix (jv_name 6 rfl (Or.inl rfl)) jv_int)) jl_nil))).ja))
    (js_cons (js_if (jt_cmpR (o_dnot hp) (jv_name 7 rfl (Or.inl rfl)) (jb_name 3 rfl (Or.inl rfl))) (js_one (js_dput (i := 3) hp rfl (Or.inl rfl) (jv_callB1 c_lenA (by rfl) Z.f_len bt_len (jb_name 3 rfl (Or.inl rfl))) (jv_name 7 rfl (Or.inl rfl)))) js_nil)
    (js_one (js_append (i := 4) rfl (Or.inl rfl) (jv_dgetB hp (jb_name 3 rfl (Or.inl rfl)) (jv_name 7 rfl (Or.inl rfl))))))))
    (js_one (js_set noP_nil sc_row_classes.nd rfl (Or.inl rfl) (jv_name 4 rfl (Or.inl rfl)))))))))
    (js_one (js_ret (jv_name 1 rfl (Or.inl rfl)))))))
theorem ok_row_classes (Z : Tx K mg)  {f : Addr} {fd : FuncData} {kws : List (Str × V)} (G : FunD K "row_classes" "row_classes" (defArgs st_row_classes) (defBody st_row_classes) (defScope st_row_classes) [] kws f fd) : FnG P w K mg base 1 f fd ["rows"] (spF0 K mg false 1 f_row_classes) :=
  fn0 (P := P) (w := w) (mg := mg) (base := base) (ro := false) (s := b_row_classes) (N := N_row_classes) (ps := ["rows"]) rfl rfl G sc_row_classes fun cdv A outer s0 H E hr hgu => d_row_classes Z  hr hgu
abbrev N_reached : List Str := ["rows", "start", "found", "known", "at", "later"]
theorem sc_reached : FnScope N_reached ["rows", "start"] (defScope st_reached) := ⟨rfl, rfl, rfl, by decide +kernel, rfl, by decide +kernel, by decide +kernel⟩
theorem d_reached (Z : Tx K mg)  {f : Addr} {cdv : Value} {A : Around} {outer : List Env} {s0 : Shared} {H : Hp} {E : XK} (hr : Room 0 (A.deeper (envOfC "reached" (defScope st_reached) s0.heap.objs.size f cdv))) (hgu : A.guards = some []) : JSs (cxOf (L2N.CX P w) P w K mg base N_reached "reached" (defScope st_reached) f cdv A outer s0 H E) [] (WE0 E) (defBody st_reached) b_reached := by
  have hp : Pl (cxOf (L2N.CX P w) P w K mg base N_reached "reached" (defScope st_reached) f cdv A outer s0 H E) 0 := ⟨hr, hgu⟩
  exact (js_cons (js_setO noP_nil sc_reached.nd rfl (Or.inl rfl) (jo_lst (jl_cons (jv_name 1 rfl (Or.inl rfl)) jl_nil).ja))
    (js_cons (js_setO noP_nil sc_reached.nd rfl (Or.inl rfl) (jo_disp (jps_cons (jv_name 1 rfl (Or.inl rfl)) jv_bl jps_nil)))
    (js_cons (js_set noP_nil sc_reached.nd rfl (Or.inl rfl) jv_int)
    (js_cons (js_while (passes_of rfl) (jt_cmp (p_lt hp) (jv_name 4 rfl (Or.inl rfl)) (jv_callB1 c_len (by rfl) Z.f_len bt_len (jb_name 2 rfl (Or.inl rfl))))
    (js_cons (js_for (passes_of rfl) rfl (ji_v (jv_slice (jv_ix (jv_name 0 rfl (Or.inl rfl)) (jv_ixB (jb_name 2 rfl (Or.inl rfl)) (jv_name 4 rfl (Or.inl rfl)))) (jp_some jv_int) jp_none)) (jg_name noP_nil sc_reached.nd rfl (Or.inl rfl)) ne_name
    (js_one (js_if (jt_cmpR (o_dnot hp) (jv_name 5 rfl (Or.inl rfl)) (jb_name 3 rfl (Or.inl rfl))) (js_cons (js_dput (i := 3) hp rfl (Or.inl rfl) jv_bl (jv_name 5 rfl (Or.inl rfl)))
    (js_one (js_append (i := 2) rfl (Or.inl rfl) (jv_name 5 rfl (Or.inl rfl))))) js_nil)))
    (js_one (js_set noP_nil sc_reached.nd rfl (Or.inl rfl) (jv_bin o_add (jv_name 4 rfl (Or.inl rfl)) jv_int)))))
    (js_one (js_ret (jv_name 2 rfl (Or.inl rfl))))))))
theorem ok_reached (Z : Tx K mg)  {f : Addr} {fd : FuncData} {kws : List (Str × V)} (G : FunD K "reached" "reached" (defArgs st_reached) (defBody st_reached) (defScope st_reached) [] kws f fd) : FnG P w K mg base 1 f fd ["rows", "start"] (spF0 K mg false 2 f_reached) :=
  fn0 (P := P) (w := w) (mg := mg) (base := base) (ro := false) (s := b_reached) (N := N_reached) (ps := ["rows", "start"]) rfl rfl G sc_reached fun cdv A outer s0 H E hr hgu => d_reached Z  hr hgu
abbrev N_smallest : List Str := ["rows", "start", "number", "places", "order", "at", "status", "one", "other"]
theorem sc_smallest : FnScope N_smallest ["rows", "start"] (defScope st_smallest) := ⟨rfl, rfl, rfl, by decide +kernel, rfl, by decide +kernel, by decide +kernel⟩
theorem d_smallest (Z : Tx K mg) (hF_row_classes : FnC P w K mg base 1 "row_classes" (spF0 K mg false 1 f_row_classes) ["rows"] []) (hF_reached : FnC P w K mg base 1 "reached" (spF0 K mg false 2 f_reached) ["rows", "start"] []) {f : Addr} {cdv : Value} {A : Around} {outer : List Env} {s0 : Shared} {H : Hp} {E : XK} (hr : Room 1 (A.deeper (envOfC "smallest" (defScope st_smallest) s0.heap.objs.size f cdv))) (hgu : A.guards = some []) : JSs (cxOf (L2N.CX P w) P w K mg base N_smallest "smallest" (defScope st_smallest) f cdv A outer s0 H E) [] (WE0 E) (defBody st_smallest) b_smallest := by
  have hp : Pl (cxOf (L2N.CX P w) P w K mg base N_smallest "smallest" (defScope st_smallest) f cdv A outer s0 H E) 1 := ⟨hr, hgu⟩
  exact (js_cons (js_set noP_nil sc_smallest.nd rfl (Or.inr rfl) (jv_c0 ⟨hF_row_classes⟩ hp (L2N.takes_of rfl rfl rfl rfl) nodd (by rfl) (jl_cons (jv_name 0 rfl (Or.inl rfl)) jl_nil)))
    (js_cons (js_setO noP_nil sc_smallest.nd rfl (Or.inr rfl) jo_dnewK)
    (js_cons (js_setO noP_nil sc_smallest.nd rfl (Or.inl rfl) (jo_lst jl_nil.ja))
    (js_cons (js_for (passes_of rfl) rfl (ji_v (jv_c0 ⟨hF_reached⟩ hp (L2N.takes_of rfl rfl rfl rfl) nodd (by rfl) (jl_cons (jv_name 0 rfl (Or.inl rfl)) (jl_cons (jv_name 1 rfl (Or.inl rfl)) jl_nil)))) (jg_name noP_nil sc_smallest.nd rfl (Or.inl rfl)) ne_name
    (js_one (js_if (jt_cmpR (o_dnot hp) (jv_ix (jv_name 2 rfl (Or.inr (Or.inl rfl))) (jv_name 5 rfl (Or.inl rfl))) (jb_name 3 rfl (Or.inr (Or.inl rfl)))) (js_cons (js_dput (i := 3) hp rfl (Or.inr (Or.inl rfl)) (jv_callB1 c_len (by rfl) Z.f_len bt_len (jb_name 4 rfl (Or.inl rfl))) (jv_ix (jv_name 2 rfl (Or.inr (Or.inl rfl))) (jv_name 5 rfl (Or.inl rfl))))
    (js_one (js_append (i := 4) rfl (Or.inl rfl) (jv_ix (jv_name 0 rfl (Or.inl rfl)) (jv_name 5 rfl (Or.inl rfl)))))) js_nil)))
    (js_one (js_ret (jv_callT1 c_tuple (by rfl) Z.f_tuple bt_tuple (ofO (jo_lc [("status", 6), ("one", 7), ("other", 8)] hp rfl sc_smallest.nd noPs_nil (blkOk_by (by rfl)) (ji_v (jv_name 4 rfl (Or.inl rfl))) (fun s1 H1 C1 cl1 fp1 hp => (jh_tup rfl (jhs_cons (jh_name noP_nil sc_smallest.nd rfl (Or.inl rfl) (by decide)) (jhs_cons (jh_name noP_nil sc_smallest.nd rfl (Or.inl rfl) (by decide)) (jhs_cons (jh_name noP_nil sc_smallest.nd rfl (Or.inl rfl) (by decide)) jhs_nil))))) (fun s1 H1 C1 cl1 fp1 hp => jts_nil) (fun s1 H1 C1 cl1 fp1 hp => (jv_tup (jl_cons (jv_name 6 rfl (Or.inl rfl)) (jl_cons (jv_dgetB hp (jb_name 3 rfl (Or.inr (Or.inl rfl))) (jv_ix (jv_name 2 rfl (Or.inr (Or.inl rfl))) (jv_name 7 rfl (Or.inl rfl)))) (jl_cons (jv_dgetB hp (jb_name 3 rfl (Or.inr (Or.inl rfl))) (jv_ix (jv_name 2 rfl (Or.inr (Or.inl rfl))) (jv_name 8 rfl (Or.inl rfl)))) jl_nil))).ja)))))))))))
theorem ok_smallest (Z : Tx K mg) (hF_row_classes : FnC P w K mg base 1 "row_classes" (spF0 K mg false 1 f_row_classes) ["rows"] []) (hF_reached : FnC P w K mg base 1 "reached" (spF0 K mg false 2 f_reached) ["rows", "start"] []) {f : Addr} {fd : FuncData} {kws : List (Str × V)} (G : FunD K "smallest" "smallest" (defArgs st_smallest) (defBody st_smallest) (defScope st_smallest) [] kws f fd) : FnG P w K mg base 2 f fd ["rows", "start"] (spF0 K mg false 2 f_smallest) :=
  fn0 (P := P) (w := w) (mg := mg) (base := base) (ro := false) (s := b_smallest) (N := N_smallest) (ps := ["rows", "start"]) rfl rfl G sc_smallest fun cdv A outer s0 H E hr hgu => d_smallest Z hF_row_classes hF_reached hr hgu
abbrev N_RuleU_initU : List Str := ["self", "table"]
theorem sc_RuleU_initU : FnScope N_RuleU_initU ["self", "table"] (defScope st_RuleU_initU) := ⟨rfl, rfl, rfl, by decide +kernel, rfl, by decide +kernel, by decide +kernel⟩
theorem d_RuleU_initU (Z : Tx K mg) (hF_is_table : FnC P w K mg base 4 "is_table" (spF0 K mg false 1 f_is_table) ["value"] []) (hF_smallest : FnC P w K mg base 2 "smallest" (spF0 K mg false 2 f_smallest) ["rows", "start"] []) {f : Addr} {cdv : Value} {A : Around} {outer : List Env} {s0 : Shared} {H : Hp} {E : XK} {p : Addr} (hr : Room 4 (A.deeper (envOfC "Rule.__init__" (defScope st_RuleU_initU) s0.heap.objs.size f cdv))) (hgu : A.guards = some []) : JSs (cxOf (L2N.CX P w) P w K mg base N_RuleU_initU "Rule.__init__" (defScope st_RuleU_initU) f cdv A outer s0 H E) [(0, p)] (WE0 E) (defBody st_RuleU_initU) b_RuleU_initU := by
  have hp : Pl (cxOf (L2N.CX P w) P w K mg base N_RuleU_initU "Rule.__init__" (defScope st_RuleU_initU) f cdv A outer s0 H E) 4 := ⟨hr, hgu⟩
  exact (js_cons (js_if (jt_not (jt_val (jv_c0 ⟨hF_is_table⟩ hp (L2N.takes_of rfl rfl rfl rfl) nodd (by rfl) (jl_cons (jv_name 1 rfl (Or.inl rfl)) jl_nil)))) (js_one (js_raise rfl (L2N.takes_of rfl rfl rfl rfl) Z.x_TableError (by rfl))) js_nil)
    (js_one (js_asg (jv_c0 ⟨hF_smallest⟩ hp (L2N.takes_of rfl rfl rfl rfl) nodd (by rfl) (jl_cons (jv_name 1 rfl (Or.inl rfl)) (jl_cons jv_int jl_nil))) (jg_attr ⟨Z.k_Rule, Z.cl_Rule⟩ Z.n_Rule_table rfl (Or.inl rfl)) ne_attr)))
theorem ok_RuleU_initU (Z : Tx K mg) (hF_is_table : FnC P w K mg base 4 "is_table" (spF0 K mg false 1 f_is_table) ["value"] []) (hF_smallest : FnC P w K mg base 2 "smallest" (spF0 K mg false 2 f_smallest) ["rows", "start"] []) {f : Addr} {fd : FuncData} {kws : List (Str × V)} (G : FunD K "__init__" "Rule.__init__" (defArgs st_RuleU_initU) (defBody st_RuleU_initU) (defScope st_RuleU_initU) [] kws f fd) : FnG P w K mg base 5 f fd ["self", "table"] (spF1 K mg false 2 f_RuleU_initU) :=
  fn1 (P := P) (w := w) (mg := mg) (base := base) (ro := false) (s := b_RuleU_initU) (N := N_RuleU_initU) (ps := ["self", "table"]) rfl rfl G sc_RuleU_initU fun cdv A outer s0 H E p hr hgu => d_RuleU_initU Z hF_is_table hF_smallest hr hgu
abbrev N__law_draw : List Str := ["_law_pen_here", "_law_many", "_law_found", "_law_mixed"]
theorem sc__law_draw : FnScope N__law_draw ["_law_pen_here", "_law_many"] (defScope st__law_draw) := ⟨rfl, rfl, rfl, by decide +kernel, rfl, by decide +kernel, by decide +kernel⟩
theorem d__law_draw (Z : Tx K mg)  {f : Addr} {cdv : Value} {A : Around} {outer : List Env} {s0 : Shared} {H : Hp} {E : XK} {p : Addr} (hr : Room 0 (A.deeper (envOfC "_law_draw" (defScope st__law_draw) s0.heap.objs.size f cdv))) (hgu : A.guards = some []) : JSs (cxOf (L2N.CX P w) P w K mg base N__law_draw "_law_draw" (defScope st__law_draw) f cdv A outer s0 H E) [(0, p)] (WE0 E) (defBody st__law_draw) b__law_draw := by
  have hp : Pl (cxOf (L2N.CX P w) P w K mg base N__law_draw "_law_draw" (defScope st__law_draw) f cdv A outer s0 H E) 0 := ⟨hr, hgu⟩
  exact (js_cons (js_if (jt_cmp p_gt (jv_ixB (jb_name 0 rfl (Or.inl rfl)) jv_int) jv_int) (js_cons (js_set (noP_cons (by decide) noP_nil) sc__law_draw.nd rfl (Or.inl rfl) (jv_bin o_mod (jv_callTy c_int (by rfl) Z.f_int bt_int (jl_cons (jv_ixB (jb_name 0 rfl (Or.inl rfl)) jv_int) jl_nil).ja) (jv_name 1 rfl (Or.inl rfl))))
    (js_cons (js_putI rfl (Or.inl rfl) (jv_bin o_div (jv_ixB (jb_name 0 rfl (Or.inl rfl)) jv_int) (jv_name 1 rfl (Or.inl rfl))) jv_int)
    (js_one (js_ret (jv_name 2 rfl (Or.inl rfl)))))) js_nil)
    (js_cons (js_putI rfl (Or.inl rfl) (jv_bin o_add (jv_ixB (jb_name 0 rfl (Or.inl rfl)) jv_int) jv_int) jv_int)
    (js_cons (js_putI rfl (Or.inl rfl) (jv_bin o_mod (jv_callTy c_int (by rfl) Z.f_int bt_int (jl_cons (jv_bin o_add (jv_bin o_add (jv_bin o_mul (jv_ixB (jb_name 0 rfl (Or.inl rfl)) jv_int) jv_int) (jv_bin o_mul jv_int (jv_ixB (jb_name 0 rfl (Or.inl rfl)) jv_int))) jv_int) jl_nil).ja) jv_int) jv_int)
    (js_cons (js_set (noP_cons (by decide) noP_nil) sc__law_draw.nd rfl (Or.inl rfl) (jv_bin o_mod (jv_callTy c_int (by rfl) Z.f_int bt_int (jl_cons (jv_bin o_add (jv_bin o_add (jv_bin o_mul (jv_ixB (jb_name 0 rfl (Or.inl rfl)) jv_int) (jv_ixB (jb_name 0 rfl (Or.inl rfl)) jv_int)) (jv_bin o_mul jv_int (jv_ixB (jb_name 0 rfl (Or.inl rfl)) jv_int))) jv_int) jl_nil).ja) jv_int))
    (js_cons (js_set (noP_cons (by decide) noP_nil) sc__law_draw.nd rfl (Or.inl rfl) (jv_bin o_mod (jv_callTy c_int (by rfl) Z.f_int bt_int (jl_cons (jv_bin o_add (jv_bin o_mul (jv_name 3 rfl (Or.inl rfl)) (jv_name 3 rfl (Or.inl rfl))) (jv_bin o_mul jv_int (jv_name 3 rfl (Or.inl rfl)))) jl_nil).ja) jv_int))
    (js_one (js_ret (jv_bin o_mod (jv_callTy c_int (by rfl) Z.f_int bt_int (jl_cons (jv_bin o_div (jv_name 3 rfl (Or.inl rfl)) jv_int) jl_nil).ja) (jv_name 1 rfl (Or.inl rfl))))))))))
theorem ok__law_draw (Z : Tx K mg)  {f : Addr} {fd : FuncData} {kws : List (Str × V)} (G : FunD K "_law_draw" "_law_draw" (defArgs st__law_draw) (defBody st__law_draw) (defScope st__law_draw) [] kws f fd) : FnG P w K mg base 1 f fd ["_law_pen_here", "_law_many"] (spF1 K mg false 2 f__law_draw) :=
  fn1 (P := P) (w := w) (mg := mg) (base := base) (ro := false) (s := b__law_draw) (N := N__law_draw) (ps := ["_law_pen_here", "_law_many"]) rfl rfl G sc__law_draw fun cdv A outer s0 H E p hr hgu => d__law_draw Z  hr hgu
abbrev N__law_table : List Str := ["_law_pen_here", "_law_many", "_law_way", "_law_found", "_law_wide", "_law_groups", "_law_at", "_law_status", "_law_one", "_law_other", "_law_k"]
theorem sc__law_table : FnScope N__law_table ["_law_pen_here", "_law_many"] (defScope st__law_table) := ⟨rfl, rfl, rfl, by decide +kernel, rfl, by decide +kernel, by decide +kernel⟩
theorem d__law_table (Z : Tx K mg) (hF__law_draw : FnC P w K mg base 1 "_law_draw" (spF1 K mg false 2 f__law_draw) ["_law_pen_here", "_law_many"] []) {f : Addr} {cdv : Value} {A : Around} {outer : List Env} {s0 : Shared} {H : Hp} {E : XK} {p : Addr} (hr : Room 1 (A.deeper (envOfC "_law_table" (defScope st__law_table) s0.heap.objs.size f cdv))) (hgu : A.guards = some []) : JSs (cxOf (L2N.CX P w) P w K mg base N__law_table "_law_table" (defScope st__law_table) f cdv A outer s0 H E) [(0, p)] (WE0 E) (defBody st__law_table) b__law_table := by
  have hp : Pl (cxOf (L2N.CX P w) P w K mg base N__law_table "_law_table" (defScope st__law_table) f cdv A outer s0 H E) 1 := ⟨hr, hgu⟩
  exact (js_cons (js_asgM3 (noP_cons (by decide) noP_nil) (noP_cons (by decide) noP_nil) (noP_cons (by decide) noP_nil) rfl sc__law_table.nd rfl rfl rfl (Or.inl rfl) (Or.inl rfl) (Or.inr rfl) (by first | exact .inl rfl | exact .inr rfl) (by first | exact .inl rfl | exact .inr rfl) (by first | exact .inl rfl | exact .inr rfl) (jm_cons (jv_c1 0 ⟨hF__law_draw⟩ hp (L2N.takes_of rfl rfl rfl rfl) nodd (by rfl) (by rfl) (Or.inr (Or.inl rfl)) (jl_cons jv_int jl_nil)) (jm_consO (jo_lst jl_nil.ja) (jm_cons (jv_bin o_add jv_int (jv_c1 0 ⟨hF__law_draw⟩ hp (L2N.takes_of rfl rfl rfl rfl) nodd (by rfl) (by rfl) (Or.inr (Or.inl rfl)) (jl_cons (jv_name 1 rfl (Or.inl rfl)) jl_nil))) jm_nil))))
    (js_cons (js_setLc [("_law_k", 10)] hp rfl sc__law_table.nd (noPs_cons (by decide) noPs_nil) (blkOk_by (by rfl)) (noP_cons (by decide) noP_nil) rfl rfl (sw_true rfl rfl rfl rfl) (ji_range1 (by rfl) Z.f_range (jl_cons (jv_name 4 rfl (Or.inr (Or.inl rfl))) jl_nil).ja) (fun s1 H1 C1 cl1 fp1 hp => (jh_name (noP_cons (by decide) noP_nil) sc__law_table.nd rfl (Or.inl rfl) (by decide))) (fun s1 H1 C1 cl1 fp1 hp => jts_nil) (fun s1 H1 C1 cl1 fp1 hp => (jv_tup (jl_cons (jv_ix jv_str (jv_c1 0 ⟨hF__law_draw⟩ hp Sr.takes0 nodd (by rfl) (by rfl) (Or.inr (Or.inl rfl)) (jl_cons jv_int jl_nil))) (jl_cons (jv_c1 0 ⟨hF__law_draw⟩ hp Sr.takes0 nodd (by rfl) (by rfl) (Or.inr (Or.inl rfl)) (jl_cons (jv_name 4 rfl (Or.inr (Or.inl rfl))) jl_nil)) (jl_cons (jv_c1 0 ⟨hF__law_draw⟩ hp Sr.takes0 nodd (by rfl) (by rfl) (Or.inr (Or.inl rfl)) (jl_cons (jv_name 4 rfl (Or.inr (Or.inl rfl))) jl_nil)) jl_nil))).ja)))
    (js_cons (js_for (passes_of rfl) rfl (ji_range1 (by rfl) Z.f_range (jl_cons (jv_name 1 rfl (Or.inl rfl)) jl_nil).ja) (jg_name (noP_cons (by decide) noP_nil) sc__law_table.nd rfl (Or.inl rfl)) ne_name
    (js_cons (js_set (noP_cons (by decide) noP_nil) sc__law_table.nd rfl (Or.inl rfl) (jv_ix jv_str (jv_c1 0 ⟨hF__law_draw⟩ hp (L2N.takes_of rfl rfl rfl rfl) nodd (by rfl) (by rfl) (Or.inr (Or.inl rfl)) (jl_cons jv_int jl_nil))))
    (js_one (js_if (jt_cmp (o_eq hp.u64) (jv_name 2 rfl (Or.inl rfl)) jv_int) (js_one (js_append (i := 3) rfl (Or.inl rfl) (jv_tup (jl_cons (jv_name 7 rfl (Or.inl rfl)) (jl_cons (jv_c1 0 ⟨hF__law_draw⟩ hp (L2N.takes_of rfl rfl rfl rfl) nodd (by rfl) (by rfl) (Or.inr (Or.inl rfl)) (jl_cons (jv_name 1 rfl (Or.inl rfl)) jl_nil)) (jl_cons (jv_c1 0 ⟨hF__law_draw⟩ hp (L2N.takes_of rfl rfl rfl rfl) nodd (by rfl) (by rfl) (Or.inr (Or.inl rfl)) (jl_cons (jv_name 1 rfl (Or.inl rfl)) jl_nil)) jl_nil))).ja))) (js_one (js_if (jt_cmp (o_eq hp.u64) (jv_name 2 rfl (Or.inl rfl)) jv_int) (js_one (js_append (i := 3) rfl (Or.inl rfl) (jv_tup (jl_cons (jv_name 7 rfl (Or.inl rfl)) (jl_cons (jv_bin o_mod (jv_callTy c_int (by rfl) Z.f_int bt_int (jl_cons (jv_bin o_add (jv_name 6 rfl (Or.inl rfl)) jv_int) jl_nil).ja) (jv_name 1 rfl (Or.inl rfl))) (jl_cons (jv_c1 0 ⟨hF__law_draw⟩ hp (L2N.takes_of rfl rfl rfl rfl) nodd (by rfl) (by rfl) (Or.inr (Or.inl rfl)) (jl_cons (jv_bin o_add (jv_name 6 rfl (Or.inl rfl)) jv_int) jl_nil)) jl_nil))).ja))) (js_cons (js_asg (jv_ix (jv_name 5 rfl (Or.inl rfl)) (jv_bin o_mod (jv_callTy c_int (by rfl) Z.f_int bt_int (jl_cons (jv_name 6 rfl (Or.inl rfl)) jl_nil).ja) (jv_name 4 rfl (Or.inr (Or.inl rfl))))) (jg_tup rfl (jgs_cons (jg_name (noP_cons (by decide) noP_nil) sc__law_table.nd rfl (Or.inl rfl)) (jgs_cons (jg_name (noP_cons (by decide) noP_nil) sc__law_table.nd rfl (Or.inl rfl)) (jgs_cons (jg_name (noP_cons (by decide) noP_nil) sc__law_table.nd rfl (Or.inl rfl)) jgs_nil)))) (ne_tup (nes_cons ne_name (nes_cons ne_name (nes_cons ne_name nes_nil)))))
    (js_one (js_append (i := 3) rfl (Or.inl rfl) (jv_tup (jl_cons (jv_name 7 rfl (Or.inl rfl)) (jl_cons (jv_bin o_add (jv_name 8 rfl (Or.inl rfl)) (jv_bin o_mul (jv_name 4 rfl (Or.inr (Or.inl rfl))) (jv_callTy c_int (by rfl) Z.f_int bt_int (jl_cons (jv_and (jv_cmp (p_lt hp) (jv_bin o_add (jv_name 8 rfl (Or.inl rfl)) (jv_name 4 rfl (Or.inr (Or.inl rfl)))) (jv_name 1 rfl (Or.inl rfl))) (jv_one (jv_cmp p_gt (jv_name 6 rfl (Or.inl rfl)) jv_int))) jl_nil).ja))) (jl_cons (jv_name 9 rfl (Or.inl rfl)) jl_nil))).ja))))))))))
    (js_one (js_ret (jv_callTy1 c_tuple (by rfl) Z.f_tuple bt_tuple (jb_name 3 rfl (Or.inl rfl))))))))
theorem ok__law_table (Z : Tx K mg) (hF__law_draw : FnC P w K mg base 1 "_law_draw" (spF1 K mg false 2 f__law_draw) ["_law_pen_here", "_law_many"] []) {f : Addr} {fd : FuncData} {kws : List (Str × V)} (G : FunD K "_law_table" "_law_table" (defArgs st__law_table) (defBody st__law_table) (defScope st__law_table) [] kws f fd) : FnG P w K mg base 2 f fd ["_law_pen_here", "_law_many"] (spF1 K mg false 2 f__law_table) :=
  fn1 (P := P) (w := w) (mg := mg) (base := base) (ro := false) (s := b__law_table) (N := N__law_table) (ps := ["_law_pen_here", "_law_many"]) rfl rfl G sc__law_table fun cdv A outer s0 H E p hr hgu => d__law_table Z hF__law_draw hr hgu
abbrev N__law_pick : List Str := ["_law_pen_here", "_law_values"]
theorem sc__law_pick : FnScope N__law_pick ["_law_pen_here", "_law_values"] (defScope st__law_pick) := ⟨rfl, rfl, rfl, by decide +kernel, rfl, by decide +kernel, by decide +kernel⟩
theorem d__law_pick (Z : Tx K mg) (hF__law_draw : FnC P w K mg base 1 "_law_draw" (spF1 K mg false 2 f__law_draw) ["_law_pen_here", "_law_many"] []) {f : Addr} {cdv : Value} {A : Around} {outer : List Env} {s0 : Shared} {H : Hp} {E : XK} {p : Addr} (hr : Room 1 (A.deeper (envOfC "_law_pick" (defScope st__law_pick) s0.heap.objs.size f cdv))) (hgu : A.guards = some []) : JSs (cxOf (L2N.CX P w) P w K mg base N__law_pick "_law_pick" (defScope st__law_pick) f cdv A outer s0 H E) [(0, p)] (WE0 E) (defBody st__law_pick) b__law_pick := by
  have hp : Pl (cxOf (L2N.CX P w) P w K mg base N__law_pick "_law_pick" (defScope st__law_pick) f cdv A outer s0 H E) 1 := ⟨hr, hgu⟩
  exact (js_one (js_ret (jv_ix (jv_name 1 rfl (Or.inl rfl)) (jv_c1 0 ⟨hF__law_draw⟩ hp (L2N.takes_of rfl rfl rfl rfl) nodd (by rfl) (by rfl) (Or.inl rfl) (jl_cons (jv_callV1 c_len (by rfl) Z.f_len bt_len (jv_name 1 rfl (Or.inl rfl))) jl_nil)))))
theorem ok__law_pick (Z : Tx K mg) (hF__law_draw : FnC P w K mg base 1 "_law_draw" (spF1 K mg false 2 f__law_draw) ["_law_pen_here", "_law_many"] []) {f : Addr} {fd : FuncData} {kws : List (Str × V)} (G : FunD K "_law_pick" "_law_pick" (defArgs st__law_pick) (defBody st__law_pick) (defScope st__law_pick) [] kws f fd) : FnG P w K mg base 2 f fd ["_law_pen_here", "_law_values"] (spF1 K mg false 2 f__law_pick) :=
  fn1 (P := P) (w := w) (mg := mg) (base := base) (ro := false) (s := b__law_pick) (N := N__law_pick) (ps := ["_law_pen_here", "_law_values"]) rfl rfl G sc__law_pick fun cdv A outer s0 H E p hr hgu => d__law_pick Z hF__law_draw hr hgu
abbrev N__law_odd : List Str := ["_law_pen_here", "_law_some"]
theorem sc__law_odd : FnScope N__law_odd ["_law_pen_here"] (defScope st__law_odd) := ⟨rfl, rfl, rfl, by decide +kernel, rfl, by decide +kernel, by decide +kernel⟩
theorem d__law_odd (Z : Tx K mg) (hF__law_pick : FnC P w K mg base 2 "_law_pick" (spF1 K mg false 2 f__law_pick) ["_law_pen_here", "_law_values"] []) {f : Addr} {cdv : Value} {A : Around} {outer : List Env} {s0 : Shared} {H : Hp} {E : XK} {p : Addr} (hr : Room 2 (A.deeper (envOfC "_law_odd" (defScope st__law_odd) s0.heap.objs.size f cdv))) (hgu : A.guards = some []) : JSs (cxOf (L2N.CX P w) P w K mg base N__law_odd "_law_odd" (defScope st__law_odd) f cdv A outer s0 H E) [(0, p)] (WE0 E) (defBody st__law_odd) b__law_odd := by
  have hp : Pl (cxOf (L2N.CX P w) P w K mg base N__law_odd "_law_odd" (defScope st__law_odd) f cdv A outer s0 H E) 2 := ⟨hr, hgu⟩
  exact (js_cons (js_set (noP_cons (by decide) noP_nil) sc__law_odd.nd rfl (Or.inl rfl) (ofO (jo_lst (jl_cons jv_non (jl_cons jv_bl (jl_cons jv_bl (jl_cons (jv_neg jv_int) (jl_cons jv_int (jl_cons jv_int (jl_cons jv_int (jl_cons jv_int (jl_cons (jv_bin o_pow jv_int jv_int) (jl_cons jv_str (jl_cons jv_str (jl_cons jv_str (jl_cons jv_str (jl_cons jv_str (jl_cons jv_str (jl_cons jv_str (jl_cons (jv_tup jl_nil.ja) (jl_cons (ofO (jo_lst jl_nil.ja)) (jl_cons (ofO jo_dnewK) (jl_cons (jv_tup (jl_cons jv_int jl_nil).ja) (jl_cons (ofO (jo_lst (jl_cons jv_int jl_nil).ja)) jl_nil))))))))))))))))))))).ja)))
    (js_cons (js_set (noP_cons (by decide) noP_nil) sc__law_odd.nd rfl (Or.inl rfl) (jv_bin o_add (jv_name 1 rfl (Or.inl rfl)) (ofO (jo_lst (jl_cons (ofO (jo_disp (jps_cons jv_int jv_int jps_nil))) (jl_cons (jv_tup (jl_cons jv_str (jl_cons jv_int (jl_cons jv_int jl_nil))).ja) (jl_cons (jv_tup (jl_cons (jv_tup (jl_cons jv_str (jl_cons jv_int (jl_cons jv_int jl_nil))).ja) jl_nil).ja) (jl_cons (ofO (jo_lst (jl_cons (jv_tup (jl_cons jv_str (jl_cons jv_int (jl_cons jv_int jl_nil))).ja) jl_nil).ja)) (jl_cons (jv_tup (jl_cons jv_str (jl_cons jv_str jl_nil)).ja) (jl_cons (jv_tup (jl_cons jv_str (jl_cons jv_str jl_nil)).ja) (jl_cons jv_str (jl_cons (jv_tup (jl_cons jv_non jl_nil).ja) (jl_cons jv_str jl_nil))))))))).ja))))
    (js_one (js_ret (jv_c1 0 ⟨hF__law_pick⟩ hp (L2N.takes_of rfl rfl rfl rfl) nodd (by rfl) (by rfl) (Or.inl rfl) (jl_cons (jv_name 1 rfl (Or.inl rfl)) jl_nil))))))
theorem ok__law_odd (Z : Tx K mg) (hF__law_pick : FnC P w K mg base 2 "_law_pick" (spF1 K mg false 2 f__law_pick) ["_law_pen_here", "_law_values"] []) {f : Addr} {fd : FuncData} {kws : List (Str × V)} (G : FunD K "_law_odd" "_law_odd" (defArgs st__law_odd) (defBody st__law_odd) (defScope st__law_odd) [] kws f fd) : FnG P w K mg base 3 f fd ["_law_pen_here"] (spF1 K mg false 1 f__law_odd) :=
  fn1 (P := P) (w := w) (mg := mg) (base := base) (ro := false) (s := b__law_odd) (N := N__law_odd) (ps := ["_law_pen_here"]) rfl rfl G sc__law_odd fun cdv A outer s0 H E p hr hgu => d__law_odd Z hF__law_pick hr hgu
abbrev N__law_kindE : List Str := ["_law_e", "_law_marks", "_law_words_here"]
theorem sc__law_kindE : FnScope N__law_kindE ["_law_e"] (defScope st__law_kindE) := ⟨rfl, rfl, rfl, by decide +kernel, rfl, by decide +kernel, by decide +kernel⟩
theorem d__law_kindE (Z : Tx K mg)  {f : Addr} {cdv : Value} {A : Around} {outer : List Env} {s0 : Shared} {H : Hp} {E : XK} {p : Addr × Obj} {ex : Ex} {cls : Value} {d : Option Addr} (hot : L2H.Hot1 A p) (hr : L2H.RoomH 0 (A.deeper (envOfC "_law_kind" (defScope st__law_kindE) s0.heap.objs.size f cdv))) (hz : L2N.Zn cls d p.2) (hfs : ∃ vs, p.2.data = .fields vs) {pa : Pa} (hm : mg ex.c = some cls) (hd : PaX pa p.1 d ex) : JSs (L2H.cxH (L2N.CX P w) P w K mg base N__law_kindE "_law_kind" (defScope st__law_kindE) f cdv A outer s0 H E p) [(0, pa)] (WE0 E) (defBody st__law_kindE) (b__law_kindE ex) := by
  have hpn : p ∈ (L2H.cxH (L2N.CX P w) P w K mg base N__law_kindE "_law_kind" (defScope st__law_kindE) f cdv A outer s0 H E p).pn := List.mem_singleton.2 rfl
  have h64 : (L2H.cxH (L2N.CX P w) P w K mg base N__law_kindE "_law_kind" (defScope st__law_kindE) f cdv A outer s0 H E p).A.units + 64 < cLine := by have := hr.un; show (A.deeper _).units + 64 < _; omega
  exact (js_cons (js_set (noP_cons (by decide) noP_nil) sc__law_kindE.nd rfl (Or.inl rfl) (ofO (jo_lst (jl_cons (jv_isEH (c := .ref (He.ga K "TableError")) Z.e_TableError hz hfs hpn hm hd (fun u h => h) (pe_glob (v := .ref (He.ga K "TableError")) (by rfl) Z.k_TableError rfl (by decide)) (fun _ _ _ h => h) (by rfl) Z.f_isinstance rfl (Or.inl rfl)) (jl_cons (jv_isEH (c := .ref (He.ga K "ChecksError")) Z.e_ChecksError hz hfs hpn hm hd (fun u h => h) (pe_glob (v := .ref (He.ga K "ChecksError")) (by rfl) Z.k_ChecksError rfl (by decide)) (fun _ _ _ h => h) (by rfl) Z.f_isinstance rfl (Or.inl rfl)) (jl_cons (jv_isEH (c := .ref (He.ga K "RuleError")) Z.e_RuleError hz hfs hpn hm hd (fun u h => h) (pe_glob (v := .ref (He.ga K "RuleError")) (by rfl) Z.k_RuleError rfl (by decide)) (fun _ _ _ h => h) (by rfl) Z.f_isinstance rfl (Or.inl rfl)) jl_nil))).ja)))
    (js_cons (js_set (noP_cons (by decide) noP_nil) sc__law_kindE.nd rfl (Or.inl rfl) (jv_bin o_add (jv_name 1 rfl (Or.inl rfl)) (ofO (jo_lst (jl_cons (jv_isEH (c := .ref (He.ga K "NumberError")) Z.e_NumberError hz hfs hpn hm hd (fun u h => h) (pe_glob (v := .ref (He.ga K "NumberError")) (by rfl) Z.k_NumberError rfl (by decide)) (fun _ _ _ h => h) (by rfl) Z.f_isinstance rfl (Or.inl rfl)) jl_nil).ja))))
    (js_cons (js_set (noP_cons (by decide) noP_nil) sc__law_kindE.nd rfl (Or.inl rfl) (jv_bin o_add (jv_name 1 rfl (Or.inl rfl)) (ofO (jo_lst (jl_cons (jv_isEH (c := .ref (He.ga K "LimitsError")) Z.e_LimitsError hz hfs hpn hm hd (fun u h => h) (pe_glob (v := .ref (He.ga K "LimitsError")) (by rfl) Z.k_LimitsError rfl (by decide)) (fun _ _ _ h => h) (by rfl) Z.f_isinstance rfl (Or.inl rfl)) (jl_cons (jv_isEH (c := .ref (He.ga K "StateError")) Z.e_StateError hz hfs hpn hm hd (fun u h => h) (pe_glob (v := .ref (He.ga K "StateError")) (by rfl) Z.k_StateError rfl (by decide)) (fun _ _ _ h => h) (by rfl) Z.f_isinstance rfl (Or.inl rfl)) (jl_cons (jv_isEH (c := .ref (He.ga K "SituationError")) Z.e_SituationError hz hfs hpn hm hd (fun u h => h) (pe_glob (v := .ref (He.ga K "SituationError")) (by rfl) Z.k_SituationError rfl (by decide)) (fun _ _ _ h => h) (by rfl) Z.f_isinstance rfl (Or.inl rfl)) jl_nil))).ja))))
    (js_cons (js_set (noP_cons (by decide) noP_nil) sc__law_kindE.nd rfl (Or.inl rfl) (jv_bin o_add (jv_name 1 rfl (Or.inl rfl)) (ofO (jo_lst (jl_cons (jv_isEH (c := .ref (He.ga K "FractionError")) Z.e_FractionError hz hfs hpn hm hd (fun u h => h) (pe_glob (v := .ref (He.ga K "FractionError")) (by rfl) Z.k_FractionError rfl (by decide)) (fun _ _ _ h => h) (by rfl) Z.f_isinstance rfl (Or.inl rfl)) (jl_cons (jv_isEH (c := .ref (He.ga K "RulesError")) Z.e_RulesError hz hfs hpn hm hd (fun u h => h) (pe_glob (v := .ref (He.ga K "RulesError")) (by rfl) Z.k_RulesError rfl (by decide)) (fun _ _ _ h => h) (by rfl) Z.f_isinstance rfl (Or.inl rfl)) (jl_cons (jv_isEH (c := .ref (He.ga K "StatusesError")) Z.e_StatusesError hz hfs hpn hm hd (fun u h => h) (pe_glob (v := .ref (He.ga K "StatusesError")) (by rfl) Z.k_StatusesError rfl (by decide)) (fun _ _ _ h => h) (by rfl) Z.f_isinstance rfl (Or.inl rfl)) jl_nil))).ja))))
    (js_cons (js_set (noP_cons (by decide) noP_nil) sc__law_kindE.nd rfl (Or.inl rfl) (jv_bin o_add (jv_name 1 rfl (Or.inl rfl)) (ofO (jo_lst (jl_cons (jv_isEH (c := .ref (He.ga K "NamesError")) Z.e_NamesError hz hfs hpn hm hd (fun u h => h) (pe_glob (v := .ref (He.ga K "NamesError")) (by rfl) Z.k_NamesError rfl (by decide)) (fun _ _ _ h => h) (by rfl) Z.f_isinstance rfl (Or.inl rfl)) (jl_cons (jv_isEH (c := .ref (He.ga K "SignsError")) Z.e_SignsError hz hfs hpn hm hd (fun u h => h) (pe_glob (v := .ref (He.ga K "SignsError")) (by rfl) Z.k_SignsError rfl (by decide)) (fun _ _ _ h => h) (by rfl) Z.f_isinstance rfl (Or.inl rfl)) (jl_cons (jv_isEH (c := .ref (He.ga K "UnknownName")) Z.e_UnknownName hz hfs hpn hm hd (fun u h => h) (pe_glob (v := .ref (He.ga K "UnknownName")) (by rfl) Z.k_UnknownName rfl (by decide)) (fun _ _ _ h => h) (by rfl) Z.f_isinstance rfl (Or.inl rfl)) jl_nil))).ja))))
    (js_cons (js_set (noP_cons (by decide) noP_nil) sc__law_kindE.nd rfl (Or.inl rfl) (jv_bin o_add (jv_name 1 rfl (Or.inl rfl)) (ofO (jo_lst (jl_cons (jv_isEH (c := .ref (He.ga K "MonitorError")) Z.e_MonitorError hz hfs hpn hm hd (fun u h => h) (pe_glob (v := .ref (He.ga K "MonitorError")) (by rfl) Z.k_MonitorError rfl (by decide)) (fun _ _ _ h => h) (by rfl) Z.f_isinstance rfl (Or.inl rfl)) (jl_cons (jv_isEH (c := .ref (He.ga K "NothingToUndo")) Z.e_NothingToUndo hz hfs hpn hm hd (fun u h => h) (pe_glob (v := .ref (He.ga K "NothingToUndo")) (by rfl) Z.k_NothingToUndo rfl (by decide)) (fun _ _ _ h => h) (by rfl) Z.f_isinstance rfl (Or.inl rfl)) (jl_cons (jv_isEH (c := .ref (He.ga K "DataError")) Z.e_DataError hz hfs hpn hm hd (fun u h => h) (pe_glob (v := .ref (He.ga K "DataError")) (by rfl) Z.k_DataError rfl (by decide)) (fun _ _ _ h => h) (by rfl) Z.f_isinstance rfl (Or.inl rfl)) jl_nil))).ja))))
    (js_cons (js_set (noP_cons (by decide) noP_nil) sc__law_kindE.nd rfl (Or.inl rfl) (jv_bin o_add (jv_name 1 rfl (Or.inl rfl)) (ofO (jo_lst (jl_cons (jv_isEH (c := .ref (He.ga K "TooLarge")) Z.e_TooLarge hz hfs hpn hm hd (fun u h => h) (pe_glob (v := .ref (He.ga K "TooLarge")) (by rfl) Z.k_TooLarge rfl (by decide)) (fun _ _ _ h => h) (by rfl) Z.f_isinstance rfl (Or.inl rfl)) (jl_cons (jv_isEH (c := .ref (He.ga K "TextError")) Z.e_TextError hz hfs hpn hm hd (fun u h => h) (pe_glob (v := .ref (He.ga K "TextError")) (by rfl) Z.k_TextError rfl (by decide)) (fun _ _ _ h => h) (by rfl) Z.f_isinstance rfl (Or.inl rfl)) jl_nil)).ja))))
    (js_cons (js_set (noP_cons (by decide) noP_nil) sc__law_kindE.nd rfl (Or.inl rfl) (ofO (jo_lst (jl_cons jv_str (jl_cons jv_str (jl_cons jv_str (jl_cons jv_str (jl_cons jv_str (jl_cons jv_str (jl_cons jv_str (jl_cons jv_str (jl_cons jv_str (jl_cons jv_str jl_nil)))))))))).ja)))
    (js_cons (js_set (noP_cons (by decide) noP_nil) sc__law_kindE.nd rfl (Or.inl rfl) (jv_bin o_add (jv_name 2 rfl (Or.inl rfl)) (ofO (jo_lst (jl_cons jv_str (jl_cons jv_str (jl_cons jv_str (jl_cons jv_str (jl_cons jv_str (jl_cons jv_str (jl_cons jv_str (jl_cons jv_str jl_nil)))))))).ja))))
    (js_cons (js_if (ofW (jw_or (jt_cmp (o_ne h64) (jv_ml PySem.F.slot_list_count PySem.F.type_list_count m_cnt (ofV (jv_name 1 rfl (Or.inl rfl))) jv_bl) jv_int) (jw_or1 (jt_not (jt_val (jv_isEH (c := .ty "ValueError") Z.e_ValueError hz hfs hpn hm hd (fun u h => h) (pe_bltn (v := .ty "ValueError") (by rfl) Z.f_ValueError bt_ValueError rfl (by decide) (by decide)) (fun _ _ _ h => h) (by rfl) Z.f_isinstance rfl (Or.inl rfl))))))) (js_one (js_ret jv_str)) js_nil)
    (js_one (js_ret (jv_ix (jv_name 2 rfl (Or.inl rfl)) (jv_ml PySem.F.slot_list_index PySem.F.type_list_index m_idx (ofV (jv_name 1 rfl (Or.inl rfl))) jv_bl))))))))))))))
theorem ok__law_kindE (Z : Tx K mg)  {f : Addr} {fd : FuncData} {kws : List (Str × V)} (G : FunD K "_law_kind" "_law_kind" (defArgs st__law_kindE) (defBody st__law_kindE) (defScope st__law_kindE) [] kws f fd) : FnE P w K mg base 1 f fd ["_law_e"] g__law_kindE :=
  fnE_of (P := P) (w := w) (mg := mg) (base := base) (su := b__law_kindE) (N := N__law_kindE) rfl (by decide) G sc__law_kindE fun cdv A outer s0 H E p pa ex cls d hot hr hz hfs hm hd => d__law_kindE Z  hot hr hz hfs hm hd
abbrev N_check_rule : List Str := ["value"]
theorem sc_check_rule : FnScope N_check_rule ["value"] (defScope st_check_rule) := ⟨rfl, rfl, rfl, by decide +kernel, rfl, by decide +kernel, by decide +kernel⟩
theorem d_check_rule (Z : Tx K mg)  {f : Addr} {cdv : Value} {A : Around} {outer : List Env} {s0 : Shared} {H : Hp} {E : XK} (hr : Room 0 (A.deeper (envOfC "check_rule" (defScope st_check_rule) s0.heap.objs.size f cdv))) (hgu : A.guards = some []) : JSs (cxOf (L2N.CX P w) P w K mg base N_check_rule "check_rule" (defScope st_check_rule) f cdv A outer s0 H E) [] (WE0 E) (defBody st_check_rule) b_check_rule := by
  have hp : Pl (cxOf (L2N.CX P w) P w K mg base N_check_rule "check_rule" (defScope st_check_rule) f cdv A outer s0 H E) 0 := ⟨hr, hgu⟩
  exact (js_one (js_if (jt_not (jt_val (jv_isiC (C := He.ga K "Rule") Z.i_Rule (by rfl) Z.f_isinstance (by rfl) Z.k_Rule (jv_name 0 rfl (Or.inl rfl))))) (js_one (js_raise rfl (L2N.takes_of rfl rfl rfl rfl) Z.x_RuleError (by rfl))) js_nil))
theorem ok_check_rule (Z : Tx K mg)  {f : Addr} {fd : FuncData} {kws : List (Str × V)} (G : FunD K "check_rule" "check_rule" (defArgs st_check_rule) (defBody st_check_rule) (defScope st_check_rule) [] kws f fd) : FnG P w K mg base 1 f fd ["value"] (spF0 K mg false 1 f_check_rule) :=
  fn0 (P := P) (w := w) (mg := mg) (base := base) (ro := false) (s := b_check_rule) (N := N_check_rule) (ps := ["value"]) rfl rfl G sc_check_rule fun cdv A outer s0 H E hr hgu => d_check_rule Z  hr hgu
abbrev N_made : List Str := ["rows", "start", "found"]
theorem sc_made : FnScope N_made ["rows", "start"] (defScope st_made) := ⟨rfl, rfl, rfl, by decide +kernel, rfl, by decide +kernel, by decide +kernel⟩
theorem d_made (Z : Tx K mg) (hF_smallest : FnC P w K mg base 2 "smallest" (spF0 K mg false 2 f_smallest) ["rows", "start"] []) (hX_TooLarge : RaiX P w K mg base 1 "TooLarge" ["needed", "limit"]) (hM_Rule_1_ : ∃ f fd g, Mk K (He.ga K "Rule") f ∧ FnG P w K mg base 5 f fd ["self", "table"] (spF1 K mg false 2 f_RuleU_initU) ∧ KBn K fd ["self", "table"] 2 [] g gV_Rule_1_) {f : Addr} {cdv : Value} {A : Around} {outer : List Env} {s0 : Shared} {H : Hp} {E : XK} (hr : Room 6 (A.deeper (envOfC "made" (defScope st_made) s0.heap.objs.size f cdv))) (hgu : A.guards = some []) : JSs (cxOf (L2N.CX P w) P w K mg base N_made "made" (defScope st_made) f cdv A outer s0 H E) [] (WE0 E) (defBody st_made) b_made := by
  have hp : Pl (cxOf (L2N.CX P w) P w K mg base N_made "made" (defScope st_made) f cdv A outer s0 H E) 6 := ⟨hr, hgu⟩
  exact (js_cons (js_set noP_nil sc_made.nd rfl (Or.inl rfl) (jv_c0 ⟨hF_smallest⟩ hp (L2N.takes_of rfl rfl rfl rfl) nodd (by rfl) (jl_cons (jv_name 0 rfl (Or.inl rfl)) (jl_cons (jv_name 1 rfl (Or.inl rfl)) jl_nil))))
    (js_cons (js_if (jt_cmp p_gt (jv_callV1 c_len (by rfl) Z.f_len bt_len (jv_name 2 rfl (Or.inl rfl))) (jv_gI (by rfl) Z.c_MOST_ROWS)) (js_one (js_raiseX rfl hX_TooLarge hp (L2N.takes_of rfl rfl rfl rfl) (by rfl) (jl_cons (jv_callV1 c_len (by rfl) Z.f_len bt_len (jv_name 2 rfl (Or.inl rfl))) (jl_cons (jv_gI (by rfl) Z.c_MOST_ROWS) jl_nil)))) js_nil)
    (js_one (js_ret (ofO (jo_make (C := He.ga K "Rule") ⟨⟨Z.k_Rule, Z.cl_Rule⟩, hM_Rule_1_⟩ (hp.room.mono (by decide)) hp.gu (L2N.takes_of rfl rfl rfl rfl) (by rfl) (jl_cons (jv_name 2 rfl (Or.inl rfl)) jl_nil) jk_nil rel_Rule_1_))))))
theorem ok_made (Z : Tx K mg) (hF_smallest : FnC P w K mg base 2 "smallest" (spF0 K mg false 2 f_smallest) ["rows", "start"] []) (hX_TooLarge : RaiX P w K mg base 1 "TooLarge" ["needed", "limit"]) (hM_Rule_1_ : ∃ f fd g, Mk K (He.ga K "Rule") f ∧ FnG P w K mg base 5 f fd ["self", "table"] (spF1 K mg false 2 f_RuleU_initU) ∧ KBn K fd ["self", "table"] 2 [] g gV_Rule_1_) {f : Addr} {fd : FuncData} {kws : List (Str × V)} (G : FunD K "made" "made" (defArgs st_made) (defBody st_made) (defScope st_made) [] kws f fd) : FnG P w K mg base 7 f fd ["rows", "start"] (spF0 K mg false 2 f_made) :=
  fn0 (P := P) (w := w) (mg := mg) (base := base) (ro := false) (s := b_made) (N := N_made) (ps := ["rows", "start"]) rfl rfl G sc_made fun cdv A outer s0 H E hr hgu => d_made Z hF_smallest hX_TooLarge hM_Rule_1_ hr hgu
abbrev N_joined : List Str := ["one", "other", "is_both", "many", "found", "status", "passed", "failed", "its_status", "its_passed", "its_failed", "ups", "shown"]
theorem sc_joined : FnScope N_joined ["one", "other", "is_both"] (defScope st_joined) := ⟨rfl, rfl, rfl, by decide +kernel, rfl, by decide +kernel, by decide +kernel⟩
theorem d_joined (Z : Tx K mg)  {f : Addr} {cdv : Value} {A : Around} {outer : List Env} {s0 : Shared} {H : Hp} {E : XK} (hr : Room 0 (A.deeper (envOfC "joined" (defScope st_joined) s0.heap.objs.size f cdv))) (hgu : A.guards = some []) : JSs (cxOf (L2N.CX P w) P w K mg base N_joined "joined" (defScope st_joined) f cdv A outer s0 H E) [] (WE0 E) (defBody st_joined) b_joined := by
  have hp : Pl (cxOf (L2N.CX P w) P w K mg base N_joined "joined" (defScope st_joined) f cdv A outer s0 H E) 0 := ⟨hr, hgu⟩
  exact (js_cons (js_set noP_nil sc_joined.nd rfl (Or.inl rfl) (jv_callV1 c_len (by rfl) Z.f_len bt_len (jv_name 1 rfl (Or.inl rfl))))
    (js_cons (js_setO noP_nil sc_joined.nd rfl (Or.inl rfl) (jo_lst jl_nil.ja))
    (js_cons (js_for (passes_of rfl) rfl (ji_v (jv_name 0 rfl (Or.inl rfl))) (jg_tup rfl (jgs_cons (jg_name noP_nil sc_joined.nd rfl (Or.inl rfl)) (jgs_cons (jg_name noP_nil sc_joined.nd rfl (Or.inl rfl)) (jgs_cons (jg_name noP_nil sc_joined.nd rfl (Or.inl rfl)) jgs_nil)))) (ne_tup (nes_cons ne_name (nes_cons ne_name (nes_cons ne_name nes_nil))))
    (js_one (js_for (passes_of rfl) rfl (ji_v (jv_name 1 rfl (Or.inl rfl))) (jg_tup rfl (jgs_cons (jg_name noP_nil sc_joined.nd rfl (Or.inl rfl)) (jgs_cons (jg_name noP_nil sc_joined.nd rfl (Or.inl rfl)) (jgs_cons (jg_name noP_nil sc_joined.nd rfl (Or.inl rfl)) jgs_nil)))) (ne_tup (nes_cons ne_name (nes_cons ne_name (nes_cons ne_name nes_nil))))
    (js_cons (js_set noP_nil sc_joined.nd rfl (Or.inl rfl) (jv_bin o_add (jv_callTy c_int (by rfl) Z.f_int bt_int (jl_cons (jv_cmp (o_eq hp.u64) (jv_name 5 rfl (Or.inl rfl)) (jv_gS (by rfl) Z.c_UP)) jl_nil).ja) (jv_callTy c_int (by rfl) Z.f_int bt_int (jl_cons (jv_cmp (o_eq hp.u64) (jv_name 8 rfl (Or.inl rfl)) (jv_gS (by rfl) Z.c_UP)) jl_nil).ja)))
    (js_cons (js_set noP_nil sc_joined.nd rfl (Or.inl rfl) (jv_if (ofW (jw_or (jt_cmp (o_eq hp.u64) (jv_name 11 rfl (Or.inl rfl)) jv_int) (jw_or1 (ofW (jw_and (jt_cmp (o_eq hp.u64) (jv_name 11 rfl (Or.inl rfl)) jv_int) (jw_and1 (jt_not (jt_val (jv_name 2 rfl (Or.inl rfl)))))))))) (jv_gS (by rfl) Z.c_UP) (jv_gS (by rfl) Z.c_DOWN)))
    (js_one (js_append (i := 4) rfl (Or.inl rfl) (jv_tup (jl_cons (jv_name 12 rfl (Or.inl rfl)) (jl_cons (jv_bin o_add (jv_bin o_mul (jv_name 6 rfl (Or.inl rfl)) (jv_name 3 rfl (Or.inl rfl))) (jv_name 9 rfl (Or.inl rfl))) (jl_cons (jv_bin o_add (jv_bin o_mul (jv_name 7 rfl (Or.inl rfl)) (jv_name 3 rfl (Or.inl rfl))) (jv_name 10 rfl (Or.inl rfl))) jl_nil))).ja))))))))
    (js_one (js_ret (jv_callTy1 c_tuple (by rfl) Z.f_tuple bt_tuple (jb_name 4 rfl (Or.inl rfl))))))))
theorem ok_joined (Z : Tx K mg)  {f : Addr} {fd : FuncData} {kws : List (Str × V)} (G : FunD K "joined" "joined" (defArgs st_joined) (defBody st_joined) (defScope st_joined) [] kws f fd) : FnG P w K mg base 1 f fd ["one", "other", "is_both"] (spF0 K mg false 3 f_joined) :=
  fn0 (P := P) (w := w) (mg := mg) (base := base) (ro := false) (s := b_joined) (N := N_joined) (ps := ["one", "other", "is_both"]) rfl rfl G sc_joined fun cdv A outer s0 H E hr hgu => d_joined Z  hr hgu
abbrev N_RuleU_andU : List Str := ["self", "other"]
theorem sc_RuleU_andU : FnScope N_RuleU_andU ["self", "other"] (defScope st_RuleU_andU) := ⟨rfl, rfl, rfl, by decide +kernel, rfl, by decide +kernel, by decide +kernel⟩
theorem d_RuleU_andU (Z : Tx K mg) (hF_check_rule : FnC P w K mg base 1 "check_rule" (spF0 K mg false 1 f_check_rule) ["value"] []) (hF_made : FnC P w K mg base 7 "made" (spF0 K mg false 2 f_made) ["rows", "start"] []) (hF_joined : FnC P w K mg base 1 "joined" (spF0 K mg false 3 f_joined) ["one", "other", "is_both"] []) {f : Addr} {cdv : Value} {A : Around} {outer : List Env} {s0 : Shared} {H : Hp} {E : XK} (hr : Room 7 (A.deeper (envOfC "Rule.__and__" (defScope st_RuleU_andU) s0.heap.objs.size f cdv))) (hgu : A.guards = some []) : JSs (cxOf (L2N.CX P w) P w K mg base N_RuleU_andU "Rule.__and__" (defScope st_RuleU_andU) f cdv A outer s0 H E) [] (WE0 E) (defBody st_RuleU_andU) b_RuleU_andU := by
  have hp : Pl (cxOf (L2N.CX P w) P w K mg base N_RuleU_andU "Rule.__and__" (defScope st_RuleU_andU) f cdv A outer s0 H E) 7 := ⟨hr, hgu⟩
  exact (js_cons (js_expr (jv_c0 ⟨hF_check_rule⟩ hp (L2N.takes_of rfl rfl rfl rfl) nodd (by rfl) (jl_cons (jv_name 1 rfl (Or.inl rfl)) jl_nil)))
    (js_one (js_ret (jv_c0 ⟨hF_made⟩ hp (L2N.takes_of rfl rfl rfl rfl) nodd (by rfl) (jl_cons (jv_c0 ⟨hF_joined⟩ hp (L2N.takes_of rfl rfl rfl rfl) nodd (by rfl) (jl_cons (jv_fldV ⟨Z.k_Rule, Z.cl_Rule⟩ Z.n_Rule_table (jv_name 0 rfl (Or.inl rfl))) (jl_cons (jv_fldV ⟨Z.k_Rule, Z.cl_Rule⟩ Z.n_Rule_table (jv_name 1 rfl (Or.inl rfl))) (jl_cons jv_bl jl_nil)))) (jl_cons jv_int jl_nil))))))
theorem ok_RuleU_andU (Z : Tx K mg) (hF_check_rule : FnC P w K mg base 1 "check_rule" (spF0 K mg false 1 f_check_rule) ["value"] []) (hF_made : FnC P w K mg base 7 "made" (spF0 K mg false 2 f_made) ["rows", "start"] []) (hF_joined : FnC P w K mg base 1 "joined" (spF0 K mg false 3 f_joined) ["one", "other", "is_both"] []) {f : Addr} {fd : FuncData} {kws : List (Str × V)} (G : FunD K "__and__" "Rule.__and__" (defArgs st_RuleU_andU) (defBody st_RuleU_andU) (defScope st_RuleU_andU) [] kws f fd) : FnG P w K mg base 8 f fd ["self", "other"] (spF0 K mg false 2 f_RuleU_andU) :=
  fn0 (P := P) (w := w) (mg := mg) (base := base) (ro := false) (s := b_RuleU_andU) (N := N_RuleU_andU) (ps := ["self", "other"]) rfl rfl G sc_RuleU_andU fun cdv A outer s0 H E hr hgu => d_RuleU_andU Z hF_check_rule hF_made hF_joined hr hgu
abbrev N_RuleU_orU : List Str := ["self", "other"]
theorem sc_RuleU_orU : FnScope N_RuleU_orU ["self", "other"] (defScope st_RuleU_orU) := ⟨rfl, rfl, rfl, by decide +kernel, rfl, by decide +kernel, by decide +kernel⟩
theorem d_RuleU_orU (Z : Tx K mg) (hF_check_rule : FnC P w K mg base 1 "check_rule" (spF0 K mg false 1 f_check_rule) ["value"] []) (hF_made : FnC P w K mg base 7 "made" (spF0 K mg false 2 f_made) ["rows", "start"] []) (hF_joined : FnC P w K mg base 1 "joined" (spF0 K mg false 3 f_joined) ["one", "other", "is_both"] []) {f : Addr} {cdv : Value} {A : Around} {outer : List Env} {s0 : Shared} {H : Hp} {E : XK} (hr : Room 7 (A.deeper (envOfC "Rule.__or__" (defScope st_RuleU_orU) s0.heap.objs.size f cdv))) (hgu : A.guards = some []) : JSs (cxOf (L2N.CX P w) P w K mg base N_RuleU_orU "Rule.__or__" (defScope st_RuleU_orU) f cdv A outer s0 H E) [] (WE0 E) (defBody st_RuleU_orU) b_RuleU_orU := by
  have hp : Pl (cxOf (L2N.CX P w) P w K mg base N_RuleU_orU "Rule.__or__" (defScope st_RuleU_orU) f cdv A outer s0 H E) 7 := ⟨hr, hgu⟩
  exact (js_cons (js_expr (jv_c0 ⟨hF_check_rule⟩ hp (L2N.takes_of rfl rfl rfl rfl) nodd (by rfl) (jl_cons (jv_name 1 rfl (Or.inl rfl)) jl_nil)))
    (js_one (js_ret (jv_c0 ⟨hF_made⟩ hp (L2N.takes_of rfl rfl rfl rfl) nodd (by rfl) (jl_cons (jv_c0 ⟨hF_joined⟩ hp (L2N.takes_of rfl rfl rfl rfl) nodd (by rfl) (jl_cons (jv_fldV ⟨Z.k_Rule, Z.cl_Rule⟩ Z.n_Rule_table (jv_name 0 rfl (Or.inl rfl))) (jl_cons (jv_fldV ⟨Z.k_Rule, Z.cl_Rule⟩ Z.n_Rule_table (jv_name 1 rfl (Or.inl rfl))) (jl_cons jv_bl jl_nil)))) (jl_cons jv_int jl_nil))))))
theorem ok_RuleU_orU (Z : Tx K mg) (hF_check_rule : FnC P w K mg base 1 "check_rule" (spF0 K mg false 1 f_check_rule) ["value"] []) (hF_made : FnC P w K mg base 7 "made" (spF0 K mg false 2 f_made) ["rows", "start"] []) (hF_joined : FnC P w K mg base 1 "joined" (spF0 K mg false 3 f_joined) ["one", "other", "is_both"] []) {f : Addr} {fd : FuncData} {kws : List (Str × V)} (G : FunD K "__or__" "Rule.__or__" (defArgs st_RuleU_orU) (defBody st_RuleU_orU) (defScope st_RuleU_orU) [] kws f fd) : FnG P w K mg base 8 f fd ["self", "other"] (spF0 K mg false 2 f_RuleU_orU) :=
  fn0 (P := P) (w := w) (mg := mg) (base := base) (ro := false) (s := b_RuleU_orU) (N := N_RuleU_orU) (ps := ["self", "other"]) rfl rfl G sc_RuleU_orU fun cdv A outer s0 H E hr hgu => d_RuleU_orU Z hF_check_rule hF_made hF_joined hr hgu
abbrev N_check_number : List Str := ["value", "low", "high"]
theorem sc_check_number : FnScope N_check_number ["value", "low", "high"] (defScope st_check_number) := ⟨rfl, rfl, rfl, by decide +kernel, rfl, by decide +kernel, by decide +kernel⟩
theorem d_check_number (Z : Tx K mg) (hF_is_between : FnC P w K mg base 2 "is_between" (spF0 K mg false 3 f_is_between) ["value", "low", "high"] []) {f : Addr} {cdv : Value} {A : Around} {outer : List Env} {s0 : Shared} {H : Hp} {E : XK} (hr : Room 2 (A.deeper (envOfC "check_number" (defScope st_check_number) s0.heap.objs.size f cdv))) (hgu : A.guards = some []) : JSs (cxOf (L2N.CX P w) P w K mg base N_check_number "check_number" (defScope st_check_number) f cdv A outer s0 H E) [] (WE0 E) (defBody st_check_number) b_check_number := by
  have hp : Pl (cxOf (L2N.CX P w) P w K mg base N_check_number "check_number" (defScope st_check_number) f cdv A outer s0 H E) 2 := ⟨hr, hgu⟩
  exact (js_one (js_if (jt_not (jt_val (jv_c0 ⟨hF_is_between⟩ hp (L2N.takes_of rfl rfl rfl rfl) nodd (by rfl) (jl_cons (jv_name 0 rfl (Or.inl rfl)) (jl_cons (jv_name 1 rfl (Or.inl rfl)) (jl_cons (jv_name 2 rfl (Or.inl rfl)) jl_nil)))))) (js_one (js_raise rfl (L2N.takes_of rfl rfl rfl rfl) Z.x_NumberError (by rfl))) js_nil))
theorem ok_check_number (Z : Tx K mg) (hF_is_between : FnC P w K mg base 2 "is_between" (spF0 K mg false 3 f_is_between) ["value", "low", "high"] []) {f : Addr} {fd : FuncData} {kws : List (Str × V)} (G : FunD K "check_number" "check_number" (defArgs st_check_number) (defBody st_check_number) (defScope st_check_number) [] kws f fd) : FnG P w K mg base 3 f fd ["value", "low", "high"] (spF0 K mg false 3 f_check_number) :=
  fn0 (P := P) (w := w) (mg := mg) (base := base) (ro := false) (s := b_check_number) (N := N_check_number) (ps := ["value", "low", "high"]) rfl rfl G sc_check_number fun cdv A outer s0 H E hr hgu => d_check_number Z hF_is_between hr hgu
abbrev N_held_place : List Str := ["rows", "later", "shown", "left", "many"]
theorem sc_held_place : FnScope N_held_place ["rows", "later", "shown", "left", "many"] (defScope st_held_place) := ⟨rfl, rfl, rfl, by decide +kernel, rfl, by decide +kernel, by decide +kernel⟩
theorem d_held_place (Z : Tx K mg)  {f : Addr} {cdv : Value} {A : Around} {outer : List Env} {s0 : Shared} {H : Hp} {E : XK} (hr : Room 0 (A.deeper (envOfC "held_place" (defScope st_held_place) s0.heap.objs.size f cdv))) (hgu : A.guards = some []) : JSs (cxOf (L2N.CX P w) P w K mg base N_held_place "held_place" (defScope st_held_place) f cdv A outer s0 H E) [] (WE0 E) (defBody st_held_place) b_held_place := by
  have hp : Pl (cxOf (L2N.CX P w) P w K mg base N_held_place "held_place" (defScope st_held_place) f cdv A outer s0 H E) 0 := ⟨hr, hgu⟩
  exact (js_cons (js_if (jt_cmp p_gt (jv_name 3 rfl (Or.inl rfl)) jv_int) (js_one (js_ret (jv_bin o_sub (jv_bin o_add (jv_bin o_mul (jv_bin o_add (jv_bin o_mul (jv_name 1 rfl (Or.inl rfl)) jv_int) (jv_callTy c_int (by rfl) Z.f_int bt_int (jl_cons (jv_cmp (o_eq hp.u64) (jv_name 2 rfl (Or.inl rfl)) (jv_gS (by rfl) Z.c_UP)) jl_nil).ja)) (jv_bin o_add (jv_name 4 rfl (Or.inl rfl)) jv_int)) (jv_name 3 rfl (Or.inl rfl))) jv_int))) js_nil)
    (js_cons (js_if (jt_cmp (o_eq hp.u64) (jv_ix (jv_ix (jv_name 0 rfl (Or.inl rfl)) (jv_name 1 rfl (Or.inl rfl))) jv_int) (jv_name 2 rfl (Or.inl rfl))) (js_one (js_ret (jv_bin o_mul (jv_bin o_add (jv_bin o_mul (jv_name 1 rfl (Or.inl rfl)) jv_int) (jv_callTy c_int (by rfl) Z.f_int bt_int (jl_cons (jv_cmp (o_eq hp.u64) (jv_name 2 rfl (Or.inl rfl)) (jv_gS (by rfl) Z.c_UP)) jl_nil).ja)) (jv_bin o_add (jv_name 4 rfl (Or.inl rfl)) jv_int)))) js_nil)
    (js_one (js_ret (jv_bin o_add (jv_bin o_mul (jv_bin o_add (jv_bin o_mul (jv_name 1 rfl (Or.inl rfl)) jv_int) (jv_callTy c_int (by rfl) Z.f_int bt_int (jl_cons (jv_cmp (o_ne hp.u64) (jv_name 2 rfl (Or.inl rfl)) (jv_gS (by rfl) Z.c_UP)) jl_nil).ja)) (jv_bin o_add (jv_name 4 rfl (Or.inl rfl)) jv_int)) (jv_name 4 rfl (Or.inl rfl)))))))
theorem ok_held_place (Z : Tx K mg)  {f : Addr} {fd : FuncData} {kws : List (Str × V)} (G : FunD K "held_place" "held_place" (defArgs st_held_place) (defBody st_held_place) (defScope st_held_place) [] kws f fd) : FnG P w K mg base 1 f fd ["rows", "later", "shown", "left", "many"] (spF0 K mg false 5 f_held_place) :=
  fn0 (P := P) (w := w) (mg := mg) (base := base) (ro := false) (s := b_held_place) (N := N_held_place) (ps := ["rows", "later", "shown", "left", "many"]) rfl rfl G sc_held_place fun cdv A outer s0 H E hr hgu => d_held_place Z  hr hgu
abbrev N_held : List Str := ["rows", "many", "found", "status", "passed", "failed", "shown", "left", "one"]
theorem sc_held : FnScope N_held ["rows", "many"] (defScope st_held) := ⟨rfl, rfl, rfl, by decide +kernel, rfl, by decide +kernel, by decide +kernel⟩
theorem d_held (Z : Tx K mg) (hF_held_place : FnC P w K mg base 1 "held_place" (spF0 K mg false 5 f_held_place) ["rows", "later", "shown", "left", "many"] []) {f : Addr} {cdv : Value} {A : Around} {outer : List Env} {s0 : Shared} {H : Hp} {E : XK} (hr : Room 1 (A.deeper (envOfC "held" (defScope st_held) s0.heap.objs.size f cdv))) (hgu : A.guards = some []) : JSs (cxOf (L2N.CX P w) P w K mg base N_held "held" (defScope st_held) f cdv A outer s0 H E) [] (WE0 E) (defBody st_held) b_held := by
  have hp : Pl (cxOf (L2N.CX P w) P w K mg base N_held "held" (defScope st_held) f cdv A outer s0 H E) 1 := ⟨hr, hgu⟩
  exact (js_cons (js_setO noP_nil sc_held.nd rfl (Or.inl rfl) (jo_lst jl_nil.ja))
    (js_cons (js_for (passes_of rfl) rfl (ji_v (jv_name 0 rfl (Or.inl rfl))) (jg_tup rfl (jgs_cons (jg_name noP_nil sc_held.nd rfl (Or.inl rfl)) (jgs_cons (jg_name noP_nil sc_held.nd rfl (Or.inl rfl)) (jgs_cons (jg_name noP_nil sc_held.nd rfl (Or.inl rfl)) jgs_nil)))) (ne_tup (nes_cons ne_name (nes_cons ne_name (nes_cons ne_name nes_nil))))
    (js_one (js_for (passes_of rfl) rfl (ji_v (jv_tup (jl_cons (jv_gS (by rfl) Z.c_DOWN) (jl_cons (jv_gS (by rfl) Z.c_UP) jl_nil)).ja)) (jg_name noP_nil sc_held.nd rfl (Or.inl rfl)) ne_name
    (js_one (js_for (passes_of rfl) rfl (ji_range1 (by rfl) Z.f_range (jl_cons (jv_bin o_add (jv_name 1 rfl (Or.inl rfl)) jv_int) jl_nil).ja) (jg_name noP_nil sc_held.nd rfl (Or.inl rfl)) ne_name
    (js_cons (js_set noP_nil sc_held.nd rfl (Or.inl rfl) (jv_c0 ⟨hF_held_place⟩ hp (L2N.takes_of rfl rfl rfl rfl) nodd (by rfl) (jl_cons (jv_name 0 rfl (Or.inl rfl)) (jl_cons (jv_name 4 rfl (Or.inl rfl)) (jl_cons (jv_name 6 rfl (Or.inl rfl)) (jl_cons (jv_name 7 rfl (Or.inl rfl)) (jl_cons (jv_name 1 rfl (Or.inl rfl)) jl_nil)))))))
    (js_one (js_append (i := 2) rfl (Or.inl rfl) (jv_tup (jl_cons (jv_name 6 rfl (Or.inl rfl)) (jl_cons (jv_name 8 rfl (Or.inl rfl)) (jl_cons (jv_c0 ⟨hF_held_place⟩ hp (L2N.takes_of rfl rfl rfl rfl) nodd (by rfl) (jl_cons (jv_name 0 rfl (Or.inl rfl)) (jl_cons (jv_name 5 rfl (Or.inl rfl)) (jl_cons (jv_name 6 rfl (Or.inl rfl)) (jl_cons (jv_name 7 rfl (Or.inl rfl)) (jl_cons (jv_name 1 rfl (Or.inl rfl)) jl_nil)))))) jl_nil))).ja)))))))))
    (js_one (js_ret (jv_tup (jl_cons (jv_callTy1 c_tuple (by rfl) Z.f_tuple bt_tuple (jb_name 2 rfl (Or.inl rfl))) (jl_cons (jv_bin o_mul (jv_callTy c_int (by rfl) Z.f_int bt_int (jl_cons (jv_cmp (o_eq hp.u64) (jv_ix (jv_ix (jv_name 0 rfl (Or.inl rfl)) jv_int) jv_int) (jv_gS (by rfl) Z.c_UP)) jl_nil).ja) (jv_bin o_add (jv_name 1 rfl (Or.inl rfl)) jv_int)) jl_nil)).ja)))))
theorem ok_held (Z : Tx K mg) (hF_held_place : FnC P w K mg base 1 "held_place" (spF0 K mg false 5 f_held_place) ["rows", "later", "shown", "left", "many"] []) {f : Addr} {fd : FuncData} {kws : List (Str × V)} (G : FunD K "held" "held" (defArgs st_held) (defBody st_held) (defScope st_held) [] kws f fd) : FnG P w K mg base 2 f fd ["rows", "many"] (spF0 K mg false 2 f_held) :=
  fn0 (P := P) (w := w) (mg := mg) (base := base) (ro := false) (s := b_held) (N := N_held) (ps := ["rows", "many"]) rfl rfl G sc_held fun cdv A outer s0 H E hr hgu => d_held Z hF_held_place hr hgu
abbrev N_RuleU_addU : List Str := ["self", "other", "rows", "start"]
theorem sc_RuleU_addU : FnScope N_RuleU_addU ["self", "other"] (defScope st_RuleU_addU) := ⟨rfl, rfl, rfl, by decide +kernel, rfl, by decide +kernel, by decide +kernel⟩
theorem d_RuleU_addU (Z : Tx K mg) (hF_check_number : FnC P w K mg base 3 "check_number" (spF0 K mg false 3 f_check_number) ["value", "low", "high"] []) (hF_held : FnC P w K mg base 2 "held" (spF0 K mg false 2 f_held) ["rows", "many"] []) (hF_made : FnC P w K mg base 7 "made" (spF0 K mg false 2 f_made) ["rows", "start"] []) {f : Addr} {cdv : Value} {A : Around} {outer : List Env} {s0 : Shared} {H : Hp} {E : XK} (hr : Room 7 (A.deeper (envOfC "Rule.__add__" (defScope st_RuleU_addU) s0.heap.objs.size f cdv))) (hgu : A.guards = some []) : JSs (cxOf (L2N.CX P w) P w K mg base N_RuleU_addU "Rule.__add__" (defScope st_RuleU_addU) f cdv A outer s0 H E) [] (WE0 E) (defBody st_RuleU_addU) b_RuleU_addU := by
  have hp : Pl (cxOf (L2N.CX P w) P w K mg base N_RuleU_addU "Rule.__add__" (defScope st_RuleU_addU) f cdv A outer s0 H E) 7 := ⟨hr, hgu⟩
  exact (js_cons (js_expr (jv_c0 ⟨hF_check_number⟩ hp (L2N.takes_of rfl rfl rfl rfl) nodd (by rfl) (jl_cons (jv_name 1 rfl (Or.inl rfl)) (jl_cons jv_int (jl_cons (jv_gI (by rfl) Z.c_MOST_ADDED) jl_nil)))))
    (js_cons (js_asg (jv_c0 ⟨hF_held⟩ hp (L2N.takes_of rfl rfl rfl rfl) nodd (by rfl) (jl_cons (jv_fldV ⟨Z.k_Rule, Z.cl_Rule⟩ Z.n_Rule_table (jv_name 0 rfl (Or.inl rfl))) (jl_cons (jv_name 1 rfl (Or.inl rfl)) jl_nil))) (jg_tup rfl (jgs_cons (jg_name noP_nil sc_RuleU_addU.nd rfl (Or.inl rfl)) (jgs_cons (jg_name noP_nil sc_RuleU_addU.nd rfl (Or.inl rfl)) jgs_nil))) (ne_tup (nes_cons ne_name (nes_cons ne_name nes_nil))))
    (js_one (js_ret (jv_c0 ⟨hF_made⟩ hp (L2N.takes_of rfl rfl rfl rfl) nodd (by rfl) (jl_cons (jv_name 2 rfl (Or.inl rfl)) (jl_cons (jv_name 3 rfl (Or.inl rfl)) jl_nil)))))))
theorem ok_RuleU_addU (Z : Tx K mg) (hF_check_number : FnC P w K mg base 3 "check_number" (spF0 K mg false 3 f_check_number) ["value", "low", "high"] []) (hF_held : FnC P w K mg base 2 "held" (spF0 K mg false 2 f_held) ["rows", "many"] []) (hF_made : FnC P w K mg base 7 "made" (spF0 K mg false 2 f_made) ["rows", "start"] []) {f : Addr} {fd : FuncData} {kws : List (Str × V)} (G : FunD K "__add__" "Rule.__add__" (defArgs st_RuleU_addU) (defBody st_RuleU_addU) (defScope st_RuleU_addU) [] kws f fd) : FnG P w K mg base 8 f fd ["self", "other"] (spF0 K mg false 2 f_RuleU_addU) :=
  fn0 (P := P) (w := w) (mg := mg) (base := base) (ro := false) (s := b_RuleU_addU) (N := N_RuleU_addU) (ps := ["self", "other"]) rfl rfl G sc_RuleU_addU fun cdv A outer s0 H E hr hgu => d_RuleU_addU Z hF_check_number hF_held hF_made hr hgu
abbrev N_ignoring : List Str := ["rows", "many", "first", "at", "status", "one", "other"]
theorem sc_ignoring : FnScope N_ignoring ["rows", "many"] (defScope st_ignoring) := ⟨rfl, rfl, rfl, by decide +kernel, rfl, by decide +kernel, by decide +kernel⟩
theorem d_ignoring (Z : Tx K mg)  {f : Addr} {cdv : Value} {A : Around} {outer : List Env} {s0 : Shared} {H : Hp} {E : XK} (hr : Room 0 (A.deeper (envOfC "ignoring" (defScope st_ignoring) s0.heap.objs.size f cdv))) (hgu : A.guards = some []) : JSs (cxOf (L2N.CX P w) P w K mg base N_ignoring "ignoring" (defScope st_ignoring) f cdv A outer s0 H E) [] (WE0 E) (defBody st_ignoring) b_ignoring := by
  have hp : Pl (cxOf (L2N.CX P w) P w K mg base N_ignoring "ignoring" (defScope st_ignoring) f cdv A outer s0 H E) 0 := ⟨hr, hgu⟩
  exact (js_cons (js_setLc [("at", 3)] hp rfl sc_ignoring.nd noPs_nil (blkOk_by (by rfl)) noP_nil rfl rfl (sw_true rfl rfl rfl rfl) (ji_range1 (by rfl) Z.f_range (jl_cons (jv_name 1 rfl (Or.inr (Or.inl rfl))) jl_nil).ja) (fun s1 H1 C1 cl1 fp1 hp => (jh_name noP_nil sc_ignoring.nd rfl (Or.inl rfl) (by decide))) (fun s1 H1 C1 cl1 fp1 hp => jts_nil) (fun s1 H1 C1 cl1 fp1 hp => (jv_tup (jl_cons (jv_ix (jv_ix (jv_name 0 rfl (Or.inr (Or.inl rfl))) jv_int) jv_int) (jl_cons (jv_bin o_add (jv_name 3 rfl (Or.inl rfl)) jv_int) (jl_cons (jv_bin o_add (jv_name 3 rfl (Or.inl rfl)) jv_int) jl_nil))).ja)))
    (js_one (js_ret (jv_callT1 c_tuple (by rfl) Z.f_tuple bt_tuple (jv_bin o_add (jv_name 2 rfl (Or.inl rfl)) (ofO (jo_lc [("status", 4), ("one", 5), ("other", 6)] hp rfl sc_ignoring.nd noPs_nil (blkOk_by (by rfl)) (ji_v (jv_name 0 rfl (Or.inr (Or.inl rfl)))) (fun s1 H1 C1 cl1 fp1 hp => (jh_tup rfl (jhs_cons (jh_name noP_nil sc_ignoring.nd rfl (Or.inl rfl) (by decide)) (jhs_cons (jh_name noP_nil sc_ignoring.nd rfl (Or.inl rfl) (by decide)) (jhs_cons (jh_name noP_nil sc_ignoring.nd rfl (Or.inl rfl) (by decide)) jhs_nil))))) (fun s1 H1 C1 cl1 fp1 hp => jts_nil) (fun s1 H1 C1 cl1 fp1 hp => (jv_tup (jl_cons (jv_name 4 rfl (Or.inl rfl)) (jl_cons (jv_bin o_add (jv_name 5 rfl (Or.inl rfl)) (jv_name 1 rfl (Or.inr (Or.inl rfl)))) (jl_cons (jv_bin o_add (jv_name 6 rfl (Or.inl rfl)) (jv_name 1 rfl (Or.inr (Or.inl rfl)))) jl_nil))).ja)))))))))
theorem ok_ignoring (Z : Tx K mg)  {f : Addr} {fd : FuncData} {kws : List (Str × V)} (G : FunD K "ignoring" "ignoring" (defArgs st_ignoring) (defBody st_ignoring) (defScope st_ignoring) [] kws f fd) : FnG P w K mg base 1 f fd ["rows", "many"] (spF0 K mg false 2 f_ignoring) :=
  fn0 (P := P) (w := w) (mg := mg) (base := base) (ro := false) (s := b_ignoring) (N := N_ignoring) (ps := ["rows", "many"]) rfl rfl G sc_ignoring fun cdv A outer s0 H E hr hgu => d_ignoring Z  hr hgu
abbrev N_RuleU_raddU : List Str := ["self", "other"]
theorem sc_RuleU_raddU : FnScope N_RuleU_raddU ["self", "other"] (defScope st_RuleU_raddU) := ⟨rfl, rfl, rfl, by decide +kernel, rfl, by decide +kernel, by decide +kernel⟩
theorem d_RuleU_raddU (Z : Tx K mg) (hF_check_number : FnC P w K mg base 3 "check_number" (spF0 K mg false 3 f_check_number) ["value", "low", "high"] []) (hF_made : FnC P w K mg base 7 "made" (spF0 K mg false 2 f_made) ["rows", "start"] []) (hF_ignoring : FnC P w K mg base 1 "ignoring" (spF0 K mg false 2 f_ignoring) ["rows", "many"] []) {f : Addr} {cdv : Value} {A : Around} {outer : List Env} {s0 : Shared} {H : Hp} {E : XK} (hr : Room 7 (A.deeper (envOfC "Rule.__radd__" (defScope st_RuleU_raddU) s0.heap.objs.size f cdv))) (hgu : A.guards = some []) : JSs (cxOf (L2N.CX P w) P w K mg base N_RuleU_raddU "Rule.__radd__" (defScope st_RuleU_raddU) f cdv A outer s0 H E) [] (WE0 E) (defBody st_RuleU_raddU) b_RuleU_raddU := by
  have hp : Pl (cxOf (L2N.CX P w) P w K mg base N_RuleU_raddU "Rule.__radd__" (defScope st_RuleU_raddU) f cdv A outer s0 H E) 7 := ⟨hr, hgu⟩
  exact (js_cons (js_expr (jv_c0 ⟨hF_check_number⟩ hp (L2N.takes_of rfl rfl rfl rfl) nodd (by rfl) (jl_cons (jv_name 1 rfl (Or.inl rfl)) (jl_cons jv_int (jl_cons (jv_gI (by rfl) Z.c_MOST_ADDED) jl_nil)))))
    (js_one (js_ret (jv_c0 ⟨hF_made⟩ hp (L2N.takes_of rfl rfl rfl rfl) nodd (by rfl) (jl_cons (jv_c0 ⟨hF_ignoring⟩ hp (L2N.takes_of rfl rfl rfl rfl) nodd (by rfl) (jl_cons (jv_fldV ⟨Z.k_Rule, Z.cl_Rule⟩ Z.n_Rule_table (jv_name 0 rfl (Or.inl rfl))) (jl_cons (jv_name 1 rfl (Or.inl rfl)) jl_nil))) (jl_cons jv_int jl_nil))))))
theorem ok_RuleU_raddU (Z : Tx K mg) (hF_check_number : FnC P w K mg base 3 "check_number" (spF0 K mg false 3 f_check_number) ["value", "low", "high"] []) (hF_made : FnC P w K mg base 7 "made" (spF0 K mg false 2 f_made) ["rows", "start"] []) (hF_ignoring : FnC P w K mg base 1 "ignoring" (spF0 K mg false 2 f_ignoring) ["rows", "many"] []) {f : Addr} {fd : FuncData} {kws : List (Str × V)} (G : FunD K "__radd__" "Rule.__radd__" (defArgs st_RuleU_raddU) (defBody st_RuleU_raddU) (defScope st_RuleU_raddU) [] kws f fd) : FnG P w K mg base 8 f fd ["self", "other"] (spF0 K mg false 2 f_RuleU_raddU) :=
  fn0 (P := P) (w := w) (mg := mg) (base := base) (ro := false) (s := b_RuleU_raddU) (N := N_RuleU_raddU) (ps := ["self", "other"]) rfl rfl G sc_RuleU_raddU fun cdv A outer s0 H E hr hgu => d_RuleU_raddU Z hF_check_number hF_made hF_ignoring hr hgu
abbrev N__law_words : List Str := ["_law_rule", "_law_bad", "_law_words_here"]
theorem sc__law_words : FnScope N__law_words ["_law_rule", "_law_bad"] (defScope st__law_words) := ⟨rfl, rfl, rfl, by decide +kernel, rfl, by decide +kernel, by decide +kernel⟩
theorem d__law_words (Z : Tx K mg) (hT__law_said : TxtC K mg "_law_said" ["_law_call"] (defArgs st__law_said) (defBody st__law_said) (defScope st__law_said)) (hE__law_kindE : FnEC P w K mg base 1 "_law_kind" ["_law_e"] g__law_kindE) (hO_RuleU_andU : ∃ fa fd, Meth K (He.ga K "Rule") "__and__" fa ∧ FnG P w K mg base 8 fa fd ["self", "other"] (spF0 K mg false 2 f_RuleU_andU) ∧ Binds K fd ["self", "other"] []) (hO_RuleU_orU : ∃ fa fd, Meth K (He.ga K "Rule") "__or__" fa ∧ FnG P w K mg base 8 fa fd ["self", "other"] (spF0 K mg false 2 f_RuleU_orU) ∧ Binds K fd ["self", "other"] []) (hO_RuleU_addU : ∃ fa fd, Meth K (He.ga K "Rule") "__add__" fa ∧ FnG P w K mg base 8 fa fd ["self", "other"] (spF0 K mg false 2 f_RuleU_addU) ∧ Binds K fd ["self", "other"] []) (hO_RuleU_raddU : ∃ fa fd, Meth K (He.ga K "Rule") "__radd__" fa ∧ FnG P w K mg base 8 fa fd ["self", "other"] (spF0 K mg false 2 f_RuleU_raddU) ∧ Binds K fd ["self", "other"] []) {f : Addr} (hLam : LamOk K mg base f (("_law_words" ++ ".<locals>.") ++ "<lambda>")) {A : Around} {outer : List Env} {s0 : Shared} {H : Hp} {E : XK} (hr : Room 10 (A.deeper (envOfC "_law_words" (defScope st__law_words) s0.heap.objs.size f (.ref (cTz K f).1)))) (hgu : A.guards = some []) : JSs (cxOf (L2N.CX P w) P w K mg base N__law_words "_law_words" (defScope st__law_words) f (.ref (cTz K f).1) A outer s0 H E) [] (WE0 E) (defBody st__law_words) b__law_words := by
  have hp : Pl (cxOf (L2N.CX P w) P w K mg base N__law_words "_law_words" (defScope st__law_words) f (.ref (cTz K f).1) A outer s0 H E) 10 := ⟨hr, hgu⟩
  exact (js_cons (js_setO noP_nil sc__law_words.nd rfl (Or.inl rfl) (jo_lst (jl_cons (jv_said (kl := 8) hp hT__law_said sc__law_said rfl rfl rfl rfl rfl Z.k_StatusError Z.ct_StatusError hE__law_kindE hLam rfl (LamX.lamS_by rfl) rfl (fun _ _ _ _ _ => rfl) (fun A1 o1 s1 H1 E1 f1 c1 hp => (jv_binX (OwnK.m ⟨⟨Z.k_Rule, Z.cl_Rule⟩, hO_RuleU_andU⟩) Z.ir_Rule__rand__ (numXB_ok Z.nx_Rule) hp takes_lam opx_and (jv_name 0 rfl (Or.inr (Or.inr rfl))) (jv_name 1 rfl (Or.inr (Or.inr rfl))))) (by rfl)) jl_nil).ja))
    (js_cons (js_append (i := 2) rfl (Or.inl rfl) (jv_said (kl := 8) hp hT__law_said sc__law_said rfl rfl rfl rfl rfl Z.k_StatusError Z.ct_StatusError hE__law_kindE hLam rfl (LamX.lamS_by rfl) rfl (fun _ _ _ _ _ => rfl) (fun A1 o1 s1 H1 E1 f1 c1 hp => (jv_binX (OwnK.m ⟨⟨Z.k_Rule, Z.cl_Rule⟩, hO_RuleU_orU⟩) Z.ir_Rule__ror__ (numXB_ok Z.nx_Rule) hp takes_lam opx_or (jv_name 0 rfl (Or.inr (Or.inr rfl))) (jv_name 1 rfl (Or.inr (Or.inr rfl))))) (by rfl)))
    (js_cons (js_append (i := 2) rfl (Or.inl rfl) (jv_said (kl := 8) hp hT__law_said sc__law_said rfl rfl rfl rfl rfl Z.k_StatusError Z.ct_StatusError hE__law_kindE hLam rfl (LamX.lamS_by rfl) rfl (fun _ _ _ _ _ => rfl) (fun A1 o1 s1 H1 E1 f1 c1 hp => (jv_binX (OwnK.m ⟨⟨Z.k_Rule, Z.cl_Rule⟩, hO_RuleU_addU⟩) Z.ir_Rule__radd__ (numXB_ok Z.nx_Rule) hp takes_lam opx_add (jv_name 0 rfl (Or.inr (Or.inr rfl))) (jv_name 1 rfl (Or.inr (Or.inr rfl))))) (by rfl)))
    (js_cons (js_append (i := 2) rfl (Or.inl rfl) (jv_said (kl := 8) hp hT__law_said sc__law_said rfl rfl rfl rfl rfl Z.k_StatusError Z.ct_StatusError hE__law_kindE hLam rfl (LamX.lamS_by rfl) rfl (fun _ _ _ _ _ => rfl) (fun A1 o1 s1 H1 E1 f1 c1 hp => (jv_raddX (OwnK.m ⟨⟨Z.k_Rule, Z.cl_Rule⟩, hO_RuleU_raddU⟩) Z.is_Rule__add__ (numXB_ok Z.nx_Rule) hp takes_lam (jv_name 1 rfl (Or.inr (Or.inr rfl))) (jv_name 0 rfl (Or.inr (Or.inr rfl))))) (by rfl)))
    (js_one (js_ret (jv_name 2 rfl (Or.inl rfl))))))))
theorem ok__law_words (Z : Tx K mg) (hT__law_said : TxtC K mg "_law_said" ["_law_call"] (defArgs st__law_said) (defBody st__law_said) (defScope st__law_said)) (hE__law_kindE : FnEC P w K mg base 1 "_law_kind" ["_law_e"] g__law_kindE) (hO_RuleU_andU : ∃ fa fd, Meth K (He.ga K "Rule") "__and__" fa ∧ FnG P w K mg base 8 fa fd ["self", "other"] (spF0 K mg false 2 f_RuleU_andU) ∧ Binds K fd ["self", "other"] []) (hO_RuleU_orU : ∃ fa fd, Meth K (He.ga K "Rule") "__or__" fa ∧ FnG P w K mg base 8 fa fd ["self", "other"] (spF0 K mg false 2 f_RuleU_orU) ∧ Binds K fd ["self", "other"] []) (hO_RuleU_addU : ∃ fa fd, Meth K (He.ga K "Rule") "__add__" fa ∧ FnG P w K mg base 8 fa fd ["self", "other"] (spF0 K mg false 2 f_RuleU_addU) ∧ Binds K fd ["self", "other"] []) (hO_RuleU_raddU : ∃ fa fd, Meth K (He.ga K "Rule") "__radd__" fa ∧ FnG P w K mg base 8 fa fd ["self", "other"] (spF0 K mg false 2 f_RuleU_raddU) ∧ Binds K fd ["self", "other"] []) {f : Addr} {fd : FuncData} {kws : List (Str × V)} (hLam : LamOk K mg base f (("_law_words" ++ ".<locals>.") ++ "<lambda>")) (hcd : PySem.W.codeHdIn K (cTz K f).1 (cTz K f).2 = true) (G : FunD K "_law_words" "_law_words" (defArgs st__law_words) (defBody st__law_words) (defScope st__law_words) [] kws f fd) : FnG P w K mg base 11 f fd ["_law_rule", "_law_bad"] (spF0 K mg false 2 f__law_words) :=
  fn0L (P := P) (w := w) (mg := mg) (base := base) (ro := false) (s := b__law_words) (N := N__law_words) (ps := ["_law_rule", "_law_bad"]) rfl rfl G sc__law_words (code_of G hcd) fun A outer s0 H E hr hgu => d__law_words Z hT__law_said hE__law_kindE hO_RuleU_andU hO_RuleU_orU hO_RuleU_addU hO_RuleU_raddU hLam hr hgu
abbrev N__law_same : List Str := ["_law_found", "_law_due"]
theorem sc__law_same : FnScope N__law_same ["_law_found", "_law_due"] (defScope st__law_same) := ⟨rfl, rfl, rfl, by decide +kernel, rfl, by decide +kernel, by decide +kernel⟩
theorem d__law_same (Z : Tx K mg)  {f : Addr} {cdv : Value} {A : Around} {outer : List Env} {s0 : Shared} {H : Hp} {E : XK} (hr : Room 0 (A.deeper (envOfC "_law_same" (defScope st__law_same) s0.heap.objs.size f cdv))) (hgu : A.guards = some []) : JSs (cxOf (L2N.CX P w) P w K mg base N__law_same "_law_same" (defScope st__law_same) f cdv A outer s0 H E) [] (WE0 E) (defBody st__law_same) b__law_same := by
  have hp : Pl (cxOf (L2N.CX P w) P w K mg base N__law_same "_law_same" (defScope st__law_same) f cdv A outer s0 H E) 0 := ⟨hr, hgu⟩
  exact (js_one (js_ret (jv_cmp (o_eq hp.u64) (jv_callV1 (c_reprB hp.gu hp.u100) (by rfl) Z.f_repr bt_repr (jv_name 0 rfl (Or.inl rfl))) (jv_callV1 (c_reprB hp.gu hp.u100) (by rfl) Z.f_repr bt_repr (jv_name 1 rfl (Or.inl rfl))))))
theorem ok__law_same (Z : Tx K mg)  {f : Addr} {fd : FuncData} {kws : List (Str × V)} (G : FunD K "_law_same" "_law_same" (defArgs st__law_same) (defBody st__law_same) (defScope st__law_same) [] kws f fd) : FnG P w K mg base 1 f fd ["_law_found", "_law_due"] (spF0 K mg false 2 f__law_same) :=
  fn0 (P := P) (w := w) (mg := mg) (base := base) (ro := false) (s := b__law_same) (N := N__law_same) (ps := ["_law_found", "_law_due"]) rfl rfl G sc__law_same fun cdv A outer s0 H E hr hgu => d__law_same Z  hr hgu
abbrev N__law_chain : List Str := ["_law_many", "_law_at"]
theorem sc__law_chain : FnScope N__law_chain ["_law_many"] (defScope st__law_chain) := ⟨rfl, rfl, rfl, by decide +kernel, rfl, by decide +kernel, by decide +kernel⟩
theorem d__law_chain (Z : Tx K mg)  {f : Addr} {cdv : Value} {A : Around} {outer : List Env} {s0 : Shared} {H : Hp} {E : XK} (hr : Room 0 (A.deeper (envOfC "_law_chain" (defScope st__law_chain) s0.heap.objs.size f cdv))) (hgu : A.guards = some []) : JSs (cxOf (L2N.CX P w) P w K mg base N__law_chain "_law_chain" (defScope st__law_chain) f cdv A outer s0 H E) [] (WE0 E) (defBody st__law_chain) b__law_chain := by
  have hp : Pl (cxOf (L2N.CX P w) P w K mg base N__law_chain "_law_chain" (defScope st__law_chain) f cdv A outer s0 H E) 0 := ⟨hr, hgu⟩
  exact (js_one (js_ret (jv_callT1 c_tuple (by rfl) Z.f_tuple bt_tuple (jv_bin o_add (ofO (jo_lc [("_law_at", 1)] hp rfl sc__law_chain.nd noPs_nil (blkOk_by (by rfl)) (ji_range1 (by rfl) Z.f_range (jl_cons (jv_bin o_sub (jv_name 0 rfl (Or.inl rfl)) jv_int) jl_nil).ja) (fun s1 H1 C1 cl1 fp1 hp => (jh_name noP_nil sc__law_chain.nd rfl (Or.inl rfl) (by decide))) (fun s1 H1 C1 cl1 fp1 hp => jts_nil) (fun s1 H1 C1 cl1 fp1 hp => (jv_tup (jl_cons jv_str (jl_cons (jv_bin o_add (jv_name 1 rfl (Or.inl rfl)) jv_int) (jl_cons jv_int jl_nil))).ja)))) (ofO (jo_lst (jl_cons (jv_tup (jl_cons jv_str (jl_cons (jv_bin o_sub (jv_name 0 rfl (Or.inl rfl)) jv_int) (jl_cons jv_int jl_nil))).ja) jl_nil).ja))))))
theorem ok__law_chain (Z : Tx K mg)  {f : Addr} {fd : FuncData} {kws : List (Str × V)} (G : FunD K "_law_chain" "_law_chain" (defArgs st__law_chain) (defBody st__law_chain) (defScope st__law_chain) [] kws f fd) : FnG P w K mg base 1 f fd ["_law_many"] (spF0 K mg false 1 f__law_chain) :=
  fn0 (P := P) (w := w) (mg := mg) (base := base) (ro := false) (s := b__law_chain) (N := N__law_chain) (ps := ["_law_many"]) rfl rfl G sc__law_chain fun cdv A outer s0 H E hr hgu => d__law_chain Z  hr hgu
abbrev N_RuleU_lenU : List Str := ["self"]
theorem sc_RuleU_lenU : FnScope N_RuleU_lenU ["self"] (defScope st_RuleU_lenU) := ⟨rfl, rfl, rfl, by decide +kernel, rfl, by decide +kernel, by decide +kernel⟩
theorem d_RuleU_lenU (Z : Tx K mg)  {f : Addr} {cdv : Value} {A : Around} {outer : List Env} {s0 : Shared} {H : Hp} {E : XK} (hr : Room 0 (A.deeper (envOfC "Rule.__len__" (defScope st_RuleU_lenU) s0.heap.objs.size f cdv))) (hgu : A.guards = some []) : JSs (cxOf (L2N.CX P w) P w K mg base N_RuleU_lenU "Rule.__len__" (defScope st_RuleU_lenU) f cdv A outer s0 H E) [] (WE0 E) (defBody st_RuleU_lenU) b_RuleU_lenU := by
  have hp : Pl (cxOf (L2N.CX P w) P w K mg base N_RuleU_lenU "Rule.__len__" (defScope st_RuleU_lenU) f cdv A outer s0 H E) 0 := ⟨hr, hgu⟩
  exact (js_one (js_ret (jv_callV1 c_len (by rfl) Z.f_len bt_len (jv_fldV ⟨Z.k_Rule, Z.cl_Rule⟩ Z.n_Rule_table (jv_name 0 rfl (Or.inl rfl))))))
theorem ok_RuleU_lenU (Z : Tx K mg)  {f : Addr} {fd : FuncData} {kws : List (Str × V)} (G : FunD K "__len__" "Rule.__len__" (defArgs st_RuleU_lenU) (defBody st_RuleU_lenU) (defScope st_RuleU_lenU) [] kws f fd) : FnG P w K mg base 1 f fd ["self"] (spF0 K mg false 1 f_RuleU_lenU) :=
  fn0 (P := P) (w := w) (mg := mg) (base := base) (ro := false) (s := b_RuleU_lenU) (N := N_RuleU_lenU) (ps := ["self"]) rfl rfl G sc_RuleU_lenU fun cdv A outer s0 H E hr hgu => d_RuleU_lenU Z  hr hgu
abbrev N__law_owed : List Str := ["_law_rows"]
theorem sc__law_owed : FnScope N__law_owed ["_law_rows"] (defScope st__law_owed) := ⟨rfl, rfl, rfl, by decide +kernel, rfl, by decide +kernel, by decide +kernel⟩
theorem d__law_owed (Z : Tx K mg)  {f : Addr} {cdv : Value} {A : Around} {outer : List Env} {s0 : Shared} {H : Hp} {E : XK} (hr : Room 0 (A.deeper (envOfC "_law_owed" (defScope st__law_owed) s0.heap.objs.size f cdv))) (hgu : A.guards = some []) : JSs (cxOf (L2N.CX P w) P w K mg base N__law_owed "_law_owed" (defScope st__law_owed) f cdv A outer s0 H E) [] (WE0 E) (defBody st__law_owed) b__law_owed := by
  have hp : Pl (cxOf (L2N.CX P w) P w K mg base N__law_owed "_law_owed" (defScope st__law_owed) f cdv A outer s0 H E) 0 := ⟨hr, hgu⟩
  exact (js_one (js_ret (jv_if (jt_cmp p_le (jv_name 0 rfl (Or.inl rfl)) jv_int) (jv_name 0 rfl (Or.inl rfl)) (jv_tup (jl_cons (jv_name 0 rfl (Or.inl rfl)) (jl_cons jv_int jl_nil)).ja))))
theorem ok__law_owed (Z : Tx K mg)  {f : Addr} {fd : FuncData} {kws : List (Str × V)} (G : FunD K "_law_owed" "_law_owed" (defArgs st__law_owed) (defBody st__law_owed) (defScope st__law_owed) [] kws f fd) : FnG P w K mg base 1 f fd ["_law_rows"] (spF0 K mg false 1 f__law_owed) :=
  fn0 (P := P) (w := w) (mg := mg) (base := base) (ro := false) (s := b__law_owed) (N := N__law_owed) (ps := ["_law_rows"]) rfl rfl G sc__law_owed fun cdv A outer s0 H E hr hgu => d__law_owed Z  hr hgu
abbrev N__law_ring : List Str := ["_law_signs", "_law_many", "_law_at"]
theorem sc__law_ring : FnScope N__law_ring ["_law_signs"] (defScope st__law_ring) := ⟨rfl, rfl, rfl, by decide +kernel, rfl, by decide +kernel, by decide +kernel⟩
theorem d__law_ring (Z : Tx K mg)  {f : Addr} {cdv : Value} {A : Around} {outer : List Env} {s0 : Shared} {H : Hp} {E : XK} (hr : Room 0 (A.deeper (envOfC "_law_ring" (defScope st__law_ring) s0.heap.objs.size f cdv))) (hgu : A.guards = some []) : JSs (cxOf (L2N.CX P w) P w K mg base N__law_ring "_law_ring" (defScope st__law_ring) f cdv A outer s0 H E) [] (WE0 E) (defBody st__law_ring) b__law_ring := by
  have hp : Pl (cxOf (L2N.CX P w) P w K mg base N__law_ring "_law_ring" (defScope st__law_ring) f cdv A outer s0 H E) 0 := ⟨hr, hgu⟩
  exact (js_cons (js_set noP_nil sc__law_ring.nd rfl (Or.inr rfl) (jv_callV1 c_len (by rfl) Z.f_len bt_len (jv_name 0 rfl (Or.inr (Or.inl rfl)))))
    (js_one (js_ret (jv_callT1 c_tuple (by rfl) Z.f_tuple bt_tuple (ofO (jo_lc [("_law_at", 2)] hp rfl sc__law_ring.nd noPs_nil (blkOk_by (by rfl)) (ji_range1 (by rfl) Z.f_range (jl_cons (jv_name 1 rfl (Or.inr (Or.inl rfl))) jl_nil).ja) (fun s1 H1 C1 cl1 fp1 hp => (jh_name noP_nil sc__law_ring.nd rfl (Or.inl rfl) (by decide))) (fun s1 H1 C1 cl1 fp1 hp => jts_nil) (fun s1 H1 C1 cl1 fp1 hp => (jv_tup (jl_cons (jv_ix (jv_name 0 rfl (Or.inr (Or.inl rfl))) (jv_name 2 rfl (Or.inl rfl))) (jl_cons (jv_bin o_mod (jv_callTy c_int (by rfl) Z.f_int bt_int (jl_cons (jv_bin o_add (jv_name 2 rfl (Or.inl rfl)) jv_int) jl_nil).ja) (jv_name 1 rfl (Or.inr (Or.inl rfl)))) (jl_cons (jv_bin o_mod (jv_callTy c_int (by rfl) Z.f_int bt_int (jl_cons (jv_bin o_add (jv_name 2 rfl (Or.inl rfl)) jv_int) jl_nil).ja) (jv_name 1 rfl (Or.inr (Or.inl rfl)))) jl_nil))).ja))))))))
theorem ok__law_ring (Z : Tx K mg)  {f : Addr} {fd : FuncData} {kws : List (Str × V)} (G : FunD K "_law_ring" "_law_ring" (defArgs st__law_ring) (defBody st__law_ring) (defScope st__law_ring) [] kws f fd) : FnG P w K mg base 1 f fd ["_law_signs"] (spF0 K mg false 1 f__law_ring) :=
  fn0 (P := P) (w := w) (mg := mg) (base := base) (ro := false) (s := b__law_ring) (N := N__law_ring) (ps := ["_law_signs"]) rfl rfl G sc__law_ring fun cdv A outer s0 H E hr hgu => d__law_ring Z  hr hgu
abbrev N__law_period : List Str := ["_law_signs", "_law_size"]
theorem sc__law_period : FnScope N__law_period ["_law_signs"] (defScope st__law_period) := ⟨rfl, rfl, rfl, by decide +kernel, rfl, by decide +kernel, by decide +kernel⟩
theorem d__law_period (Z : Tx K mg)  {f : Addr} {cdv : Value} {A : Around} {outer : List Env} {s0 : Shared} {H : Hp} {E : XK} (hr : Room 0 (A.deeper (envOfC "_law_period" (defScope st__law_period) s0.heap.objs.size f cdv))) (hgu : A.guards = some []) : JSs (cxOf (L2N.CX P w) P w K mg base N__law_period "_law_period" (defScope st__law_period) f cdv A outer s0 H E) [] (WE0 E) (defBody st__law_period) b__law_period := by
  have hp : Pl (cxOf (L2N.CX P w) P w K mg base N__law_period "_law_period" (defScope st__law_period) f cdv A outer s0 H E) 0 := ⟨hr, hgu⟩
  exact (js_one (js_ret (jv_ix (ofO (jo_lc [("_law_size", 1)] hp rfl sc__law_period.nd noPs_nil (blkOk_by (by rfl)) (ji_range2 (by rfl) Z.f_range (jl_cons jv_int (jl_cons (jv_bin o_add (jv_callV1 c_len (by rfl) Z.f_len bt_len (jv_name 0 rfl (Or.inr (Or.inl rfl)))) jv_int) jl_nil)).ja) (fun s1 H1 C1 cl1 fp1 hp => (jh_name noP_nil sc__law_period.nd rfl (Or.inl rfl) (by decide))) (fun s1 H1 C1 cl1 fp1 hp => (jts_one (jt_cmp (o_eq hp.u64) (jv_bin o_add (jv_slice (jv_name 0 rfl (Or.inr (Or.inl rfl))) (jp_some (jv_name 1 rfl (Or.inl rfl))) jp_none) (jv_slice (jv_name 0 rfl (Or.inr (Or.inl rfl))) jp_none (jp_some (jv_name 1 rfl (Or.inl rfl))))) (jv_name 0 rfl (Or.inr (Or.inl rfl)))))) (fun s1 H1 C1 cl1 fp1 hp => (jv_name 1 rfl (Or.inl rfl))))) jv_int)))
theorem ok__law_period (Z : Tx K mg)  {f : Addr} {fd : FuncData} {kws : List (Str × V)} (G : FunD K "_law_period" "_law_period" (defArgs st__law_period) (defBody st__law_period) (defScope st__law_period) [] kws f fd) : FnG P w K mg base 1 f fd ["_law_signs"] (spF0 K mg false 1 f__law_period) :=
  fn0 (P := P) (w := w) (mg := mg) (base := base) (ro := false) (s := b__law_period) (N := N__law_period) (ps := ["_law_signs"]) rfl rfl G sc__law_period fun cdv A outer s0 H E hr hgu => d__law_period Z  hr hgu
abbrev N__law_are_rings_right : List Str := ["_law_one", "_law_other", "_law_mine", "_law_its", "_law_both", "_law_either", "_law_k", "_law_ups"]
theorem sc__law_are_rings_right : FnScope N__law_are_rings_right ["_law_one", "_law_other"] (defScope st__law_are_rings_right) := ⟨rfl, rfl, rfl, by decide +kernel, rfl, by decide +kernel, by decide +kernel⟩
theorem d__law_are_rings_right (Z : Tx K mg) (hM_Rule_1_ : ∃ f fd g, Mk K (He.ga K "Rule") f ∧ FnG P w K mg base 5 f fd ["self", "table"] (spF1 K mg false 2 f_RuleU_initU) ∧ KBn K fd ["self", "table"] 2 [] g gV_Rule_1_) (hF__law_ring : FnC P w K mg base 1 "_law_ring" (spF0 K mg false 1 f__law_ring) ["_law_signs"] []) (hF__law_same : FnC P w K mg base 1 "_law_same" (spF0 K mg false 2 f__law_same) ["_law_found", "_law_due"] []) (hT__law_large : TxtC K mg "_law_large" ["_law_call"] (defArgs st__law_large) (defBody st__law_large) (defScope st__law_large)) (hO_RuleU_andU : ∃ fa fd, Meth K (He.ga K "Rule") "__and__" fa ∧ FnG P w K mg base 8 fa fd ["self", "other"] (spF0 K mg false 2 f_RuleU_andU) ∧ Binds K fd ["self", "other"] []) (hO_RuleU_lenU : ∃ fa fd, Meth K (He.ga K "Rule") "__len__" fa ∧ FnG P w K mg base 1 fa fd ["self"] (spF0 K mg false 1 f_RuleU_lenU) ∧ Binds K fd ["self"] []) (hF__law_owed : FnC P w K mg base 1 "_law_owed" (spF0 K mg false 1 f__law_owed) ["_law_rows"] []) (hF__law_period : FnC P w K mg base 1 "_law_period" (spF0 K mg false 1 f__law_period) ["_law_signs"] []) (hO_RuleU_orU : ∃ fa fd, Meth K (He.ga K "Rule") "__or__" fa ∧ FnG P w K mg base 8 fa fd ["self", "other"] (spF0 K mg false 2 f_RuleU_orU) ∧ Binds K fd ["self", "other"] []) {f : Addr} (hLam : LamOk K mg base f (("_law_are_rings_right" ++ ".<locals>.") ++ "<lambda>")) {A : Around} {outer : List Env} {s0 : Shared} {H : Hp} {E : XK} (hr : Room 10 (A.deeper (envOfC "_law_are_rings_right" (defScope st__law_are_rings_right) s0.heap.objs.size f (.ref (cTz K f).1)))) (hgu : A.guards = some []) : JSs (cxOf (L2N.CX P w) P w K mg base N__law_are_rings_right "_law_are_rings_right" (defScope st__law_are_rings_right) f (.ref (cTz K f).1) A outer s0 H E) [] (WE0 E) (defBody st__law_are_rings_right) b__law_are_rings_right := by
  have hp : Pl (cxOf (L2N.CX P w) P w K mg base N__law_are_rings_right "_law_are_rings_right" (defScope st__law_are_rings_right) f (.ref (cTz K f).1) A outer s0 H E) 10 := ⟨hr, hgu⟩
  exact (js_cons (js_set noP_nil sc__law_are_rings_right.nd rfl (Or.inr rfl) (ofO (jo_make (C := He.ga K "Rule") ⟨⟨Z.k_Rule, Z.cl_Rule⟩, hM_Rule_1_⟩ (hp.room.mono (by decide)) hp.gu (L2N.takes_of rfl rfl rfl rfl) (by rfl) (jl_cons (jv_c0 ⟨hF__law_ring⟩ hp (L2N.takes_of rfl rfl rfl rfl) nodd (by rfl) (jl_cons (jv_bin o_add jv_str (jv_bin o_mulA jv_str (jv_bin o_sub (jv_name 0 rfl (Or.inl rfl)) jv_int))) jl_nil)) jl_nil) jk_nil rel_Rule_1_)))
    (js_cons (js_set noP_nil sc__law_are_rings_right.nd rfl (Or.inr rfl) (ofO (jo_make (C := He.ga K "Rule") ⟨⟨Z.k_Rule, Z.cl_Rule⟩, hM_Rule_1_⟩ (hp.room.mono (by decide)) hp.gu (L2N.takes_of rfl rfl rfl rfl) (by rfl) (jl_cons (jv_c0 ⟨hF__law_ring⟩ hp (L2N.takes_of rfl rfl rfl rfl) nodd (by rfl) (jl_cons (jv_bin o_add jv_str (jv_bin o_mulA jv_str (jv_bin o_sub (jv_name 1 rfl (Or.inl rfl)) jv_int))) jl_nil)) jl_nil) jk_nil rel_Rule_1_)))
    (js_cons (js_asg (jv_tup (jl_cons jv_str (jl_cons jv_str jl_nil)).ja) (jg_tup rfl (jgs_cons (jg_name noP_nil sc__law_are_rings_right.nd rfl (Or.inl rfl)) (jgs_cons (jg_name noP_nil sc__law_are_rings_right.nd rfl (Or.inl rfl)) jgs_nil))) (ne_tup (nes_cons ne_name (nes_cons ne_name nes_nil))))
    (js_cons (js_for (passes_of rfl) rfl (ji_range1 (by rfl) Z.f_range (jl_cons (jv_bin o_mul (jv_name 0 rfl (Or.inl rfl)) (jv_name 1 rfl (Or.inl rfl))) jl_nil).ja) (jg_name noP_nil sc__law_are_rings_right.nd rfl (Or.inl rfl)) ne_name
    (js_cons (js_set noP_nil sc__law_are_rings_right.nd rfl (Or.inl rfl) (jv_bin o_add (jv_callTy c_int (by rfl) Z.f_int bt_int (jl_cons (jv_cmp (o_eq hp.u64) (jv_bin o_mod (jv_callTy c_int (by rfl) Z.f_int bt_int (jl_cons (jv_name 6 rfl (Or.inl rfl)) jl_nil).ja) (jv_name 0 rfl (Or.inl rfl))) jv_int) jl_nil).ja) (jv_callTy c_int (by rfl) Z.f_int bt_int (jl_cons (jv_cmp (o_eq hp.u64) (jv_bin o_mod (jv_callTy c_int (by rfl) Z.f_int bt_int (jl_cons (jv_name 6 rfl (Or.inl rfl)) jl_nil).ja) (jv_name 1 rfl (Or.inl rfl))) jv_int) jl_nil).ja)))
    (js_cons (js_set noP_nil sc__law_are_rings_right.nd rfl (Or.inl rfl) (jv_bin o_add (jv_name 4 rfl (Or.inl rfl)) (jv_if (jt_cmp (o_eq hp.u64) (jv_name 7 rfl (Or.inl rfl)) jv_int) jv_str jv_str)))
    (js_one (js_set noP_nil sc__law_are_rings_right.nd rfl (Or.inl rfl) (jv_bin o_add (jv_name 5 rfl (Or.inl rfl)) (jv_if (jt_cmp p_gt (jv_name 7 rfl (Or.inl rfl)) jv_int) jv_str jv_str)))))))
    (js_cons (js_if (jt_not (jt_val (jv_c0 ⟨hF__law_same⟩ hp (L2N.takes_of rfl rfl rfl rfl) nodd (by rfl) (jl_cons (jv_large (kl := 8) hp hT__law_large sc__law_large (OwnK.m ⟨⟨Z.k_Rule, Z.cl_Rule⟩, hO_RuleU_lenU⟩) rfl rfl rfl rfl rfl Z.k_TooLarge Z.f_len bt_len Z.ct_TooLarge hLam rfl (LamX.lamS_by rfl) rfl (fun _ _ _ _ _ => rfl) (fun A1 o1 s1 H1 E1 f1 c1 hp => (jv_binO (OwnK.m ⟨⟨Z.k_Rule, Z.cl_Rule⟩, hO_RuleU_andU⟩) Z.sf_Rule hp takes_lam (jv_name 2 rfl (Or.inr (Or.inr rfl))) (jv_name 3 rfl (Or.inr (Or.inr rfl)))))
    (fun g1 cd1 A1 o1 s1 H1 E1 a1 pa1 oe1 cls1 d1 pn1 ex hz hfs hm hd hc => hd__law_large Z g1 cd1 A1 o1 s1 H1 E1 a1 pa1 oe1 cls1 d1 pn1 ex hz hfs hm hd) (by rfl)) (jl_cons (jv_c0 ⟨hF__law_owed⟩ hp (L2N.takes_of rfl rfl rfl rfl) nodd (by rfl) (jl_cons (jv_c0 ⟨hF__law_period⟩ hp (L2N.takes_of rfl rfl rfl rfl) nodd (by rfl) (jl_cons (jv_name 4 rfl (Or.inl rfl)) jl_nil)) jl_nil)) jl_nil))))) (js_one (js_ret jv_bl)) js_nil)
    (js_one (js_ret (jv_c0 ⟨hF__law_same⟩ hp (L2N.takes_of rfl rfl rfl rfl) nodd (by rfl) (jl_cons (jv_large (kl := 8) hp hT__law_large sc__law_large (OwnK.m ⟨⟨Z.k_Rule, Z.cl_Rule⟩, hO_RuleU_lenU⟩) rfl rfl rfl rfl rfl Z.k_TooLarge Z.f_len bt_len Z.ct_TooLarge hLam rfl (LamX.lamS_by rfl) rfl (fun _ _ _ _ _ => rfl) (fun A1 o1 s1 H1 E1 f1 c1 hp => (jv_binO (OwnK.m ⟨⟨Z.k_Rule, Z.cl_Rule⟩, hO_RuleU_orU⟩) Z.sf_Rule hp takes_lam (jv_name 2 rfl (Or.inr (Or.inr rfl))) (jv_name 3 rfl (Or.inr (Or.inr rfl)))))
    (fun g1 cd1 A1 o1 s1 H1 E1 a1 pa1 oe1 cls1 d1 pn1 ex hz hfs hm hd hc => hd__law_large Z g1 cd1 A1 o1 s1 H1 E1 a1 pa1 oe1 cls1 d1 pn1 ex hz hfs hm hd) (by rfl)) (jl_cons (jv_c0 ⟨hF__law_owed⟩ hp (L2N.takes_of rfl rfl rfl rfl) nodd (by rfl) (jl_cons (jv_c0 ⟨hF__law_period⟩ hp (L2N.takes_of rfl rfl rfl rfl) nodd (by rfl) (jl_cons (jv_name 5 rfl (Or.inl rfl)) jl_nil)) jl_nil)) jl_nil))))))))))
theorem ok__law_are_rings_right (Z : Tx K mg) (hM_Rule_1_ : ∃ f fd g, Mk K (He.ga K "Rule") f ∧ FnG P w K mg base 5 f fd ["self", "table"] (spF1 K mg false 2 f_RuleU_initU) ∧ KBn K fd ["self", "table"] 2 [] g gV_Rule_1_) (hF__law_ring : FnC P w K mg base 1 "_law_ring" (spF0 K mg false 1 f__law_ring) ["_law_signs"] []) (hF__law_same : FnC P w K mg base 1 "_law_same" (spF0 K mg false 2 f__law_same) ["_law_found", "_law_due"] []) (hT__law_large : TxtC K mg "_law_large" ["_law_call"] (defArgs st__law_large) (defBody st__law_large) (defScope st__law_large)) (hO_RuleU_andU : ∃ fa fd, Meth K (He.ga K "Rule") "__and__" fa ∧ FnG P w K mg base 8 fa fd ["self", "other"] (spF0 K mg false 2 f_RuleU_andU) ∧ Binds K fd ["self", "other"] []) (hO_RuleU_lenU : ∃ fa fd, Meth K (He.ga K "Rule") "__len__" fa ∧ FnG P w K mg base 1 fa fd ["self"] (spF0 K mg false 1 f_RuleU_lenU) ∧ Binds K fd ["self"] []) (hF__law_owed : FnC P w K mg base 1 "_law_owed" (spF0 K mg false 1 f__law_owed) ["_law_rows"] []) (hF__law_period : FnC P w K mg base 1 "_law_period" (spF0 K mg false 1 f__law_period) ["_law_signs"] []) (hO_RuleU_orU : ∃ fa fd, Meth K (He.ga K "Rule") "__or__" fa ∧ FnG P w K mg base 8 fa fd ["self", "other"] (spF0 K mg false 2 f_RuleU_orU) ∧ Binds K fd ["self", "other"] []) {f : Addr} {fd : FuncData} {kws : List (Str × V)} (hLam : LamOk K mg base f (("_law_are_rings_right" ++ ".<locals>.") ++ "<lambda>")) (hcd : PySem.W.codeHdIn K (cTz K f).1 (cTz K f).2 = true) (G : FunD K "_law_are_rings_right" "_law_are_rings_right" (defArgs st__law_are_rings_right) (defBody st__law_are_rings_right) (defScope st__law_are_rings_right) [] kws f fd) : FnG P w K mg base 11 f fd ["_law_one", "_law_other"] (spF0 K mg false 2 f__law_are_rings_right) :=
  fn0L (P := P) (w := w) (mg := mg) (base := base) (ro := false) (s := b__law_are_rings_right) (N := N__law_are_rings_right) (ps := ["_law_one", "_law_other"]) rfl rfl G sc__law_are_rings_right (code_of G hcd) fun A outer s0 H E hr hgu => d__law_are_rings_right Z hM_Rule_1_ hF__law_ring hF__law_same hT__law_large hO_RuleU_andU hO_RuleU_lenU hF__law_owed hF__law_period hO_RuleU_orU hLam hr hgu
abbrev N_law : List Str := ["_law_script", "_law_k", "_law_pen_here", "_law_rule", "_law_kept", "_law_bad", "_law_due", "_law_is_number", "_law_size", "_law_many", "_law_chain_here"]
theorem sc_law : FnScope N_law ["_law_script"] (defScope st_law) := ⟨rfl, rfl, rfl, by decide +kernel, rfl, by decide +kernel, by decide +kernel⟩
theorem d_law (Z : Tx K mg) (hF__law_pen : FnC P w K mg base 1 "_law_pen" (spF0 K mg true 1 f__law_pen) ["_law_cell"] []) (hF__law_cell_at : FnC P w K mg base 1 "_law_cell_at" (spF0 K mg false 2 f__law_cell_at) ["_law_script", "_law_k"] []) (hM_Rule_1_ : ∃ f fd g, Mk K (He.ga K "Rule") f ∧ FnG P w K mg base 5 f fd ["self", "table"] (spF1 K mg false 2 f_RuleU_initU) ∧ KBn K fd ["self", "table"] 2 [] g gV_Rule_1_) (hF__law_table : FnC P w K mg base 2 "_law_table" (spF1 K mg false 2 f__law_table) ["_law_pen_here", "_law_many"] []) (hF__law_draw : FnC P w K mg base 1 "_law_draw" (spF1 K mg false 2 f__law_draw) ["_law_pen_here", "_law_many"] []) (hP_rows : ∃ pp ga fd, PropOf K (He.ga K "Rule") "rows" pp ga ∧ FnOk P w K mg base CX0 1 ga fd ["self"] (getSp (He.ga K "Rule") "table") ∧ Binds K fd ["self"] []) (hF__law_odd : FnC P w K mg base 3 "_law_odd" (spF1 K mg false 1 f__law_odd) ["_law_pen_here"] []) (hF__law_words : FnC P w K mg base 11 "_law_words" (spF0 K mg false 2 f__law_words) ["_law_rule", "_law_bad"] []) (hT__law_said : TxtC K mg "_law_said" ["_law_call"] (defArgs st__law_said) (defBody st__law_said) (defScope st__law_said)) (hE__law_kindE : FnEC P w K mg base 1 "_law_kind" ["_law_e"] g__law_kindE) (hO_RuleU_addU : ∃ fa fd, Meth K (He.ga K "Rule") "__add__" fa ∧ FnG P w K mg base 8 fa fd ["self", "other"] (spF0 K mg false 2 f_RuleU_addU) ∧ Binds K fd ["self", "other"] []) (hF__law_same : FnC P w K mg base 1 "_law_same" (spF0 K mg false 2 f__law_same) ["_law_found", "_law_due"] []) (hF__law_chain : FnC P w K mg base 1 "_law_chain" (spF0 K mg false 1 f__law_chain) ["_law_many"] []) (hT__law_large : TxtC K mg "_law_large" ["_law_call"] (defArgs st__law_large) (defBody st__law_large) (defScope st__law_large)) (hO_RuleU_raddU : ∃ fa fd, Meth K (He.ga K "Rule") "__radd__" fa ∧ FnG P w K mg base 8 fa fd ["self", "other"] (spF0 K mg false 2 f_RuleU_raddU) ∧ Binds K fd ["self", "other"] []) (hO_RuleU_lenU : ∃ fa fd, Meth K (He.ga K "Rule") "__len__" fa ∧ FnG P w K mg base 1 fa fd ["self"] (spF0 K mg false 1 f_RuleU_lenU) ∧ Binds K fd ["self"] []) (hF__law_owed : FnC P w K mg base 1 "_law_owed" (spF0 K mg false 1 f__law_owed) ["_law_rows"] []) (hF__law_are_rings_right : FnC P w K mg base 11 "_law_are_rings_right" (spF0 K mg false 2 f__law_are_rings_right) ["_law_one", "_law_other"] []) {f : Addr} (hLam : LamOk K mg base f (("law" ++ ".<locals>.") ++ "<lambda>")) {A : Around} {outer : List Env} {s0 : Shared} {H : Hp} {E : XK} (hr : Room 11 (A.deeper (envOfC "law" (defScope st_law) s0.heap.objs.size f (.ref (cTz K f).1)))) (hgu : A.guards = some []) : JSs (cxOf (L2N.CX P w) P w K mg base N_law "law" (defScope st_law) f (.ref (cTz K f).1) A outer s0 H E) [] (WE0 E) (defBody st_law) b_law := by
  have hp : Pl (cxOf (L2N.CX P w) P w K mg base N_law "law" (defScope st_law) f (.ref (cTz K f).1) A outer s0 H E) 11 := ⟨hr, hgu⟩
  exact (js_cons (js_for (passes_of rfl) rfl (ji_range1 (by rfl) Z.f_range (jl_cons (jv_callB (c_max (by rfl)) (by rfl) Z.f_max bt_max (jl_cons jv_int (jl_cons (jv_callB (c_min (by rfl)) (by rfl) Z.f_min bt_min (jl_cons (jv_callV1 c_len (by rfl) Z.f_len bt_len (jv_name 0 rfl (Or.inl rfl))) (jl_cons jv_int jl_nil)).ja) jl_nil)).ja) jl_nil).ja) (jg_name noP_nil sc_law.nd rfl (Or.inl rfl)) ne_name
    (js_cons (js_setO noP_nil sc_law.nd rfl (Or.inl rfl) (jo_c0 ⟨hF__law_pen⟩ hp (L2N.takes_of rfl rfl rfl rfl) nodd (by rfl) (jl_cons (jv_c0 ⟨hF__law_cell_at⟩ hp (L2N.takes_of rfl rfl rfl rfl) nodd (by rfl) (jl_cons (jv_name 0 rfl (Or.inl rfl)) (jl_cons (jv_name 1 rfl (Or.inl rfl)) jl_nil))) jl_nil)))
    (js_cons (js_set noP_nil sc_law.nd rfl (Or.inr rfl) (ofO (jo_make (C := He.ga K "Rule") ⟨⟨Z.k_Rule, Z.cl_Rule⟩, hM_Rule_1_⟩ (hp.room.mono (by decide)) hp.gu (L2N.takes_of rfl rfl rfl rfl) (by rfl) (jl_cons (jv_c1 2 ⟨hF__law_table⟩ hp (L2N.takes_of rfl rfl rfl rfl) nodd (by rfl) (by rfl) (Or.inl rfl) (jl_cons (jv_bin o_add jv_int (jv_c1 2 ⟨hF__law_draw⟩ hp (L2N.takes_of rfl rfl rfl rfl) nodd (by rfl) (by rfl) (Or.inl rfl) (jl_cons jv_int jl_nil))) jl_nil)) jl_nil) jk_nil rel_Rule_1_)))
    (js_cons (js_set noP_nil sc_law.nd rfl (Or.inl rfl) (jv_propV ⟨⟨Z.k_Rule, Z.cl_Rule⟩, hP_rows⟩ hp (jv_name 3 rfl (Or.inr (Or.inl rfl)))))
    (js_cons (js_for (passes_of rfl) rfl (ji_v (ofO (jo_lst (jl_cons (jv_c1 2 ⟨hF__law_odd⟩ hp (L2N.takes_of rfl rfl rfl rfl) nodd (by rfl) (by rfl) (Or.inl rfl) jl_nil) (jl_cons (jv_neg jv_int) (jl_cons jv_int (jl_cons jv_bl (jl_cons jv_non (jl_cons jv_str (jl_cons (jv_tup (jl_cons jv_int jl_nil).ja) (jl_cons (ofO (jo_lst (jl_cons jv_int jl_nil).ja)) (jl_cons (ofO jo_dnewK) (jl_cons (jv_bin o_pow jv_int jv_int) jl_nil)))))))))).ja))) (jg_name noP_nil sc_law.nd rfl (Or.inl rfl)) ne_name
    (js_cons (js_set noP_nil sc_law.nd rfl (Or.inl rfl) (ofO (jo_lst (jl_cons (jv_tup (jl_cons jv_str jl_nil).ja) (jl_cons (jv_tup (jl_cons jv_str jl_nil).ja) (jl_cons (jv_tup (jl_cons jv_str jl_nil).ja) (jl_cons (jv_tup (jl_cons jv_str jl_nil).ja) jl_nil)))).ja)))
    (js_cons (js_set noP_nil sc_law.nd rfl (Or.inl rfl) (jv_and (jv_isiB Z.i_int (by rfl) Z.f_isinstance (by rfl) Z.f_int bt_int (jv_name 5 rfl (Or.inl rfl))) (jv_and (jv_not (jv_isiB Z.i_bool (by rfl) Z.f_isinstance (by rfl) Z.f_bool bt_bool (jv_name 5 rfl (Or.inl rfl)))) (jv_one (jv_chain p_le p_le jv_int (jv_name 5 rfl (Or.inl rfl)) jv_int)))))
    (js_one (js_if (ofW (jw_and (jt_not (jt_val (jv_name 7 rfl (Or.inl rfl)))) (jw_and1 (jt_cmp (o_ne hp.u64) (jv_c0 ⟨hF__law_words⟩ hp (L2N.takes_of rfl rfl rfl rfl) nodd (by rfl) (jl_cons (jv_name 3 rfl (Or.inr (Or.inl rfl))) (jl_cons (jv_name 5 rfl (Or.inl rfl)) jl_nil))) (jv_name 6 rfl (Or.inl rfl)))))) (js_one (js_ret jv_bl)) js_nil)))))
    (js_cons (js_if (ofW (jw_or (jt_cmp (o_ne hp.u64) (jv_said (kl := 8) hp hT__law_said sc__law_said rfl rfl rfl rfl rfl Z.k_StatusError Z.ct_StatusError hE__law_kindE hLam rfl (LamX.lamS_by rfl) rfl (fun _ _ _ _ _ => rfl) (fun A1 o1 s1 H1 E1 f1 c1 hp => (jv_binO (OwnK.m ⟨⟨Z.k_Rule, Z.cl_Rule⟩, hO_RuleU_addU⟩) Z.sf_Rule hp takes_lam (jv_name 3 rfl (Or.inr (Or.inr rfl))) (jv_name 3 rfl (Or.inr (Or.inr rfl))))) (by rfl)) (jv_tup (jl_cons jv_str jl_nil).ja)) (jw_or1 (jt_not (jt_val (jv_c0 ⟨hF__law_same⟩ hp (L2N.takes_of rfl rfl rfl rfl) nodd (by rfl) (jl_cons (jv_propV ⟨⟨Z.k_Rule, Z.cl_Rule⟩, hP_rows⟩ hp (jv_name 3 rfl (Or.inr (Or.inl rfl)))) (jl_cons (jv_name 4 rfl (Or.inl rfl)) jl_nil)))))))) (js_one (js_ret jv_bl)) js_nil)
    (js_cons (js_asg (jv_tup (jl_cons (jv_bin o_add jv_int (jv_c1 2 ⟨hF__law_draw⟩ hp (L2N.takes_of rfl rfl rfl rfl) nodd (by rfl) (by rfl) (Or.inl rfl) (jl_cons jv_int jl_nil))) (jl_cons (jv_c1 2 ⟨hF__law_draw⟩ hp (L2N.takes_of rfl rfl rfl rfl) nodd (by rfl) (by rfl) (Or.inl rfl) (jl_cons jv_int jl_nil)) jl_nil)).ja) (jg_tup rfl (jgs_cons (jg_name noP_nil sc_law.nd rfl (Or.inl rfl)) (jgs_cons (jg_name noP_nil sc_law.nd rfl (Or.inr rfl)) jgs_nil))) (ne_tup (nes_cons ne_name (nes_cons ne_name nes_nil))))
    (js_cons (js_set noP_nil sc_law.nd rfl (Or.inr rfl) (ofO (jo_make (C := He.ga K "Rule") ⟨⟨Z.k_Rule, Z.cl_Rule⟩, hM_Rule_1_⟩ (hp.room.mono (by decide)) hp.gu (L2N.takes_of rfl rfl rfl rfl) (by rfl) (jl_cons (jv_c0 ⟨hF__law_chain⟩ hp (L2N.takes_of rfl rfl rfl rfl) nodd (by rfl) (jl_cons (jv_name 8 rfl (Or.inl rfl)) jl_nil)) jl_nil) jk_nil rel_Rule_1_)))
    (js_cons (js_if (ofW (jw_or (jt_not (jt_val (jv_c0 ⟨hF__law_same⟩ hp (L2N.takes_of rfl rfl rfl rfl) nodd (by rfl) (jl_cons (jv_large (kl := 8) hp hT__law_large sc__law_large (OwnK.m ⟨⟨Z.k_Rule, Z.cl_Rule⟩, hO_RuleU_lenU⟩) rfl rfl rfl rfl rfl Z.k_TooLarge Z.f_len bt_len Z.ct_TooLarge hLam rfl (LamX.lamS_by rfl) rfl (fun _ _ _ _ _ => rfl) (fun A1 o1 s1 H1 E1 f1 c1 hp => (jv_raddX (OwnK.m ⟨⟨Z.k_Rule, Z.cl_Rule⟩, hO_RuleU_raddU⟩) Z.is_Rule__add__ (numXB_ok Z.nx_Rule) hp takes_lam (jv_name 9 rfl (Or.inr (Or.inr rfl))) (jv_name 10 rfl (Or.inr (Or.inr rfl)))))
    (fun g1 cd1 A1 o1 s1 H1 E1 a1 pa1 oe1 cls1 d1 pn1 ex hz hfs hm hd hc => hd__law_large Z g1 cd1 A1 o1 s1 H1 E1 a1 pa1 oe1 cls1 d1 pn1 ex hz hfs hm hd) (by rfl)) (jl_cons (jv_c0 ⟨hF__law_owed⟩ hp (L2N.takes_of rfl rfl rfl rfl) nodd (by rfl) (jl_cons (jv_bin o_add (jv_name 8 rfl (Or.inl rfl)) (jv_name 9 rfl (Or.inr (Or.inl rfl)))) jl_nil)) jl_nil))))) (jw_or1 (jt_cmp (o_ne hp.u64) (jv_lenO (OwnK.m ⟨⟨Z.k_Rule, Z.cl_Rule⟩, hO_RuleU_lenU⟩) hp (by rfl) Z.f_len bt_len (jv_name 10 rfl (Or.inr (Or.inl rfl)))) (jv_name 8 rfl (Or.inl rfl)))))) (js_one (js_ret jv_bl)) js_nil)
    (js_cons (js_if (jt_not (jt_val (jv_c0 ⟨hF__law_are_rings_right⟩ hp (L2N.takes_of rfl rfl rfl rfl) nodd (by rfl) (jl_cons (jv_bin o_add jv_int (jv_c1 2 ⟨hF__law_draw⟩ hp (L2N.takes_of rfl rfl rfl rfl) nodd (by rfl) (by rfl) (Or.inl rfl) (jl_cons jv_int jl_nil))) (jl_cons (jv_bin o_add jv_int (jv_c1 2 ⟨hF__law_draw⟩ hp (L2N.takes_of rfl rfl rfl rfl) nodd (by rfl) (by rfl) (Or.inl rfl) (jl_cons jv_int jl_nil))) jl_nil))))) (js_one (js_ret jv_bl)) js_nil)
    (js_one (js_if (jt_not (jt_val (jv_c0 ⟨hF__law_are_rings_right⟩ hp (L2N.takes_of rfl rfl rfl rfl) nodd (by rfl) (jl_cons jv_int (jl_cons (jv_bin o_add jv_int (jv_bin o_mul jv_int (jv_c1 2 ⟨hF__law_draw⟩ hp (L2N.takes_of rfl rfl rfl rfl) nodd (by rfl) (by rfl) (Or.inl rfl) (jl_cons jv_int jl_nil)))) jl_nil))))) (js_one (js_ret jv_bl)) js_nil))))))))))))
    (js_one (js_ret jv_bl)))
theorem ok_law (Z : Tx K mg) (hF__law_pen : FnC P w K mg base 1 "_law_pen" (spF0 K mg true 1 f__law_pen) ["_law_cell"] []) (hF__law_cell_at : FnC P w K mg base 1 "_law_cell_at" (spF0 K mg false 2 f__law_cell_at) ["_law_script", "_law_k"] []) (hM_Rule_1_ : ∃ f fd g, Mk K (He.ga K "Rule") f ∧ FnG P w K mg base 5 f fd ["self", "table"] (spF1 K mg false 2 f_RuleU_initU) ∧ KBn K fd ["self", "table"] 2 [] g gV_Rule_1_) (hF__law_table : FnC P w K mg base 2 "_law_table" (spF1 K mg false 2 f__law_table) ["_law_pen_here", "_law_many"] []) (hF__law_draw : FnC P w K mg base 1 "_law_draw" (spF1 K mg false 2 f__law_draw) ["_law_pen_here", "_law_many"] []) (hP_rows : ∃ pp ga fd, PropOf K (He.ga K "Rule") "rows" pp ga ∧ FnOk P w K mg base CX0 1 ga fd ["self"] (getSp (He.ga K "Rule") "table") ∧ Binds K fd ["self"] []) (hF__law_odd : FnC P w K mg base 3 "_law_odd" (spF1 K mg false 1 f__law_odd) ["_law_pen_here"] []) (hF__law_words : FnC P w K mg base 11 "_law_words" (spF0 K mg false 2 f__law_words) ["_law_rule", "_law_bad"] []) (hT__law_said : TxtC K mg "_law_said" ["_law_call"] (defArgs st__law_said) (defBody st__law_said) (defScope st__law_said)) (hE__law_kindE : FnEC P w K mg base 1 "_law_kind" ["_law_e"] g__law_kindE) (hO_RuleU_addU : ∃ fa fd, Meth K (He.ga K "Rule") "__add__" fa ∧ FnG P w K mg base 8 fa fd ["self", "other"] (spF0 K mg false 2 f_RuleU_addU) ∧ Binds K fd ["self", "other"] []) (hF__law_same : FnC P w K mg base 1 "_law_same" (spF0 K mg false 2 f__law_same) ["_law_found", "_law_due"] []) (hF__law_chain : FnC P w K mg base 1 "_law_chain" (spF0 K mg false 1 f__law_chain) ["_law_many"] []) (hT__law_large : TxtC K mg "_law_large" ["_law_call"] (defArgs st__law_large) (defBody st__law_large) (defScope st__law_large)) (hO_RuleU_raddU : ∃ fa fd, Meth K (He.ga K "Rule") "__radd__" fa ∧ FnG P w K mg base 8 fa fd ["self", "other"] (spF0 K mg false 2 f_RuleU_raddU) ∧ Binds K fd ["self", "other"] []) (hO_RuleU_lenU : ∃ fa fd, Meth K (He.ga K "Rule") "__len__" fa ∧ FnG P w K mg base 1 fa fd ["self"] (spF0 K mg false 1 f_RuleU_lenU) ∧ Binds K fd ["self"] []) (hF__law_owed : FnC P w K mg base 1 "_law_owed" (spF0 K mg false 1 f__law_owed) ["_law_rows"] []) (hF__law_are_rings_right : FnC P w K mg base 11 "_law_are_rings_right" (spF0 K mg false 2 f__law_are_rings_right) ["_law_one", "_law_other"] []) {f : Addr} {fd : FuncData} {kws : List (Str × V)} (hLam : LamOk K mg base f (("law" ++ ".<locals>.") ++ "<lambda>")) (hcd : PySem.W.codeHdIn K (cTz K f).1 (cTz K f).2 = true) (G : FunD K "law" "law" (defArgs st_law) (defBody st_law) (defScope st_law) [] kws f fd) : FnG P w K mg base 12 f fd ["_law_script"] (spF0 K mg false 1 f_law) :=
  fn0L (P := P) (w := w) (mg := mg) (base := base) (ro := false) (s := b_law) (N := N_law) (ps := ["_law_script"]) rfl rfl G sc_law (code_of G hcd) fun A outer s0 H E hr hgu => d_law Z hF__law_pen hF__law_cell_at hM_Rule_1_ hF__law_table hF__law_draw hP_rows hF__law_odd hF__law_words hT__law_said hE__law_kindE hO_RuleU_addU hF__law_same hF__law_chain hT__law_large hO_RuleU_raddU hO_RuleU_lenU hF__law_owed hF__law_are_rings_right hLam hr hgu
end
end Lw
namespace Lw
open PySem hiding start
open PySem.Spec L2 Sr
open PyProof.Rows hiding St
section
variable [TabL] {P : Program} {w : World} {K : PySem.W.Frag} {h : Heap} {mg : Str → Option Value}
theorem tx_mk (X : K.In h) (G : h.Ns mainGlobals mg) (c : SaysZ fa fn ex K) : Tx K mg := by
  have hx : (cliB K "Rule" && (ownB K (.type "int") isl_int && (ownB K (.type "bool") isl_bool && (ownB K (.type "tuple") isl_tuple && (ownB K (.type "str") isl_str && (noKd K "Rule" && (ownB K (.ref (He.ga K "Rule")) isl_Rule && (xcB K "TooLarge" ["needed", "limit"] && (catB K (.ref (He.ga K "StatusError")) ctl_StatusError && (catB K (.ref (He.ga K "TooLarge")) ctl_TooLarge && (exsB K (.ref (He.ga K "TableError")) isE_TableError && (exsB K (.ref (He.ga K "ChecksError")) isE_ChecksError && (exsB K (.ref (He.ga K "RuleError")) isE_RuleError && (exsB K (.ref (He.ga K "NumberError")) isE_NumberError && (exsB K (.ref (He.ga K "LimitsError")) isE_LimitsError && (exsB K (.ref (He.ga K "StateError")) isE_StateError && (exsB K (.ref (He.ga K "SituationError")) isE_SituationError && (exsB K (.ref (He.ga K "FractionError")) isE_FractionError && (exsB K (.ref (He.ga K "RulesError")) isE_RulesError && (exsB K (.ref (He.ga K "StatusesError")) isE_StatusesError && (exsB K (.ref (He.ga K "NamesError")) isE_NamesError && (exsB K (.ref (He.ga K "SignsError")) isE_SignsError && (exsB K (.ref (He.ga K "UnknownName")) isE_UnknownName && (exsB K (.ref (He.ga K "MonitorError")) isE_MonitorError && (exsB K (.ref (He.ga K "NothingToUndo")) isE_NothingToUndo && (exsB K (.ref (He.ga K "DataError")) isE_DataError && (exsB K (.ref (He.ga K "TooLarge")) isE_TooLarge && (exsB K (.ref (He.ga K "TextError")) isE_TextError && (exsB K (.type "ValueError") isE_ValueError && (exsB K (.ref (He.ga K "StatusError")) isE_StatusError && (PySem.W.selfFirst K (He.ga K "Rule") && (numXB K "Rule" && (isR (PySem.W.findIn K (.ref (He.ga K "Rule")) "__rand__") && (isR (PySem.W.findIn K (.ref (He.ga K "Rule")) "__ror__") && (isR (PySem.W.findIn K (.ref (He.ga K "Rule")) "__radd__") && (isRs (PySem.W.findIn K (.ref (He.ga K "Rule")) "__add__") && (propB K "Rule" "rows"))))))))))))))))))))))))))))))))))))) = true := c.all.2.2
  simp only [Bool.and_eq_true] at hx
  obtain ⟨hx0, hx1, hx2, hx3, hx4, hx5, hx6, hx7, hx8, hx9, hx10, hx11, hx12, hx13, hx14, hx15, hx16, hx17, hx18, hx19, hx20, hx21, hx22, hx23, hx24, hx25, hx26, hx27, hx28, hx29, hx30, hx31, hx32, hx33, hx34, hx35, hx36⟩ := hx
  have hI_int : ∀ q ∈ isl_int, ClI K mg q.1 (He.ga K q.1) := by
    intro q hq
    simp only [isl_int, List.mem_cons, List.not_mem_nil, or_false] at hq
    subst hq
    exact cliB_ok ⟨He.glo_ok X G (c.fact 18), He.cls_ok (c.fact 19)⟩ hx0
  have hI_bool : ∀ q ∈ isl_bool, ClI K mg q.1 (He.ga K q.1) := by
    intro q hq
    simp only [isl_bool, List.mem_cons, List.not_mem_nil, or_false] at hq
    subst hq
    exact cliB_ok ⟨He.glo_ok X G (c.fact 18), He.cls_ok (c.fact 19)⟩ hx0
  have hI_tuple : ∀ q ∈ isl_tuple, ClI K mg q.1 (He.ga K q.1) := by
    intro q hq
    simp only [isl_tuple, List.mem_cons, List.not_mem_nil, or_false] at hq
    subst hq
    exact cliB_ok ⟨He.glo_ok X G (c.fact 18), He.cls_ok (c.fact 19)⟩ hx0
  have hI_str : ∀ q ∈ isl_str, ClI K mg q.1 (He.ga K q.1) := by
    intro q hq
    simp only [isl_str, List.mem_cons, List.not_mem_nil, or_false] at hq
    subst hq
    exact cliB_ok ⟨He.glo_ok X G (c.fact 18), He.cls_ok (c.fact 19)⟩ hx0
  have hI_Rule : ∀ q ∈ isl_Rule, ClI K mg q.1 (He.ga K q.1) := by
    intro q hq
    simp only [isl_Rule, List.mem_cons, List.not_mem_nil, or_false] at hq
    subst hq
    exact cliB_ok ⟨He.glo_ok X G (c.fact 18), He.cls_ok (c.fact 19)⟩ hx0
  exact ⟨He.free_ok X G (c.fact 0), He.free_ok X G (c.fact 1), He.free_ok X G (c.fact 2), He.free_ok X G (c.fact 3), He.free_ok X G (c.fact 4), He.free_ok X G (c.fact 5), He.free_ok X G (c.fact 6), He.str_ok X G (c.fact 7), He.str_ok X G (c.fact 8), He.int_ok X G (c.fact 9), He.free_ok X G (c.fact 10), He.free_ok X G (c.fact 11), He.free_ok X G (c.fact 12), He.free_ok X G (c.fact 13), He.free_ok X G (c.fact 14), He.int_ok X G (c.fact 15), He.free_ok X G (c.fact 16), He.free_ok X G (c.fact 17), He.glo_ok X G (c.fact 18), He.cls_ok (c.fact 19), He.glo_ok X G (c.fact 20), He.glo_ok X G (c.fact 21), He.glo_ok X G (c.fact 22), He.glo_ok X G (c.fact 23), He.glo_ok X G (c.fact 24), He.glo_ok X G (c.fact 25), He.glo_ok X G (c.fact 26), He.glo_ok X G (c.fact 27), He.glo_ok X G (c.fact 28), He.glo_ok X G (c.fact 29), He.glo_ok X G (c.fact 30), He.glo_ok X G (c.fact 31), He.glo_ok X G (c.fact 32), He.glo_ok X G (c.fact 33), He.glo_ok X G (c.fact 34), He.glo_ok X G (c.fact 35), He.glo_ok X G (c.fact 36), He.glo_ok X G (c.fact 37), He.glo_ok X G (c.fact 38), He.noat_ok (c.fact 39), isi_of tInt_ok (ownB_ok hx1 hI_int), isi_of tBool_ok (ownB_ok hx2 hI_bool), isi_of tTuple_ok (ownB_ok hx3 hI_tuple), isi_of tStr_ok (ownB_ok hx4 hI_str), isi_of (noKd_ok hx5) (ownB_ok hx6 hI_Rule), rai_of (He.glo_ok X G (c.fact 20)) (c.fact 40), rai_of (He.glo_ok X G (c.fact 22)) (c.fact 41), rai_of (He.glo_ok X G (c.fact 23)) (c.fact 42), xcB_ok hx7, xfE_of (xcB_ok hx7) (He.glo_ok X G (c.fact 36)) (by decide), xfE_of (xcB_ok hx7) (He.glo_ok X G (c.fact 36)) (by decide), cat_of hx8 (by intro q hq; simp only [ctl_StatusError, List.mem_cons, List.not_mem_nil, or_false] at hq; rcases hq with rfl | rfl | rfl | rfl <;> first | exact He.glo_ok X G (c.fact 20) | exact He.glo_ok X G (c.fact 22) | exact He.glo_ok X G (c.fact 23) | exact He.glo_ok X G (c.fact 36)), cat_of hx9 (by intro q hq; simp only [ctl_TooLarge, List.mem_cons, List.not_mem_nil, or_false] at hq; rcases hq with rfl | rfl | rfl | rfl <;> first | exact He.glo_ok X G (c.fact 20) | exact He.glo_ok X G (c.fact 22) | exact He.glo_ok X G (c.fact 23) | exact He.glo_ok X G (c.fact 36)), isE_of hx10 (by intro q hq; simp only [isE_TableError, List.mem_cons, List.not_mem_nil, or_false] at hq; rcases hq with rfl | rfl | rfl | rfl <;> first | exact He.glo_ok X G (c.fact 20) | exact He.glo_ok X G (c.fact 22) | exact He.glo_ok X G (c.fact 23) | exact He.glo_ok X G (c.fact 36)), isE_of hx11 (by intro q hq; simp only [isE_ChecksError, List.mem_cons, List.not_mem_nil, or_false] at hq; rcases hq with rfl | rfl | rfl | rfl <;> first | exact He.glo_ok X G (c.fact 20) | exact He.glo_ok X G (c.fact 22) | exact He.glo_ok X G (c.fact 23) | exact He.glo_ok X G (c.fact 36)), isE_of hx12 (by intro q hq; simp only [isE_RuleError, List.mem_cons, List.not_mem_nil, or_false] at hq; rcases hq with rfl | rfl | rfl | rfl <;> first | exact He.glo_ok X G (c.fact 20) | exact He.glo_ok X G (c.fact 22) | exact He.glo_ok X G (c.fact 23) | exact He.glo_ok X G (c.fact 36)), isE_of hx13 (by intro q hq; simp only [isE_NumberError, List.mem_cons, List.not_mem_nil, or_false] at hq; rcases hq with rfl | rfl | rfl | rfl <;> first | exact He.glo_ok X G (c.fact 20) | exact He.glo_ok X G (c.fact 22) | exact He.glo_ok X G (c.fact 23) | exact He.glo_ok X G (c.fact 36)), isE_of hx14 (by intro q hq; simp only [isE_LimitsError, List.mem_cons, List.not_mem_nil, or_false] at hq; rcases hq with rfl | rfl | rfl | rfl <;> first | exact He.glo_ok X G (c.fact 20) | exact He.glo_ok X G (c.fact 22) | exact He.glo_ok X G (c.fact 23) | exact He.glo_ok X G (c.fact 36)), isE_of hx15 (by intro q hq; simp only [isE_StateError, List.mem_cons, List.not_mem_nil, or_false] at hq; rcases hq with rfl | rfl | rfl | rfl <;> first | exact He.glo_ok X G (c.fact 20) | exact He.glo_ok X G (c.fact 22) | exact He.glo_ok X G (c.fact 23) | exact He.glo_ok X G (c.fact 36)), isE_of hx16 (by intro q hq; simp only [isE_SituationError, List.mem_cons, List.not_mem_nil, or_false] at hq; rcases hq with rfl | rfl | rfl | rfl <;> first | exact He.glo_ok X G (c.fact 20) | exact He.glo_ok X G (c.fact 22) | exact He.glo_ok X G (c.fact 23) | exact He.glo_ok X G (c.fact 36)), isE_of hx17 (by intro q hq; simp only [isE_FractionError, List.mem_cons, List.not_mem_nil, or_false] at hq; rcases hq with rfl | rfl | rfl | rfl <;> first | exact He.glo_ok X G (c.fact 20) | exact He.glo_ok X G (c.fact 22) | exact He.glo_ok X G (c.fact 23) | exact He.glo_ok X G (c.fact 36)), isE_of hx18 (by intro q hq; simp only [isE_RulesError, List.mem_cons, List.not_mem_nil, or_false] at hq; rcases hq with rfl | rfl | rfl | rfl <;> first | exact He.glo_ok X G (c.fact 20) | exact He.glo_ok X G (c.fact 22) | exact He.glo_ok X G (c.fact 23) | exact He.glo_ok X G (c.fact 36)), isE_of hx19 (by intro q hq; simp only [isE_StatusesError, List.mem_cons, List.not_mem_nil, or_false] at hq; rcases hq with rfl | rfl | rfl | rfl <;> first | exact He.glo_ok X G (c.fact 20) | exact He.glo_ok X G (c.fact 22) | exact He.glo_ok X G (c.fact 23) | exact He.glo_ok X G (c.fact 36)), isE_of hx20 (by intro q hq; simp only [isE_NamesError, List.mem_cons, List.not_mem_nil, or_false] at hq; rcases hq with rfl | rfl | rfl | rfl <;> first | exact He.glo_ok X G (c.fact 20) | exact He.glo_ok X G (c.fact 22) | exact He.glo_ok X G (c.fact 23) | exact He.glo_ok X G (c.fact 36)), isE_of hx21 (by intro q hq; simp only [isE_SignsError, List.mem_cons, List.not_mem_nil, or_false] at hq; rcases hq with rfl | rfl | rfl | rfl <;> first | exact He.glo_ok X G (c.fact 20) | exact He.glo_ok X G (c.fact 22) | exact He.glo_ok X G (c.fact 23) | exact He.glo_ok X G (c.fact 36)), isE_of hx22 (by intro q hq; simp only [isE_UnknownName, List.mem_cons, List.not_mem_nil, or_false] at hq; rcases hq with rfl | rfl | rfl | rfl <;> first | exact He.glo_ok X G (c.fact 20) | exact He.glo_ok X G (c.fact 22) | exact He.glo_ok X G (c.fact 23) | exact He.glo_ok X G (c.fact 36)), isE_of hx23 (by intro q hq; simp only [isE_MonitorError, List.mem_cons, List.not_mem_nil, or_false] at hq; rcases hq with rfl | rfl | rfl | rfl <;> first | exact He.glo_ok X G (c.fact 20) | exact He.glo_ok X G (c.fact 22) | exact He.glo_ok X G (c.fact 23) | exact He.glo_ok X G (c.fact 36)), isE_of hx24 (by intro q hq; simp only [isE_NothingToUndo, List.mem_cons, List.not_mem_nil, or_false] at hq; rcases hq with rfl | rfl | rfl | rfl <;> first | exact He.glo_ok X G (c.fact 20) | exact He.glo_ok X G (c.fact 22) | exact He.glo_ok X G (c.fact 23) | exact He.glo_ok X G (c.fact 36)), isE_of hx25 (by intro q hq; simp only [isE_DataError, List.mem_cons, List.not_mem_nil, or_false] at hq; rcases hq with rfl | rfl | rfl | rfl <;> first | exact He.glo_ok X G (c.fact 20) | exact He.glo_ok X G (c.fact 22) | exact He.glo_ok X G (c.fact 23) | exact He.glo_ok X G (c.fact 36)), isE_of hx26 (by intro q hq; simp only [isE_TooLarge, List.mem_cons, List.not_mem_nil, or_false] at hq; rcases hq with rfl | rfl | rfl | rfl <;> first | exact He.glo_ok X G (c.fact 20) | exact He.glo_ok X G (c.fact 22) | exact He.glo_ok X G (c.fact 23) | exact He.glo_ok X G (c.fact 36)), isE_of hx27 (by intro q hq; simp only [isE_TextError, List.mem_cons, List.not_mem_nil, or_false] at hq; rcases hq with rfl | rfl | rfl | rfl <;> first | exact He.glo_ok X G (c.fact 20) | exact He.glo_ok X G (c.fact 22) | exact He.glo_ok X G (c.fact 23) | exact He.glo_ok X G (c.fact 36)), isE_of hx28 (by intro q hq; simp only [isE_ValueError, List.mem_cons, List.not_mem_nil, or_false] at hq; rcases hq with rfl | rfl | rfl | rfl <;> first | exact He.glo_ok X G (c.fact 20) | exact He.glo_ok X G (c.fact 22) | exact He.glo_ok X G (c.fact 23) | exact He.glo_ok X G (c.fact 36)), isE_of hx29 (by intro q hq; simp only [isE_StatusError, List.mem_cons, List.not_mem_nil, or_false] at hq; rcases hq with rfl | rfl | rfl | rfl <;> first | exact He.glo_ok X G (c.fact 20) | exact He.glo_ok X G (c.fact 22) | exact He.glo_ok X G (c.fact 23) | exact He.glo_ok X G (c.fact 36)), hx30, hx31, hx32, hx33, hx34, hx35⟩
theorem all_mk {fl : Addr} (X : K.In h) (G : h.Ns mainGlobals mg) (hl : mg "law" = some (.ref fl)) (c : SaysZ fa fn ex K) (hPw : P = TabL.P ∧ w = TabL.w) (t : TabsZ tf h K) (hlt : TabL.l = tlZ K tf) : ∃ fd : FuncData, (∀ (s : Shared) (v : Value), BindsTo s fd ⟨[v], []⟩ [("_law_script", v)]) ∧ ∀ base : Heap, (∀ p ∈ tabsZ K tf, LamX.TabB base mg p.1 p.2) → FnG P w K mg base 12 fl fd ["_law_script"] (spF0 K mg false 1 f_law) := by
  have Z : Tx K mg := tx_mk X G c
  have hx : (cliB K "Rule" && (ownB K (.type "int") isl_int && (ownB K (.type "bool") isl_bool && (ownB K (.type "tuple") isl_tuple && (ownB K (.type "str") isl_str && (noKd K "Rule" && (ownB K (.ref (He.ga K "Rule")) isl_Rule && (xcB K "TooLarge" ["needed", "limit"] && (catB K (.ref (He.ga K "StatusError")) ctl_StatusError && (catB K (.ref (He.ga K "TooLarge")) ctl_TooLarge && (exsB K (.ref (He.ga K "TableError")) isE_TableError && (exsB K (.ref (He.ga K "ChecksError")) isE_ChecksError && (exsB K (.ref (He.ga K "RuleError")) isE_RuleError && (exsB K (.ref (He.ga K "NumberError")) isE_NumberError && (exsB K (.ref (He.ga K "LimitsError")) isE_LimitsError && (exsB K (.ref (He.ga K "StateError")) isE_StateError && (exsB K (.ref (He.ga K "SituationError")) isE_SituationError && (exsB K (.ref (He.ga K "FractionError")) isE_FractionError && (exsB K (.ref (He.ga K "RulesError")) isE_RulesError && (exsB K (.ref (He.ga K "StatusesError")) isE_StatusesError && (exsB K (.ref (He.ga K "NamesError")) isE_NamesError && (exsB K (.ref (He.ga K "SignsError")) isE_SignsError && (exsB K (.ref (He.ga K "UnknownName")) isE_UnknownName && (exsB K (.ref (He.ga K "MonitorError")) isE_MonitorError && (exsB K (.ref (He.ga K "NothingToUndo")) isE_NothingToUndo && (exsB K (.ref (He.ga K "DataError")) isE_DataError && (exsB K (.ref (He.ga K "TooLarge")) isE_TooLarge && (exsB K (.ref (He.ga K "TextError")) isE_TextError && (exsB K (.type "ValueError") isE_ValueError && (exsB K (.ref (He.ga K "StatusError")) isE_StatusError && (PySem.W.selfFirst K (He.ga K "Rule") && (numXB K "Rule" && (isR (PySem.W.findIn K (.ref (He.ga K "Rule")) "__rand__") && (isR (PySem.W.findIn K (.ref (He.ga K "Rule")) "__ror__") && (isR (PySem.W.findIn K (.ref (He.ga K "Rule")) "__radd__") && (isRs (PySem.W.findIn K (.ref (He.ga K "Rule")) "__add__") && (propB K "Rule" "rows"))))))))))))))))))))))))))))))))))))) = true := c.all.2.2
  simp only [Bool.and_eq_true] at hx
  obtain ⟨hx0, hx1, hx2, hx3, hx4, hx5, hx6, hx7, hx8, hx9, hx10, hx11, hx12, hx13, hx14, hx15, hx16, hx17, hx18, hx19, hx20, hx21, hx22, hx23, hx24, hx25, hx26, hx27, hx28, hx29, hx30, hx31, hx32, hx33, hx34, hx35, hx36⟩ := hx
  obtain ⟨fd__law_pen, G__law_pen⟩ := c.def_ 0 (d := dz__law_pen)
  obtain ⟨fd__law_cell_at, G__law_cell_at⟩ := c.def_ 1 (d := dz__law_cell_at)
  obtain ⟨fd_is_integer, G_is_integer⟩ := c.def_ 2 (d := dz_is_integer)
  obtain ⟨fd_is_between, G_is_between⟩ := c.def_ 3 (d := dz_is_between)
  obtain ⟨fd_is_row, G_is_row⟩ := c.def_ 4 (d := dz_is_row)
  obtain ⟨fd_is_table, G_is_table⟩ := c.def_ 5 (d := dz_is_table)
  obtain ⟨fd_row_classes, G_row_classes⟩ := c.def_ 6 (d := dz_row_classes)
  obtain ⟨fd_reached, G_reached⟩ := c.def_ 7 (d := dz_reached)
  obtain ⟨fd_smallest, G_smallest⟩ := c.def_ 8 (d := dz_smallest)
  obtain ⟨fd_RuleU_initU, G_RuleU_initU⟩ := c.def_ 9 (d := dz_RuleU_initU)
  obtain ⟨fd__law_draw, G__law_draw⟩ := c.def_ 10 (d := dz__law_draw)
  obtain ⟨fd__law_table, G__law_table⟩ := c.def_ 11 (d := dz__law_table)
  obtain ⟨fd__law_pick, G__law_pick⟩ := c.def_ 12 (d := dz__law_pick)
  obtain ⟨fd__law_odd, G__law_odd⟩ := c.def_ 13 (d := dz__law_odd)
  obtain ⟨fd__law_kindE, G__law_kindE⟩ := c.def_ 14 (d := dz__law_kindE)
  obtain ⟨fd_check_rule, G_check_rule⟩ := c.def_ 15 (d := dz_check_rule)
  obtain ⟨fd_made, G_made⟩ := c.def_ 16 (d := dz_made)
  obtain ⟨fd_joined, G_joined⟩ := c.def_ 17 (d := dz_joined)
  obtain ⟨fd_RuleU_andU, G_RuleU_andU⟩ := c.def_ 18 (d := dz_RuleU_andU)
  obtain ⟨fd_RuleU_orU, G_RuleU_orU⟩ := c.def_ 19 (d := dz_RuleU_orU)
  obtain ⟨fd_check_number, G_check_number⟩ := c.def_ 20 (d := dz_check_number)
  obtain ⟨fd_held_place, G_held_place⟩ := c.def_ 21 (d := dz_held_place)
  obtain ⟨fd_held, G_held⟩ := c.def_ 22 (d := dz_held)
  obtain ⟨fd_RuleU_addU, G_RuleU_addU⟩ := c.def_ 23 (d := dz_RuleU_addU)
  obtain ⟨fd_ignoring, G_ignoring⟩ := c.def_ 24 (d := dz_ignoring)
  obtain ⟨fd_RuleU_raddU, G_RuleU_raddU⟩ := c.def_ 25 (d := dz_RuleU_raddU)
  obtain ⟨fd__law_words, G__law_words⟩ := c.def_ 26 (d := dz__law_words)
  obtain ⟨fd__law_same, G__law_same⟩ := c.def_ 27 (d := dz__law_same)
  obtain ⟨fd__law_chain, G__law_chain⟩ := c.def_ 28 (d := dz__law_chain)
  obtain ⟨fd_RuleU_lenU, G_RuleU_lenU⟩ := c.def_ 29 (d := dz_RuleU_lenU)
  obtain ⟨fd__law_owed, G__law_owed⟩ := c.def_ 30 (d := dz__law_owed)
  obtain ⟨fd__law_ring, G__law_ring⟩ := c.def_ 31 (d := dz__law_ring)
  obtain ⟨fd__law_period, G__law_period⟩ := c.def_ 32 (d := dz__law_period)
  obtain ⟨fd__law_are_rings_right, G__law_are_rings_right⟩ := c.def_ 33 (d := dz__law_are_rings_right)
  obtain ⟨fd_law, G_law⟩ := c.def_ 34 (d := dz_law)
  obtain ⟨fd__law_said, G__law_said⟩ := c.def_ 36 (d := dz__law_said)
  obtain ⟨fd__law_large, G__law_large⟩ := c.def_ 37 (d := dz__law_large)
  obtain ⟨fd_TooLargeU_initU, G_TooLargeU_initU⟩ := c.def_ 38 (d := dz_TooLargeU_initU)
  obtain ⟨fd_Rule_rows, G_Rule_rows⟩ := c.def_ 35 (d := dz_Rule_rows)
  have e := hl.symm.trans (He.glo_ok X G (c.fact 77))
  cases e
  refine ⟨fd_law, fun s v => FunD.bindsA (ps := ["_law_script"]) G_law (fun _ _ _ _ _ _ us hl => match us, hl with | [_], _ => rfl) s [v] rfl, fun base hTB => ?_⟩
  have hLam__law_words : LamOk K mg base (dz__law_words.ad K) (lamQ dz__law_words) := lamOk_of t hlt hTB 0
  have hcd__law_words := t.hd dz__law_words (List.mem_of_getElem? (i := 0) rfl)
  have hLam__law_are_rings_right : LamOk K mg base (dz__law_are_rings_right.ad K) (lamQ dz__law_are_rings_right) := lamOk_of t hlt hTB 1
  have hcd__law_are_rings_right := t.hd dz__law_are_rings_right (List.mem_of_getElem? (i := 1) rfl)
  have hLam_law : LamOk K mg base (dz_law.ad K) (lamQ dz_law) := lamOk_of t hlt hTB 2
  have hcd_law := t.hd dz_law (List.mem_of_getElem? (i := 2) rfl)
  have hT__law_said : TxtC K mg "_law_said" ["_law_call"] (defArgs st__law_said) (defBody st__law_said) (defScope st__law_said) := ⟨_, fd__law_said, G__law_said, He.glo_ok X G (c.fact 78), G__law_said.kp, G__law_said.bindsN fun _ _ _ _ _ _ us hl => (match us, hl with | [_], _ => rfl)⟩
  have hT__law_large : TxtC K mg "_law_large" ["_law_call"] (defArgs st__law_large) (defBody st__law_large) (defScope st__law_large) := ⟨_, fd__law_large, G__law_large, He.glo_ok X G (c.fact 79), G__law_large.kp, G__law_large.bindsN fun _ _ _ _ _ _ us hl => (match us, hl with | [_], _ => rfl)⟩
  have hP_rows : ∃ pp ga fd, PropOf K (He.ga K "Rule") "rows" pp ga ∧ FnOk P w K mg base CX0 1 ga fd ["self"] (getSp (He.ga K "Rule") "table") ∧ Binds K fd ["self"] [] := ⟨_, _, fd_Rule_rows, propB_ok hx36, fn_get G_Rule_rows Z.cl_Rule Z.n_Rule_table ⟨rfl, rfl, rfl, by decide +kernel, rfl, by decide +kernel, by decide +kernel⟩ rfl, G_Rule_rows.bindsN fun _ _ _ _ _ _ us hl => match us, hl with | [_], _ => rfl⟩
  have hX_TooLarge : RaiX P w K mg base 1 "TooLarge" ["needed", "limit"] := ⟨_, _, fd_TooLargeU_initU, _, _, He.glo_ok X G (c.fact 36), Z.xc_TooLarge.o, Z.xc_TooLarge.i, Z.xc_TooLarge.t, ok_TooLargeU_initU Z G_TooLargeU_initU, xini2, G_TooLargeU_initU.bindsN fun _ _ _ _ _ _ us hl => (match us, hl with | [_, _, _], _ => rfl)⟩
  have hG__law_pen : FnG P w K mg base 1 _ fd__law_pen ["_law_cell"] (spF0 K mg true 1 f__law_pen) := ok__law_pen Z  G__law_pen
  have hF__law_pen : FnC P w K mg base 1 "_law_pen" (spF0 K mg true 1 f__law_pen) ["_law_cell"] [] := ⟨_, _, [], hG__law_pen, He.glo_ok X G (c.fact 49), G__law_pen.kp, G__law_pen.bindsN fun _ _ _ _ _ _ us hl => (match us, hl with | [_], _ => rfl), .nil⟩
  have hG__law_cell_at : FnG P w K mg base 1 _ fd__law_cell_at ["_law_script", "_law_k"] (spF0 K mg false 2 f__law_cell_at) := ok__law_cell_at Z  G__law_cell_at
  have hF__law_cell_at : FnC P w K mg base 1 "_law_cell_at" (spF0 K mg false 2 f__law_cell_at) ["_law_script", "_law_k"] [] := ⟨_, _, [], hG__law_cell_at, He.glo_ok X G (c.fact 50), G__law_cell_at.kp, G__law_cell_at.bindsN fun _ _ _ _ _ _ us hl => (match us, hl with | [_, _], _ => rfl), .nil⟩
  have hG_is_integer : FnG P w K mg base 1 _ fd_is_integer ["value"] (spF0 K mg false 1 f_is_integer) := ok_is_integer Z  G_is_integer
  have hF_is_integer : FnC P w K mg base 1 "is_integer" (spF0 K mg false 1 f_is_integer) ["value"] [] := ⟨_, _, [], hG_is_integer, He.glo_ok X G (c.fact 51), G_is_integer.kp, G_is_integer.bindsN fun _ _ _ _ _ _ us hl => (match us, hl with | [_], _ => rfl), .nil⟩
  have hG_is_between : FnG P w K mg base 2 _ fd_is_between ["value", "low", "high"] (spF0 K mg false 3 f_is_between) := ok_is_between Z hF_is_integer G_is_between
  have hF_is_between : FnC P w K mg base 2 "is_between" (spF0 K mg false 3 f_is_between) ["value", "low", "high"] [] := ⟨_, _, [], hG_is_between, He.glo_ok X G (c.fact 52), G_is_between.kp, G_is_between.bindsN fun _ _ _ _ _ _ us hl => (match us, hl with | [_, _, _], _ => rfl), .nil⟩
  have hG_is_row : FnG P w K mg base 3 _ fd_is_row ["value", "count"] (spF0 K mg false 2 f_is_row) := ok_is_row Z hF_is_between G_is_row
  have hF_is_row : FnC P w K mg base 3 "is_row" (spF0 K mg false 2 f_is_row) ["value", "count"] [] := ⟨_, _, [], hG_is_row, He.glo_ok X G (c.fact 53), G_is_row.kp, G_is_row.bindsN fun _ _ _ _ _ _ us hl => (match us, hl with | [_, _], _ => rfl), .nil⟩
  have hG_is_table : FnG P w K mg base 4 _ fd_is_table ["value"] (spF0 K mg false 1 f_is_table) := ok_is_table Z hF_is_row G_is_table
  have hF_is_table : FnC P w K mg base 4 "is_table" (spF0 K mg false 1 f_is_table) ["value"] [] := ⟨_, _, [], hG_is_table, He.glo_ok X G (c.fact 54), G_is_table.kp, G_is_table.bindsN fun _ _ _ _ _ _ us hl => (match us, hl with | [_], _ => rfl), .nil⟩
  have hG_row_classes : FnG P w K mg base 1 _ fd_row_classes ["rows"] (spF0 K mg false 1 f_row_classes) := ok_row_classes Z  G_row_classes
  have hF_row_classes : FnC P w K mg base 1 "row_classes" (spF0 K mg false 1 f_row_classes) ["rows"] [] := ⟨_, _, [], hG_row_classes, He.glo_ok X G (c.fact 55), G_row_classes.kp, G_row_classes.bindsN fun _ _ _ _ _ _ us hl => (match us, hl with | [_], _ => rfl), .nil⟩
  have hG_reached : FnG P w K mg base 1 _ fd_reached ["rows", "start"] (spF0 K mg false 2 f_reached) := ok_reached Z  G_reached
  have hF_reached : FnC P w K mg base 1 "reached" (spF0 K mg false 2 f_reached) ["rows", "start"] [] := ⟨_, _, [], hG_reached, He.glo_ok X G (c.fact 56), G_reached.kp, G_reached.bindsN fun _ _ _ _ _ _ us hl => (match us, hl with | [_, _], _ => rfl), .nil⟩
  have hG_smallest : FnG P w K mg base 2 _ fd_smallest ["rows", "start"] (spF0 K mg false 2 f_smallest) := ok_smallest Z hF_row_classes hF_reached G_smallest
  have hF_smallest : FnC P w K mg base 2 "smallest" (spF0 K mg false 2 f_smallest) ["rows", "start"] [] := ⟨_, _, [], hG_smallest, He.glo_ok X G (c.fact 57), G_smallest.kp, G_smallest.bindsN fun _ _ _ _ _ _ us hl => (match us, hl with | [_, _], _ => rfl), .nil⟩
  have hG_RuleU_initU : FnG P w K mg base 5 _ fd_RuleU_initU ["self", "table"] (spF1 K mg false 2 f_RuleU_initU) := ok_RuleU_initU Z hF_is_table hF_smallest G_RuleU_initU
  have hM_Rule_1_ : ∃ f fd g, Mk K (He.ga K "Rule") f ∧ FnG P w K mg base 5 f fd ["self", "table"] (spF1 K mg false 2 f_RuleU_initU) ∧ KBn K fd ["self", "table"] 2 [] g gV_Rule_1_ := ⟨_, _, _, He.mkr_ok (c.fact 48), hG_RuleU_initU, kbn0 (G_RuleU_initU.bindsN fun _ _ _ _ _ _ us hl => match us, hl with | [_, _], _ => rfl)⟩
  have hG__law_draw : FnG P w K mg base 1 _ fd__law_draw ["_law_pen_here", "_law_many"] (spF1 K mg false 2 f__law_draw) := ok__law_draw Z  G__law_draw
  have hF__law_draw : FnC P w K mg base 1 "_law_draw" (spF1 K mg false 2 f__law_draw) ["_law_pen_here", "_law_many"] [] := ⟨_, _, [], hG__law_draw, He.glo_ok X G (c.fact 58), G__law_draw.kp, G__law_draw.bindsN fun _ _ _ _ _ _ us hl => (match us, hl with | [_, _], _ => rfl), .nil⟩
  have hG__law_table : FnG P w K mg base 2 _ fd__law_table ["_law_pen_here", "_law_many"] (spF1 K mg false 2 f__law_table) := ok__law_table Z hF__law_draw G__law_table
  have hF__law_table : FnC P w K mg base 2 "_law_table" (spF1 K mg false 2 f__law_table) ["_law_pen_here", "_law_many"] [] := ⟨_, _, [], hG__law_table, He.glo_ok X G (c.fact 59), G__law_table.kp, G__law_table.bindsN fun _ _ _ _ _ _ us hl => (match us, hl with | [_, _], _ => rfl), .nil⟩
  have hG__law_pick : FnG P w K mg base 2 _ fd__law_pick ["_law_pen_here", "_law_values"] (spF1 K mg false 2 f__law_pick) := ok__law_pick Z hF__law_draw G__law_pick
  have hF__law_pick : FnC P w K mg base 2 "_law_pick" (spF1 K mg false 2 f__law_pick) ["_law_pen_here", "_law_values"] [] := ⟨_, _, [], hG__law_pick, He.glo_ok X G (c.fact 60), G__law_pick.kp, G__law_pick.bindsN fun _ _ _ _ _ _ us hl => (match us, hl with | [_, _], _ => rfl), .nil⟩
  have hG__law_odd : FnG P w K mg base 3 _ fd__law_odd ["_law_pen_here"] (spF1 K mg false 1 f__law_odd) := ok__law_odd Z hF__law_pick G__law_odd
  have hF__law_odd : FnC P w K mg base 3 "_law_odd" (spF1 K mg false 1 f__law_odd) ["_law_pen_here"] [] := ⟨_, _, [], hG__law_odd, He.glo_ok X G (c.fact 61), G__law_odd.kp, G__law_odd.bindsN fun _ _ _ _ _ _ us hl => (match us, hl with | [_], _ => rfl), .nil⟩
  have hE__law_kindE : FnEC P w K mg base 1 "_law_kind" ["_law_e"] g__law_kindE := ⟨_, fd__law_kindE, ok__law_kindE Z  G__law_kindE, He.glo_ok X G (c.fact 62), G__law_kindE.kp, G__law_kindE.bindsN fun _ _ _ _ _ _ us hl => (match us, hl with | [_], _ => rfl)⟩
  have hG_check_rule : FnG P w K mg base 1 _ fd_check_rule ["value"] (spF0 K mg false 1 f_check_rule) := ok_check_rule Z  G_check_rule
  have hF_check_rule : FnC P w K mg base 1 "check_rule" (spF0 K mg false 1 f_check_rule) ["value"] [] := ⟨_, _, [], hG_check_rule, He.glo_ok X G (c.fact 63), G_check_rule.kp, G_check_rule.bindsN fun _ _ _ _ _ _ us hl => (match us, hl with | [_], _ => rfl), .nil⟩
  have hG_made : FnG P w K mg base 7 _ fd_made ["rows", "start"] (spF0 K mg false 2 f_made) := ok_made Z hF_smallest hX_TooLarge hM_Rule_1_ G_made
  have hF_made : FnC P w K mg base 7 "made" (spF0 K mg false 2 f_made) ["rows", "start"] [] := ⟨_, _, [], hG_made, He.glo_ok X G (c.fact 64), G_made.kp, G_made.bindsN fun _ _ _ _ _ _ us hl => (match us, hl with | [_, _], _ => rfl), .nil⟩
  have hG_joined : FnG P w K mg base 1 _ fd_joined ["one", "other", "is_both"] (spF0 K mg false 3 f_joined) := ok_joined Z  G_joined
  have hF_joined : FnC P w K mg base 1 "joined" (spF0 K mg false 3 f_joined) ["one", "other", "is_both"] [] := ⟨_, _, [], hG_joined, He.glo_ok X G (c.fact 65), G_joined.kp, G_joined.bindsN fun _ _ _ _ _ _ us hl => (match us, hl with | [_, _, _], _ => rfl), .nil⟩
  have hG_RuleU_andU : FnG P w K mg base 8 _ fd_RuleU_andU ["self", "other"] (spF0 K mg false 2 f_RuleU_andU) := ok_RuleU_andU Z hF_check_rule hF_made hF_joined G_RuleU_andU
  have hO_RuleU_andU : ∃ fa fd, Meth K (He.ga K "Rule") "__and__" fa ∧ FnG P w K mg base 8 fa fd ["self", "other"] (spF0 K mg false 2 f_RuleU_andU) ∧ Binds K fd ["self", "other"] [] := ⟨_, _, He.meth_ok (c.fact 43), hG_RuleU_andU, G_RuleU_andU.bindsN fun _ _ _ _ _ _ us hl => (match us, hl with | [_, _], _ => rfl)⟩
  have hG_RuleU_orU : FnG P w K mg base 8 _ fd_RuleU_orU ["self", "other"] (spF0 K mg false 2 f_RuleU_orU) := ok_RuleU_orU Z hF_check_rule hF_made hF_joined G_RuleU_orU
  have hO_RuleU_orU : ∃ fa fd, Meth K (He.ga K "Rule") "__or__" fa ∧ FnG P w K mg base 8 fa fd ["self", "other"] (spF0 K mg false 2 f_RuleU_orU) ∧ Binds K fd ["self", "other"] [] := ⟨_, _, He.meth_ok (c.fact 44), hG_RuleU_orU, G_RuleU_orU.bindsN fun _ _ _ _ _ _ us hl => (match us, hl with | [_, _], _ => rfl)⟩
  have hG_check_number : FnG P w K mg base 3 _ fd_check_number ["value", "low", "high"] (spF0 K mg false 3 f_check_number) := ok_check_number Z hF_is_between G_check_number
  have hF_check_number : FnC P w K mg base 3 "check_number" (spF0 K mg false 3 f_check_number) ["value", "low", "high"] [] := ⟨_, _, [], hG_check_number, He.glo_ok X G (c.fact 66), G_check_number.kp, G_check_number.bindsN fun _ _ _ _ _ _ us hl => (match us, hl with | [_, _, _], _ => rfl), .nil⟩
  have hG_held_place : FnG P w K mg base 1 _ fd_held_place ["rows", "later", "shown", "left", "many"] (spF0 K mg false 5 f_held_place) := ok_held_place Z  G_held_place
  have hF_held_place : FnC P w K mg base 1 "held_place" (spF0 K mg false 5 f_held_place) ["rows", "later", "shown", "left", "many"] [] := ⟨_, _, [], hG_held_place, He.glo_ok X G (c.fact 67), G_held_place.kp, G_held_place.bindsN fun _ _ _ _ _ _ us hl => (match us, hl with | [_, _, _, _, _], _ => rfl), .nil⟩
  have hG_held : FnG P w K mg base 2 _ fd_held ["rows", "many"] (spF0 K mg false 2 f_held) := ok_held Z hF_held_place G_held
  have hF_held : FnC P w K mg base 2 "held" (spF0 K mg false 2 f_held) ["rows", "many"] [] := ⟨_, _, [], hG_held, He.glo_ok X G (c.fact 68), G_held.kp, G_held.bindsN fun _ _ _ _ _ _ us hl => (match us, hl with | [_, _], _ => rfl), .nil⟩
  have hG_RuleU_addU : FnG P w K mg base 8 _ fd_RuleU_addU ["self", "other"] (spF0 K mg false 2 f_RuleU_addU) := ok_RuleU_addU Z hF_check_number hF_held hF_made G_RuleU_addU
  have hO_RuleU_addU : ∃ fa fd, Meth K (He.ga K "Rule") "__add__" fa ∧ FnG P w K mg base 8 fa fd ["self", "other"] (spF0 K mg false 2 f_RuleU_addU) ∧ Binds K fd ["self", "other"] [] := ⟨_, _, He.meth_ok (c.fact 45), hG_RuleU_addU, G_RuleU_addU.bindsN fun _ _ _ _ _ _ us hl => (match us, hl with | [_, _], _ => rfl)⟩
  have hG_ignoring : FnG P w K mg base 1 _ fd_ignoring ["rows", "many"] (spF0 K mg false 2 f_ignoring) := ok_ignoring Z  G_ignoring
  have hF_ignoring : FnC P w K mg base 1 "ignoring" (spF0 K mg false 2 f_ignoring) ["rows", "many"] [] := ⟨_, _, [], hG_ignoring, He.glo_ok X G (c.fact 69), G_ignoring.kp, G_ignoring.bindsN fun _ _ _ _ _ _ us hl => (match us, hl with | [_, _], _ => rfl), .nil⟩
  have hG_RuleU_raddU : FnG P w K mg base 8 _ fd_RuleU_raddU ["self", "other"] (spF0 K mg false 2 f_RuleU_raddU) := ok_RuleU_raddU Z hF_check_number hF_made hF_ignoring G_RuleU_raddU
  have hO_RuleU_raddU : ∃ fa fd, Meth K (He.ga K "Rule") "__radd__" fa ∧ FnG P w K mg base 8 fa fd ["self", "other"] (spF0 K mg false 2 f_RuleU_raddU) ∧ Binds K fd ["self", "other"] [] := ⟨_, _, He.meth_ok (c.fact 46), hG_RuleU_raddU, G_RuleU_raddU.bindsN fun _ _ _ _ _ _ us hl => (match us, hl with | [_, _], _ => rfl)⟩
  have hG__law_words : FnG P w K mg base 11 _ fd__law_words ["_law_rule", "_law_bad"] (spF0 K mg false 2 f__law_words) := ok__law_words Z hT__law_said hE__law_kindE hO_RuleU_andU hO_RuleU_orU hO_RuleU_addU hO_RuleU_raddU hLam__law_words hcd__law_words G__law_words
  have hF__law_words : FnC P w K mg base 11 "_law_words" (spF0 K mg false 2 f__law_words) ["_law_rule", "_law_bad"] [] := ⟨_, _, [], hG__law_words, He.glo_ok X G (c.fact 70), G__law_words.kp, G__law_words.bindsN fun _ _ _ _ _ _ us hl => (match us, hl with | [_, _], _ => rfl), .nil⟩
  have hG__law_same : FnG P w K mg base 1 _ fd__law_same ["_law_found", "_law_due"] (spF0 K mg false 2 f__law_same) := ok__law_same Z  G__law_same
  have hF__law_same : FnC P w K mg base 1 "_law_same" (spF0 K mg false 2 f__law_same) ["_law_found", "_law_due"] [] := ⟨_, _, [], hG__law_same, He.glo_ok X G (c.fact 71), G__law_same.kp, G__law_same.bindsN fun _ _ _ _ _ _ us hl => (match us, hl with | [_, _], _ => rfl), .nil⟩
  have hG__law_chain : FnG P w K mg base 1 _ fd__law_chain ["_law_many"] (spF0 K mg false 1 f__law_chain) := ok__law_chain Z  G__law_chain
  have hF__law_chain : FnC P w K mg base 1 "_law_chain" (spF0 K mg false 1 f__law_chain) ["_law_many"] [] := ⟨_, _, [], hG__law_chain, He.glo_ok X G (c.fact 72), G__law_chain.kp, G__law_chain.bindsN fun _ _ _ _ _ _ us hl => (match us, hl with | [_], _ => rfl), .nil⟩
  have hG_RuleU_lenU : FnG P w K mg base 1 _ fd_RuleU_lenU ["self"] (spF0 K mg false 1 f_RuleU_lenU) := ok_RuleU_lenU Z  G_RuleU_lenU
  have hO_RuleU_lenU : ∃ fa fd, Meth K (He.ga K "Rule") "__len__" fa ∧ FnG P w K mg base 1 fa fd ["self"] (spF0 K mg false 1 f_RuleU_lenU) ∧ Binds K fd ["self"] [] := ⟨_, _, He.meth_ok (c.fact 47), hG_RuleU_lenU, G_RuleU_lenU.bindsN fun _ _ _ _ _ _ us hl => (match us, hl with | [_], _ => rfl)⟩
  have hG__law_owed : FnG P w K mg base 1 _ fd__law_owed ["_law_rows"] (spF0 K mg false 1 f__law_owed) := ok__law_owed Z  G__law_owed
  have hF__law_owed : FnC P w K mg base 1 "_law_owed" (spF0 K mg false 1 f__law_owed) ["_law_rows"] [] := ⟨_, _, [], hG__law_owed, He.glo_ok X G (c.fact 73), G__law_owed.kp, G__law_owed.bindsN fun _ _ _ _ _ _ us hl => (match us, hl with | [_], _ => rfl), .nil⟩
  have hG__law_ring : FnG P w K mg base 1 _ fd__law_ring ["_law_signs"] (spF0 K mg false 1 f__law_ring) := ok__law_ring Z  G__law_ring
  have hF__law_ring : FnC P w K mg base 1 "_law_ring" (spF0 K mg false 1 f__law_ring) ["_law_signs"] [] := ⟨_, _, [], hG__law_ring, He.glo_ok X G (c.fact 74), G__law_ring.kp, G__law_ring.bindsN fun _ _ _ _ _ _ us hl => (match us, hl with | [_], _ => rfl), .nil⟩
  have hG__law_period : FnG P w K mg base 1 _ fd__law_period ["_law_signs"] (spF0 K mg false 1 f__law_period) := ok__law_period Z  G__law_period
  have hF__law_period : FnC P w K mg base 1 "_law_period" (spF0 K mg false 1 f__law_period) ["_law_signs"] [] := ⟨_, _, [], hG__law_period, He.glo_ok X G (c.fact 75), G__law_period.kp, G__law_period.bindsN fun _ _ _ _ _ _ us hl => (match us, hl with | [_], _ => rfl), .nil⟩
  have hG__law_are_rings_right : FnG P w K mg base 11 _ fd__law_are_rings_right ["_law_one", "_law_other"] (spF0 K mg false 2 f__law_are_rings_right) := ok__law_are_rings_right Z hM_Rule_1_ hF__law_ring hF__law_same hT__law_large hO_RuleU_andU hO_RuleU_lenU hF__law_owed hF__law_period hO_RuleU_orU hLam__law_are_rings_right hcd__law_are_rings_right G__law_are_rings_right
  have hF__law_are_rings_right : FnC P w K mg base 11 "_law_are_rings_right" (spF0 K mg false 2 f__law_are_rings_right) ["_law_one", "_law_other"] [] := ⟨_, _, [], hG__law_are_rings_right, He.glo_ok X G (c.fact 76), G__law_are_rings_right.kp, G__law_are_rings_right.bindsN fun _ _ _ _ _ _ us hl => (match us, hl with | [_, _], _ => rfl), .nil⟩
  exact ok_law Z hF__law_pen hF__law_cell_at hM_Rule_1_ hF__law_table hF__law_draw hP_rows hF__law_odd hF__law_words hT__law_said hE__law_kindE hO_RuleU_addU hF__law_same hF__law_chain hT__law_large hO_RuleU_raddU hO_RuleU_lenU hF__law_owed hF__law_are_rings_right hLam_law hcd_law G_law
end
end Lw
namespace Lw
open PySem hiding start
open PySem.Spec L2 Sr
open PyProof.Rows hiding St
theorem ob_eq (s : PySem.W.SharedT) : ob s = hk.obs s.abs := obsM_eq (HandSHeadRun.getT_eq s)
end Lw
namespace Lw
open PySem hiding start
open L2 Sr
theorem t_reached1 (a b c j : Sl) (l : List Nat) (x : Nat) (hl : l.length < 16777216) : turn (gN 5) l_reached_1 (.int (x : Nat)) [a, b, .own (.lst (nats l)), .own (.dk (kn ik l)), c, j] = .ok .nx [a, b, .own (.lst (nats (Tb.addN l x))), .own (.dk (kn ik (Tb.addN l x))), c, .val (.int (x : Nat))] := by
  have hv := kn_val ik_inj x l
  have hk : dKey (.int (x : Int)) = some (ik x) := rfl
  unfold Tb.addN
  by_cases h : x ∈ l
  · rw [if_pos h] at hv ⊢
    simp [l_reached_1, gDnot, gDat, hk, hv, mkF0, mkF1, fin0, fin1, st0, st1, bnd, Sr.ret, opt, mN, mNB, mB, der, m1, m2, m2b, m2r, mT, asB, mChain, mAnd, mOr, mNot, mAndV, mOrV, mNotV, mIf, mNil, mCons, mTup, mLst, mIsN, mNotN, Sr.isNon, mCal, mCal1, mIsi, mFldB, gFld, mC0, mC1, ap0, ap1, chkO, chkL, putL, mMk, apM, skp, sq, sDrop, sRet, sRetO, sIf, sSet, sSetO, sAsg, sPar, gN, gsN, gsC, gT, gA, sApp, sPutI, sNever, mItems, dItems, mRng, mRng2, gRng, gRng2, sFor, turn, gI, gI0, gLt, gLe, gGt, gGe, gAdd, gAddI, gAddS, gAddT, gAddL, Sr.gSub, gMul, gMulI, gDiv, gMod, gPow, gNeg, gEq, gNe, dEq, eqS, gLen, gInt1, gMax2, gMin2, gAbs, gIx, gLtT, dInts, putD, gIsi, dKind, tInt, tOnly, List.map_cons, List.map_nil, List.length_cons, List.length_nil, List.cons_append, List.nil_append, List.getElem?_cons_zero, List.getElem?_cons_succ, List.set_cons_zero, List.set_cons_succ, List.replicate, Option.some_or, Option.none_or, Option.map_some, Option.map_none, Option.bind_some, Option.bind_none]
  · rw [if_neg h] at hv ⊢
    have hp := kn_put ik_inj h
    have hn : nats l ++ [.int (x : Int)] = nats (l ++ [x]) := by unfold nats; simp
    simp [l_reached_1, gDnot, gDat, hk, hv, sPutD, chkD, isDct, putDD, gPutD, hp, hn, kn_len, nats_len, hl, sizeLine, mkF0, mkF1, fin0, fin1, st0, st1, bnd, Sr.ret, opt, mN, mNB, mB, der, m1, m2, m2b, m2r, mT, asB, mChain, mAnd, mOr, mNot, mAndV, mOrV, mNotV, mIf, mNil, mCons, mTup, mLst, mIsN, mNotN, Sr.isNon, mCal, mCal1, mIsi, mFldB, gFld, mC0, mC1, ap0, ap1, chkO, chkL, putL, mMk, apM, skp, sq, sDrop, sRet, sRetO, sIf, sSet, sSetO, sAsg, sPar, gN, gsN, gsC, gT, gA, sApp, sPutI, sNever, mItems, dItems, mRng, mRng2, gRng, gRng2, sFor, turn, gI, gI0, gLt, gLe, gGt, gGe, gAdd, gAddI, gAddS, gAddT, gAddL, Sr.gSub, gMul, gMulI, gDiv, gMod, gPow, gNeg, gEq, gNe, dEq, eqS, gLen, gInt1, gMax2, gMin2, gAbs, gIx, gLtT, dInts, putD, gIsi, dKind, tInt, tOnly, List.map_cons, List.map_nil, List.length_cons, List.length_nil, List.cons_append, List.nil_append, List.getElem?_cons_zero, List.getElem?_cons_succ, List.set_cons_zero, List.set_cons_succ, List.replicate, Option.some_or, Option.none_or, Option.map_some, Option.map_none, Option.bind_some, Option.bind_none]
theorem b_reached2 (t : Tb.Tab) (s : Nat) (ok : Tb.Ok t) (ht : t.length ≤ 100000) (q q' : Tb.RS) (I : Tb.RI t s q) (h : Tb.rStep t q = some q') (j5 : Sl) :
    ∃ k5, l_reached_2 [.val (encT t), .val (.int (s : Nat)), .own (.lst (nats q.1)), .own (.dk (kn ik q.1)), .val (.int (q.2 : Nat)), j5] = .ok .nx [.val (encT t), .val (.int (s : Nat)), .own (.lst (nats q'.1)), .own (.dk (kn ik q'.1)), .val (.int (q'.2 : Nat)), k5] := by
  obtain ⟨l, a⟩ := q
  unfold Tb.rStep at h
  dsimp only at h
  split at h
  · rename_i ha
    cases h
    have hx : l.getD a 0 < t.length := I.lt _ (Tb.getD_mem ha)
    have hlen := Tb.pigeon t.length l I.nd I.lt
    have g1 := ix_nats ha
    have g2 := ix_tab (t := t) hx
    have hcut : gSl (encR (Tb.row t (l.getD a 0))) (some 1) none = some (.tup [.int ((Tb.row t (l.getD a 0)).2.1 : Nat), .int ((Tb.row t (l.getD a 0)).2.2 : Nat)]) := rfl
    generalize l.getD a 0 = x at *
    generalize Tb.row t x = r at *
    have l2 : (Tb.addN l r.2.1).length ≤ l.length + 1 := by unfold Tb.addN; split <;> simp
    have t1 := t_reached1 (.val (encT t)) (.val (.int (s : Nat))) (.val (.int (a : Nat))) j5 l r.2.1 (by omega)
    have t2 := t_reached1 (.val (encT t)) (.val (.int (s : Nat))) (.val (.int (a : Nat))) (.val (.int (r.2.1 : Nat))) (Tb.addN l r.2.1) r.2.2 (by omega)
    have hf : forL (gN 5) l_reached_1 [.int (r.2.1 : Nat), .int (r.2.2 : Nat)] [.val (encT t), .val (.int (s : Nat)), .own (.lst (nats l)), .own (.dk (kn ik l)), .val (.int (a : Nat)), j5] = .ok .nx [.val (encT t), .val (.int (s : Nat)), .own (.lst (nats (Tb.addN (Tb.addN l r.2.1) r.2.2))), .own (.dk (kn ik (Tb.addN (Tb.addN l r.2.1) r.2.2))), .val (.int (a : Nat)), .val (.int (r.2.2 : Nat))] := by
      rw [forL_cons_nx t1, forL_cons_nx t2]; rfl
    exact ⟨_, by simp [l_reached_2, mSl, mPart, mNoP, asI, g1, g2, hcut, hf, sFor, mItems, dItems, bnd, m2, m2b, mNB, mN, der, opt, Sr.ret, sq, sSet, gAdd, gAddI, gI0]; rfl⟩
  · cases h
theorem s_reached (t : Tb.Tab) (s : Nat) (ok : Tb.Ok t) (hs : s < t.length) (ht : t.length ≤ 100000) : f_reached .non [encT t, .int (s : Nat)] = .ok (.lst (nats (Tb.reach t s))) .non := by
  have W := whl_iter (c := (mT (m2 gLt (mN 4) (mCal1 gLen (mNB 2))))) (b := l_reached_2) (Tb.rStep t) (fun q e => Tb.RI t s q ∧ ∃ j5, e = [.val (encT t), .val (.int (s : Nat)), .own (.lst (nats q.1)), .own (.dk (kn ik q.1)), .val (.int (q.2 : Nat)), j5])
    (fun q e hr hd => by
      obtain ⟨I, j5, rfl⟩ := hr
      obtain ⟨l, a⟩ := q
      unfold Tb.rStep at hd
      dsimp only at hd
      split at hd
      · cases hd
      · rename_i hn
        simp [mT, m2, mCal1, mN, mNB, der, bnd, opt, gLen, gLt, gI0, asB, nats_len, hn])
    (fun q q' e hr hd => by
      obtain ⟨I, j5, rfl⟩ := hr
      obtain ⟨k5, hb⟩ := b_reached2 t s ok ht q q' I hd j5
      refine ⟨?_, _, hb, (Tb.ri_step ok I hd).1, _, rfl⟩
      unfold Tb.rStep at hd
      split at hd
      · rename_i hn
        simp [mT, m2, mCal1, mN, mNB, der, bnd, opt, gLen, gLt, gI0, asB, nats_len, hn]
      · cases hd)
    t.length wF ([s], 0) [.val (encT t), .val (.int (s : Nat)), .own (.lst (nats [s])), .own (.dk (kn ik [s])), .val (.int ((0 : Nat) : Int)), .no] (by unfold wF; omega) ⟨Tb.ri_start hs, .no, rfl⟩ (Tb.reach_done ok hs)
  obtain ⟨e', h1, _, j5, rfl⟩ := W
  have hd : mDisp [((mN 1), (ret (.bl true)))] [.val (encT t), .val (.int (s : Nat)), .own (.lst (nats [s])), .no, .no, .no] = .ok (.dk (kn ik [s])) [.val (encT t), .val (.int (s : Nat)), .own (.lst (nats [s])), .no, .no, .no] := rfl
  have e0 : b_reached (st0 6 [encT t, .int (s : Nat)]) = sq (sWhile (mT (m2 gLt (mN 4) (mCal1 gLen (mNB 2)))) l_reached_2) (sRet (mN 2)) [.val (encT t), .val (.int (s : Nat)), .own (.lst (nats [s])), .own (.dk (kn ik [s])), .val (.int ((0 : Nat) : Int)), .no] := by
    simp [b_reached, st0, sq, sSetO, sSet, bnd, mLst, mCons, mNil, mN, Sr.ret, opt, hd, nats, sizeLine, List.replicate]
    rfl
  unfold f_reached mkF0
  rw [e0]
  unfold sWhile
  rw [sq_nx h1]
  simp [sRet, mN, bnd, Sr.ret, fin0]
  rfl
theorem s_f0 (t : Tb.Tab) (ht : t.length ≤ 4000) (x1 x2 x3 x4 x5 x6 x7 : Sl) : ∃ y6, mLc [6] (mItems (mN 0)) (gN 6) t_row_classes_1 e_row_classes_1 [.val (encT t), x1, x2, x3, x4, x5, x6, x7] = .ok (.lst (nats (Tb.f0 t))) [.val (encT t), x1, x2, x3, x4, x5, y6, x7] := by
  have h := mLc_map (m := mItems (mN 0)) (w := gN 6) (t := t_row_classes_1) (el := e_row_classes_1) (vs := [6]) (e := [.val (encT t), x1, x2, x3, x4, x5, x6, x7]) (e1 := [.val (encT t), x1, x2, x3, x4, x5, x6, x7]) (xs := t) encR (fun r => .int ((if r.1 then 1 else 0 : Nat) : Int)) (by simp [mItems, mN, bnd, opt, encT, dItems]) (by omega) (fun r hr => by
    refine ⟨[.val (encT t), x1, x2, x3, x4, x5, .val (encR r), x7], [.val (encT t), x1, x2, x3, x4, x5, .val (encR r), x7], [.val (encT t), x1, x2, x3, x4, x5, .val (encR r), x7], rfl, rfl, ?_, rfl⟩
    obtain ⟨b, p, f⟩ := r
    cases b <;> rfl)
  have e : (t.map fun r => D.int ((if r.1 then 1 else 0 : Nat) : Int)) = nats (Tb.f0 t) := by unfold nats Tb.f0; rw [List.map_map]; rfl
  rw [e] at h
  obtain ⟨y, hy⟩ : ∃ y, rst [6] [.val (encT t), x1, x2, x3, x4, x5, x6, x7] (wipE [6] [.val (encT t), x1, x2, x3, x4, x5, x6, x7]) = [.val (encT t), x1, x2, x3, x4, x5, y, x7] := by cases x6 <;> exact ⟨_, rfl⟩
  exact ⟨y, by rw [h, hy]⟩
theorem ded_snoc (pre : List Tb.K3) (k : Tb.K3) : Tb.ded (pre ++ [k]) = Tb.addN (Tb.ded pre) k := by unfold Tb.ded; rw [List.foldl_append]; rfl
def lat (pre : List Tb.K3) : List Nat := pre.map fun k => (Tb.ded pre).idxOf k
theorem lat_snoc (pre : List Tb.K3) (k : Tb.K3) : lat (pre ++ [k]) = lat pre ++ [(Tb.ded (pre ++ [k])).idxOf k] := by
  unfold lat
  rw [List.map_append]
  congr 1
  refine List.map_congr_left fun x hx => ?_
  rw [ded_snoc]
  obtain ⟨r, e⟩ := Tb.addN_pre (l := Tb.ded pre) (x := k)
  rw [e]
  exact Tb.idxOf_pre (Tb.mem_ded.mpr hx)
theorem t_class1 (t : Tb.Tab) (f : List Nat) (hf : f.length = t.length) (ok : Tb.Ok t) (ht : t.length ≤ 4000) (x2 j5 j6 j7 : Sl) (pre : List Tb.K3) (hl : pre.length ≤ 4000) (r : Tb.Row) (i : Nat) (hi : i < t.length) (hr : r ∈ t) :
    ∃ k5 k6 k7, turn (gT 2 (gsC (gN 5) (gsC (gN 6) gsN))) l_row_classes_1 (.tup [.int (i : Nat), encR r]) [.val (encT t), .val (.lst (nats f)), x2, .own (.dt (dix ik3 (Tb.ded pre))), .own (.lst (nats (lat pre))), j5, j6, j7] =
      .ok .nx [.val (encT t), .val (.lst (nats f)), x2, .own (.dt (dix ik3 (Tb.ded (pre ++ [(f.getD i 0, f.getD r.2.1 0, f.getD r.2.2 0)])))), .own (.lst (nats (lat (pre ++ [(f.getD i 0, f.getD r.2.1 0, f.getD r.2.2 0)])))), k5, k6, k7] := by
  have hrr := ok r hr
  have g0 := ix_nats (l := f) (i := i) (by omega)
  have g1 := ix_nats (l := f) (i := r.2.1) (by omega)
  have g2 := ix_nats (l := f) (i := r.2.2) (by omega)
  have q1 : gIx (encR r) (.int 1) = some (.int (r.2.1 : Nat)) := rfl
  have q2 : gIx (encR r) (.int 2) = some (.int (r.2.2 : Nat)) := rfl
  generalize f.getD i 0 = a at *
  generalize f.getD r.2.1 0 = b at *
  generalize f.getD r.2.2 0 = c at *
  have hk : dKeyL [.int (a : Nat), .int (b : Nat), .int (c : Nat)] = some (ik3 (a, b, c)) := rfl
  have hv := dix_val ik3_inj (x := (a, b, c)) (l := Tb.ded pre)
  have hdl : (Tb.ded pre).length ≤ 4000 := by
    have H : ∀ (ks l : List Tb.K3), (ks.foldl Tb.addN l).length ≤ l.length + ks.length := by
      intro ks
      induction ks with
      | nil => intro l; simp
      | cons k ks ih =>
        intro l
        have := ih (Tb.addN l k)
        have h2 : (Tb.addN l k).length ≤ l.length + 1 := by unfold Tb.addN; split <;> simp
        rw [List.foldl_cons, List.length_cons]; omega
    have := H pre []
    unfold Tb.ded
    simp at this
    omega
  have hll : (nats (lat pre)).length < 16777216 := by rw [nats_len]; unfold lat; rw [List.length_map]; omega
  rw [lat_snoc, ded_snoc]
  have hn : ∀ m : Nat, nats (lat pre) ++ [.int (m : Int)] = nats (lat pre ++ [m]) := fun m => by unfold nats; simp
  unfold Tb.addN
  by_cases h : (a, b, c) ∈ Tb.ded pre
  · rw [if_pos h] at hv ⊢
    exact ⟨_, _, _, by simp [l_row_classes_1, q1, q2, g0, g1, g2, gDnot, gDat, gDg, hk, hv, hll, hn, sizeLine, mkF0, mkF1, fin0, fin1, st0, st1, bnd, Sr.ret, opt, mN, mNB, mB, der, m1, m2, m2b, m2r, mT, asB, mChain, mAnd, mOr, mNot, mAndV, mOrV, mNotV, mIf, mNil, mCons, mTup, mLst, mIsN, mNotN, Sr.isNon, mCal, mCal1, mIsi, mFldB, gFld, mC0, mC1, ap0, ap1, chkO, chkL, putL, mMk, apM, skp, sq, sDrop, sRet, sRetO, sIf, sSet, sSetO, sAsg, sPar, gN, gsN, gsC, gT, gA, sApp, sPutI, sNever, mItems, dItems, mRng, mRng2, gRng, gRng2, sFor, turn, gI, gI0, gLt, gLe, gGt, gGe, gAdd, gAddI, gAddS, gAddT, gAddL, Sr.gSub, gMul, gMulI, gDiv, gMod, gPow, gNeg, gEq, gNe, dEq, eqS, gLen, gInt1, gMax2, gMin2, gAbs, gLtT, dInts, putD, gIsi, dKind, tInt, tOnly, List.map_cons, List.map_nil, List.length_cons, List.length_nil, List.cons_append, List.nil_append, List.getElem?_cons_zero, List.getElem?_cons_succ, List.set_cons_zero, List.set_cons_succ, List.replicate, Option.some_or, Option.none_or, Option.map_some, Option.map_none, Option.bind_some, Option.bind_none]; exact ⟨rfl, rfl, rfl⟩⟩
  · rw [if_neg h] at hv ⊢
    have hp := dix_put ik3_inj h
    have hlen := dix_len (enc := ik3) (l := Tb.ded pre)
    have hv2 := dix_val ik3_inj (x := (a, b, c)) (l := Tb.ded pre ++ [(a, b, c)])
    rw [if_pos (by simp)] at hv2
    have hsz : (Tb.ded pre).length < 16777216 := by omega
    exact ⟨_, _, _, by simp [l_row_classes_1, q1, q2, g0, g1, g2, gDnot, gDat, gDg, hk, hv, hv2, hll, hn, sPutD, chkD, isDct, putDD, gPutD, gLenA, gLenT, hp, hlen, hsz, sizeLine, mkF0, mkF1, fin0, fin1, st0, st1, bnd, Sr.ret, opt, mN, mNB, mB, der, m1, m2, m2b, m2r, mT, asB, mChain, mAnd, mOr, mNot, mAndV, mOrV, mNotV, mIf, mNil, mCons, mTup, mLst, mIsN, mNotN, Sr.isNon, mCal, mCal1, mIsi, mFldB, gFld, mC0, mC1, ap0, ap1, chkO, chkL, putL, mMk, apM, skp, sq, sDrop, sRet, sRetO, sIf, sSet, sSetO, sAsg, sPar, gN, gsN, gsC, gT, gA, sApp, sPutI, sNever, mItems, dItems, mRng, mRng2, gRng, gRng2, sFor, turn, gI, gI0, gLt, gLe, gGt, gGe, gAdd, gAddI, gAddS, gAddT, gAddL, Sr.gSub, gMul, gMulI, gDiv, gMod, gPow, gNeg, gEq, gNe, dEq, eqS, gLen, gInt1, gMax2, gMin2, gAbs, gLtT, dInts, putD, gIsi, dKind, tInt, tOnly, List.map_cons, List.map_nil, List.length_cons, List.length_nil, List.cons_append, List.nil_append, List.getElem?_cons_zero, List.getElem?_cons_succ, List.set_cons_zero, List.set_cons_succ, List.replicate, Option.some_or, Option.none_or, Option.map_some, Option.map_none, Option.bind_some, Option.bind_none]; exact ⟨rfl, rfl, rfl⟩⟩
theorem fold_snoc {A B : Type} (g : B → A) (l : List B) : ∀ (acc : List A), l.foldl (fun pre q => pre ++ [g q]) acc = acc ++ l.map g := by
  induction l with
  | nil => intro acc; simp
  | cons q l ih => intro acc; rw [List.foldl_cons, ih]; simp
theorem s_inner (t : Tb.Tab) (f : List Nat) (hf : f.length = t.length) (ok : Tb.Ok t) (ht : t.length ≤ 4000) (x2 j5 j6 j7 : Sl) :
    ∃ k5 k6 k7, forL (gT 2 (gsC (gN 5) (gsC (gN 6) gsN))) l_row_classes_1 (enumL (t.map encR)) [.val (encT t), .val (.lst (nats f)), x2, .own (.dt []), .own (.lst []), j5, j6, j7] =
      .ok .nx [.val (encT t), .val (.lst (nats f)), x2, .own (.dt (dix ik3 (Tb.ded (Tb.keys t f)))), .own (.lst (nats (Tb.renum (Tb.keys t f)))), k5, k6, k7] := by
  have H := forL_map (w := gT 2 (gsC (gN 5) (gsC (gN 6) gsN))) (b := l_row_classes_1) (fun (q : Tb.Row × Nat) => .tup [.int (q.2 : Nat), encR q.1])
    (fun (pre : List Tb.K3) e => ∃ j5 j6 j7, e = [.val (encT t), .val (.lst (nats f)), x2, .own (.dt (dix ik3 (Tb.ded pre))), .own (.lst (nats (lat pre))), j5, j6, j7])
    (fun pre q => pre ++ [(f.getD q.2 0, f.getD q.1.2.1 0, f.getD q.1.2.2 0)]) [] t.zipIdx [.val (encT t), .val (.lst (nats f)), x2, .own (.dt []), .own (.lst []), j5, j6, j7]
    (by
      rintro pre ⟨r, i⟩ post hp e ⟨j5, j6, j7, rfl⟩
      have hm : (r, i) ∈ t.zipIdx := by rw [hp]; simp
      have hm2 := List.mem_zipIdx hm
      have hi : i < t.length := by omega
      have hr : r ∈ t := by
        have := hm2.2.2
        rw [this]; exact List.getElem_mem _
      have hl : (pre.foldl (fun pre (q : Tb.Row × Nat) => pre ++ [(f.getD q.2 0, f.getD q.1.2.1 0, f.getD q.1.2.2 0)]) []).length ≤ 4000 := by
        have h2 : pre.length ≤ t.length := by
          have := congrArg List.length hp
          simp at this
          omega
        rw [fold_snoc]
        simp
        omega
      obtain ⟨k5, k6, k7, h⟩ := t_class1 t f hf ok ht x2 j5 j6 j7 _ hl r i hi hr
      exact ⟨_, h, _, _, _, rfl⟩)
    ⟨j5, j6, j7, rfl⟩
  rw [← enumL_tab] at H
  obtain ⟨e', h1, k5, k6, k7, rfl⟩ := H
  have hk : t.zipIdx.foldl (fun pre (q : Tb.Row × Nat) => pre ++ [(f.getD q.2 0, f.getD q.1.2.1 0, f.getD q.1.2.2 0)]) [] = Tb.keys t f := by
    rw [fold_snoc]; unfold Tb.keys; simp
  rw [hk] at h1
  exact ⟨_, _, _, h1⟩
theorem s_classes (t : Tb.Tab) (ok : Tb.Ok t) (ht : t.length ≤ 4000) : f_row_classes .non [encT t] = .ok (.lst (nats (Tb.cls t))) .non := by
  obtain ⟨y6, h0⟩ := s_f0 t ht .no .no .no .no .no .no .no
  have W := whl_iter (c := (mT (m2 gLt (mN 2) (mCal1 gLenSet (mB (mN 1)))))) (b := l_row_classes_2) (Tb.cStep t) (fun q e => Tb.CI t q ∧ ∃ j3 j4 j5 j6 j7, e = [.val (encT t), .val (.lst (nats q.1)), .val (.int (q.2 : Nat)), j3, j4, j5, j6, j7])
    (fun q e hr hd => by
      obtain ⟨I, j3, j4, j5, j6, j7, rfl⟩ := hr
      have hs := lenSet_nats (l := q.1) (by have := I.len; omega)
      unfold Tb.cStep at hd
      split at hd
      · cases hd
      · rename_i hn
        simp [mT, m2, mCal1, mN, mB, der, bnd, opt, Sr.ret, hs, gLt, gI0, asB, hn])
    (fun q q' e hr hd => by
      obtain ⟨I, j3, j4, j5, j6, j7, rfl⟩ := hr
      have hs := lenSet_nats (l := q.1) (by have := I.len; omega)
      have I2 := (Tb.ci_step ok I hd).1
      unfold Tb.cStep at hd
      split at hd
      · rename_i hn
        cases hd
        obtain ⟨k5, k6, k7, hi⟩ := s_inner t q.1 I.len ok ht (.val (.int (Tb.dist q.1 : Nat))) j5 j6 j7
        refine ⟨by simp [mT, m2, mCal1, mN, mB, der, bnd, opt, Sr.ret, hs, gLt, gI0, asB, hn], _, ?_, I2, .own (.dt (dix ik3 (Tb.ded (Tb.keys t q.1)))), .val (.lst (nats (Tb.renum (Tb.keys t q.1)))), k5, k6, k7, rfl⟩
        have he : mEnumT (mCons (mN 0) mNil) [.val (encT t), .val (.lst (nats q.1)), .val (.int (Tb.dist q.1 : Nat)), .own (.dt []), .own (.lst []), j5, j6, j7] = .ok (enumL (t.map encR)) [.val (encT t), .val (.lst (nats q.1)), .val (.int (Tb.dist q.1 : Nat)), .own (.dt []), .own (.lst []), j5, j6, j7] := rfl
        have hm : ∀ e, mLst mNil e = .ok (.lst []) e := fun _ => rfl
        simp [l_row_classes_2, hs, he, hi, hm, sFor, sq, sSet, sSetO, mCal1, mN, mB, der, bnd, opt, Sr.ret]
      · cases hd)
    t.length wF (Tb.f0 t, 0) [.val (encT t), .val (.lst (nats (Tb.f0 t))), .val (.int ((0 : Nat) : Int)), .no, .no, .no, y6, .no] (by unfold wF; omega) ⟨Tb.ci_start t, _, _, _, _, _, rfl⟩ (Tb.cls_done ok)
  obtain ⟨e', h1, _, j3, j4, j5, j6, j7, rfl⟩ := W
  have e0 : b_row_classes (st0 8 [encT t]) = sq (sWhile (mT (m2 gLt (mN 2) (mCal1 gLenSet (mB (mN 1))))) l_row_classes_2) (sRet (mN 1)) [.val (encT t), .val (.lst (nats (Tb.f0 t))), .val (.int ((0 : Nat) : Int)), .no, .no, .no, y6, .no] := by
    simp [b_row_classes, st0, sq, sSet, bnd, Sr.ret, h0, List.replicate]
  unfold f_row_classes mkF0
  rw [e0]
  unfold sWhile
  rw [sq_nx h1]
  simp [sRet, mN, bnd, Sr.ret, fin0]
  rfl
def stepP (f : List Nat) (q : List Nat × List Nat) (x : Nat) : List Nat × List Nat := if f.getD x 0 ∈ q.1 then q else (q.1 ++ [f.getD x 0], q.2 ++ [x])
theorem pick_fold (f : List Nat) : ∀ (xs : List Nat) (q : List Nat × List Nat), Tb.pick f xs q = xs.foldl (stepP f) q
  | [], q => rfl
  | x :: xs, q => by rw [Tb.pick, pick_fold f xs, List.foldl_cons]; rfl
theorem stepP_len (f : List Nat) : ∀ (xs : List Nat) (q : List Nat × List Nat), q.1.length = q.2.length → (xs.foldl (stepP f) q).1.length = (xs.foldl (stepP f) q).2.length ∧ (xs.foldl (stepP f) q).2.length ≤ q.2.length + xs.length
  | [], q, h => ⟨h, by simp⟩
  | x :: xs, q, h => by
    have h1 : (stepP f q x).1.length = (stepP f q x).2.length ∧ (stepP f q x).2.length ≤ q.2.length + 1 := by
      unfold stepP
      split
      · exact ⟨h, by omega⟩
      · simp [h]
    have h2 := stepP_len f xs _ h1.1
    rw [List.foldl_cons, List.length_cons]
    exact ⟨h2.1, by omega⟩
theorem t_small1 (t : Tb.Tab) (x1 j5 x6 x7 x8 : Sl) (C : List Nat) (hC : C.length = t.length) (q : List Nat × List Nat) (hq : q.1.length = q.2.length) (hl : q.2.length ≤ 4000) (x : Nat) (hx : x < t.length) :
    ∃ k5, turn (gN 5) l_smallest_1 (.int (x : Nat)) [.val (encT t), x1, .val (.lst (nats C)), .own (.dk (dix ik q.1)), .own (.lst (q.2.map fun y => encR (Tb.row t y))), j5, x6, x7, x8] =
      .ok .nx [.val (encT t), x1, .val (.lst (nats C)), .own (.dk (dix ik (stepP C q x).1)), .own (.lst ((stepP C q x).2.map fun y => encR (Tb.row t y))), k5, x6, x7, x8] := by
  have g0 := ix_nats (l := C) (i := x) (by omega)
  have g1 := ix_tab (t := t) hx
  unfold stepP
  generalize C.getD x 0 = c at *
  have hv := dix_val ik_inj (x := c) (l := q.1)
  have hk : dKey (.int (c : Int)) = some (ik c) := rfl
  by_cases h : c ∈ q.1
  · rw [if_pos h] at hv ⊢
    exact ⟨_, by simp [l_smallest_1, g0, gDnot, gDat, hk, hv, mkF0, mkF1, fin0, fin1, st0, st1, bnd, Sr.ret, opt, mN, mNB, mB, der, m1, m2, m2b, m2r, mT, asB, mChain, mAnd, mOr, mNot, mAndV, mOrV, mNotV, mIf, mNil, mCons, mTup, mLst, mIsN, mNotN, Sr.isNon, mCal, mCal1, mIsi, mFldB, gFld, mC0, mC1, ap0, ap1, chkO, chkL, putL, mMk, apM, skp, sq, sDrop, sRet, sRetO, sIf, sSet, sSetO, sAsg, sPar, gN, gsN, gsC, gT, gA, sApp, sPutI, sNever, mItems, dItems, mRng, mRng2, gRng, gRng2, sFor, turn, gI, gI0, gLt, gLe, gGt, gGe, gAdd, gAddI, gAddS, gAddT, gAddL, Sr.gSub, gMul, gMulI, gDiv, gMod, gPow, gNeg, gEq, gNe, dEq, eqS, gLen, gInt1, gMax2, gMin2, gAbs, gLtT, dInts, putD, gIsi, dKind, tInt, tOnly, List.map_cons, List.map_nil, List.length_cons, List.length_nil, List.cons_append, List.nil_append, List.getElem?_cons_zero, List.getElem?_cons_succ, List.set_cons_zero, List.set_cons_succ, List.replicate, Option.some_or, Option.none_or, Option.map_some, Option.map_none, Option.bind_some, Option.bind_none]; rfl⟩
  · rw [if_neg h] at hv ⊢
    have hp := dix_put ik_inj h
    rw [hq] at hp
    have hlen := dix_len (enc := ik) (l := q.1)
    have hs1 : q.1.length < 16777216 := by omega
    have hs2 : q.2.length < 16777216 := by omega
    exact ⟨_, by simp [l_smallest_1, g0, g1, gDnot, gDat, hk, hv, sPutD, chkD, isDct, putDD, gPutD, hp, hlen, hs1, hs2, sizeLine, mkF0, mkF1, fin0, fin1, st0, st1, bnd, Sr.ret, opt, mN, mNB, mB, der, m1, m2, m2b, m2r, mT, asB, mChain, mAnd, mOr, mNot, mAndV, mOrV, mNotV, mIf, mNil, mCons, mTup, mLst, mIsN, mNotN, Sr.isNon, mCal, mCal1, mIsi, mFldB, gFld, mC0, mC1, ap0, ap1, chkO, chkL, putL, mMk, apM, skp, sq, sDrop, sRet, sRetO, sIf, sSet, sSetO, sAsg, sPar, gN, gsN, gsC, gT, gA, sApp, sPutI, sNever, mItems, dItems, mRng, mRng2, gRng, gRng2, sFor, turn, gI, gI0, gLt, gLe, gGt, gGe, gAdd, gAddI, gAddS, gAddT, gAddL, Sr.gSub, gMul, gMulI, gDiv, gMod, gPow, gNeg, gEq, gNe, dEq, eqS, gLen, gInt1, gMax2, gMin2, gAbs, gLtT, dInts, putD, gIsi, dKind, tInt, tOnly, List.map_cons, List.map_nil, List.length_cons, List.length_nil, List.cons_append, List.nil_append, List.getElem?_cons_zero, List.getElem?_cons_succ, List.set_cons_zero, List.set_cons_succ, List.replicate, Option.some_or, Option.none_or, Option.map_some, Option.map_none, Option.bind_some, Option.bind_none]; rfl⟩
theorem s_small_loop (t : Tb.Tab) (x1 x6 x7 x8 : Sl) (C : List Nat) (hC : C.length = t.length) (ht : t.length ≤ 4000) (L : List Nat) (hL : ∀ x ∈ L, x < t.length) (hl : L.length ≤ 4000) :
    ∃ k5, forL (gN 5) l_smallest_1 (nats L) [.val (encT t), x1, .val (.lst (nats C)), .own (.dk []), .own (.lst []), .no, x6, x7, x8] =
      .ok .nx [.val (encT t), x1, .val (.lst (nats C)), .own (.dk (dix ik (Tb.pick C L ([], [])).1)), .own (.lst ((Tb.pick C L ([], [])).2.map fun y => encR (Tb.row t y))), k5, x6, x7, x8] := by
  have H := forL_map (w := gN 5) (b := l_smallest_1) (fun (x : Nat) => D.int (x : Int))
    (fun (q : List Nat × List Nat) e => ∃ j5, e = [.val (encT t), x1, .val (.lst (nats C)), .own (.dk (dix ik q.1)), .own (.lst (q.2.map fun y => encR (Tb.row t y))), j5, x6, x7, x8])
    (stepP C) ([], []) L [.val (encT t), x1, .val (.lst (nats C)), .own (.dk []), .own (.lst []), .no, x6, x7, x8]
    (by
      rintro pre x post hp e ⟨j5, rfl⟩
      have h1 := stepP_len C pre ([], []) rfl
      have h2 : pre.length ≤ L.length := by rw [hp]; simp
      obtain ⟨k5, h⟩ := t_small1 t x1 j5 x6 x7 x8 C hC _ h1.1 (by have := h1.2; simp at this; omega) x (hL x (by rw [hp]; simp))
      exact ⟨_, h, _, rfl⟩)
    ⟨.no, rfl⟩
  obtain ⟨e', h1, k5, rfl⟩ := H
  rw [pick_fold]
  exact ⟨k5, h1⟩
theorem s_smallest (t : Tb.Tab) (s : Nat) (ok : Tb.Ok t) (hs : s < t.length) (ht : t.length ≤ 4000) : f_smallest .non [encT t, .int (s : Nat)] = .ok (encT (Tb.small t s)) .non := by
  have h1 := s_classes t ok ht
  have h2 := s_reached t s ok hs (by omega)
  have R := Tb.reach_spec ok hs
  have hC := Tb.cls_len ok
  have hl := Tb.pigeon t.length _ R.nd R.lt
  obtain ⟨k5, h3⟩ := s_small_loop t (.val (.int (s : Nat))) .no .no .no (Tb.cls t) hC ht (Tb.reach t s) R.lt (by omega)
  have P := Tb.small_pi t s
  have hm : mItems (mN 4) [.val (encT t), .val (.int (s : Nat)), .val (.lst (nats (Tb.cls t))), .own (.dk (dix ik (Tb.pick (Tb.cls t) (Tb.reach t s) ([], [])).1)), .own (.lst ((Tb.pick (Tb.cls t) (Tb.reach t s) ([], [])).2.map fun y => encR (Tb.row t y))), k5, .no, .no, .no] =
      .ok ((Tb.pick (Tb.cls t) (Tb.reach t s) ([], [])).2.map fun y => encR (Tb.row t y)) [.val (encT t), .val (.int (s : Nat)), .val (.lst (nats (Tb.cls t))), .own (.dk (dix ik (Tb.pick (Tb.cls t) (Tb.reach t s) ([], [])).1)), .val (.lst ((Tb.pick (Tb.cls t) (Tb.reach t s) ([], [])).2.map fun y => encR (Tb.row t y))), k5, .no, .no, .no] := rfl
  have hlen : (Tb.pick (Tb.cls t) (Tb.reach t s) ([], [])).2.length ≤ 4000 := by
    have := stepP_len (Tb.cls t) (Tb.reach t s) ([], []) rfl
    rw [← pick_fold] at this
    have := this.2
    simp at this
    omega
  have h4 := mLc_map (m := mItems (mN 4)) (w := gT 3 (gsC (gN 6) (gsC (gN 7) (gsC (gN 8) gsN)))) (t := t_smallest_1) (el := e_smallest_1) (vs := [6, 7, 8]) (fun y => encR (Tb.row t y)) (fun y => encR ((Tb.row t y).1, Tb.ix t s (Tb.row t y).2.1, Tb.ix t s (Tb.row t y).2.2)) hm (by omega) (fun y hy => by
    have hyr := P.sub y hy
    have hyl := R.lt y hyr
    have c1 := R.cl y hyr true
    have c2 := R.cl y hyr false
    have a1 := P.all _ c1
    have a2 := P.all _ c2
    have l1 := R.lt _ c1
    have l2 := R.lt _ c2
    unfold Tb.nx at c1 c2 a1 a2 l1 l2
    simp only [if_true] at c1 a1 l1
    simp only [Bool.false_eq_true, if_false] at c2 a2 l2
    have g1 := ix_nats (l := Tb.cls t) (i := (Tb.row t y).2.1) (by omega)
    have g2 := ix_nats (l := Tb.cls t) (i := (Tb.row t y).2.2) (by omega)
    unfold Tb.ix
    generalize hr : Tb.row t y = r at *
    obtain ⟨b, u, v⟩ := r
    dsimp only at *
    generalize (Tb.cls t).getD u 0 = cu at *
    generalize (Tb.cls t).getD v 0 = cv at *
    have v1 := dix_val ik_inj (x := cu) (l := (Tb.pick (Tb.cls t) (Tb.reach t s) ([], [])).1)
    have v2 := dix_val ik_inj (x := cv) (l := (Tb.pick (Tb.cls t) (Tb.reach t s) ([], [])).1)
    rw [if_pos a1] at v1
    rw [if_pos a2] at v2
    have k1 : dKey (.int (cu : Int)) = some (ik cu) := rfl
    have k2 : dKey (.int (cv : Int)) = some (ik cv) := rfl
    refine ⟨[.val (encT t), .val (.int (s : Nat)), .val (.lst (nats (Tb.cls t))), .own (.dk (dix ik (Tb.pick (Tb.cls t) (Tb.reach t s) ([], [])).1)), .val (.lst ((Tb.pick (Tb.cls t) (Tb.reach t s) ([], [])).2.map fun y => encR (Tb.row t y))), k5, .val (encS b), .val (.int (u : Nat)), .val (.int (v : Nat))], [.val (encT t), .val (.int (s : Nat)), .val (.lst (nats (Tb.cls t))), .own (.dk (dix ik (Tb.pick (Tb.cls t) (Tb.reach t s) ([], [])).1)), .val (.lst ((Tb.pick (Tb.cls t) (Tb.reach t s) ([], [])).2.map fun y => encR (Tb.row t y))), k5, .val (encS b), .val (.int (u : Nat)), .val (.int (v : Nat))], [.val (encT t), .val (.int (s : Nat)), .val (.lst (nats (Tb.cls t))), .own (.dk (dix ik (Tb.pick (Tb.cls t) (Tb.reach t s) ([], [])).1)), .val (.lst ((Tb.pick (Tb.cls t) (Tb.reach t s) ([], [])).2.map fun y => encR (Tb.row t y))), k5, .val (encS b), .val (.int (u : Nat)), .val (.int (v : Nat))], rfl, rfl, ?_, rfl⟩
    simp [e_smallest_1, g1, g2, gDg, gDat, k1, k2, v1, v2, encR, sizeLine, mkF0, mkF1, fin0, fin1, st0, st1, bnd, Sr.ret, opt, mN, mNB, mB, der, m1, m2, m2b, m2r, mT, asB, mChain, mAnd, mOr, mNot, mAndV, mOrV, mNotV, mIf, mNil, mCons, mTup, mLst, mIsN, mNotN, Sr.isNon, mCal, mCal1, mIsi, mFldB, gFld, mC0, mC1, ap0, ap1, chkO, chkL, putL, mMk, apM, skp, sq, sDrop, sRet, sRetO, sIf, sSet, sSetO, sAsg, sPar, gN, gsN, gsC, gT, gA, sApp, sPutI, sNever, mItems, dItems, mRng, mRng2, gRng, gRng2, sFor, turn, gI, gI0, gLt, gLe, gGt, gGe, gAdd, gAddI, gAddS, gAddT, gAddL, Sr.gSub, gMul, gMulI, gDiv, gMod, gPow, gNeg, gEq, gNe, dEq, eqS, gLen, gInt1, gMax2, gMin2, gAbs, gLtT, dInts, putD, gIsi, dKind, tInt, tOnly, List.map_cons, List.map_nil, List.length_cons, List.length_nil, List.cons_append, List.nil_append, List.getElem?_cons_zero, List.getElem?_cons_succ, List.set_cons_zero, List.set_cons_succ, List.replicate, Option.some_or, Option.none_or, Option.map_some, Option.map_none, Option.bind_some, Option.bind_none])
  have e5 : ((Tb.pick (Tb.cls t) (Tb.reach t s) ([], [])).2.map fun y => encR ((Tb.row t y).1, Tb.ix t s (Tb.row t y).2.1, Tb.ix t s (Tb.row t y).2.2)) = (Tb.small t s).map encR := by
    unfold Tb.small; rw [List.map_map]; rfl
  rw [e5] at h4
  have hd : ∀ e, mLst mNil e = .ok (.lst []) e := fun _ => rfl
  have hi : mItems (mC0 f_reached [] (mCons (mN 0) (mCons (mN 1) mNil))) [.val (encT t), .val (.int (s : Nat)), .val (.lst (nats (Tb.cls t))), .own (.dk []), .own (.lst []), .no, .no, .no, .no] = .ok (nats (Tb.reach t s)) [.val (encT t), .val (.int (s : Nat)), .val (.lst (nats (Tb.cls t))), .own (.dk []), .own (.lst []), .no, .no, .no, .no] := by
    simp [mItems, mC0, mCons, mNil, ap0, bnd, mN, Sr.ret, opt, h2, dItems]
  have hc : mC0 f_row_classes [] (mCons (mN 0) mNil) [.val (encT t), .val (.int (s : Nat)), .no, .no, .no, .no, .no, .no, .no] = .ok (.lst (nats (Tb.cls t))) [.val (encT t), .val (.int (s : Nat)), .no, .no, .no, .no, .no, .no, .no] := by
    simp [mC0, mCons, mNil, ap0, bnd, mN, Sr.ret, h1]
  have e0 : st0 9 [encT t, .int (s : Nat)] = [.val (encT t), .val (.int (s : Nat)), .no, .no, .no, .no, .no, .no, .no] := rfl
  simp [f_smallest, b_smallest, mkF0, e0, hc, hd, hi, h3, h4, gTuple, sFor, m1, fin0, sq, sSet, sSetO, sRet, bnd, Sr.ret, opt]
  rfl
theorem s_is_integer_int (a : Int) : f_is_integer .non [.int a] = .ok (.bl true) .non := rfl
theorem s_is_between (a lo hi : Int) : f_is_between .non [.int a, .int lo, .int hi] = .ok (.bl (decide (lo ≤ a) && decide (a ≤ hi))) .non := by
  by_cases h : lo ≤ a <;> simp [f_is_between, b_is_between, s_is_integer_int, h, mkF0, mkF1, fin0, fin1, st0, st1, bnd, Sr.ret, opt, mN, mNB, mB, der, m1, m2, m2b, m2r, mT, asB, mChain, mAnd, mOr, mNot, mAndV, mOrV, mNotV, mIf, mNil, mCons, mTup, mLst, mIsN, mNotN, Sr.isNon, mCal, mCal1, mIsi, mFldB, gFld, mC0, mC1, ap0, ap1, chkO, chkL, putL, mMk, apM, skp, sq, sDrop, sRet, sRetO, sIf, sSet, sSetO, sAsg, sPar, gN, gsN, gsC, gT, gA, sApp, sPutI, sNever, mItems, dItems, mRng, mRng2, gRng, gRng2, sFor, turn, gI, gI0, gLt, gLe, gGt, gGe, gAdd, gAddI, gAddS, gAddT, gAddL, Sr.gSub, gMul, gMulI, gDiv, gMod, gPow, gNeg, gEq, gNe, dEq, eqS, gLen, gInt1, gMax2, gMin2, gAbs, gIx, gLtT, dInts, putD, gIsi, dKind, tInt, tOnly, List.map_cons, List.map_nil, List.length_cons, List.length_nil, List.cons_append, List.nil_append, List.getElem?_cons_zero, List.getElem?_cons_succ, List.set_cons_zero, List.set_cons_succ, List.replicate, Option.some_or, Option.none_or, Option.map_some, Option.map_none, Option.bind_some, Option.bind_none]
theorem s_between {a lo hi : Int} (h1 : lo ≤ a) (h2 : a ≤ hi) : f_is_between .non [.int a, .int lo, .int hi] = .ok (.bl true) .non := by
  rw [s_is_between, decide_eq_true h1, decide_eq_true h2]; rfl
theorem s_is_row (r : Tb.Row) (n : Nat) (h1 : r.2.1 < n) (h2 : r.2.2 < n) : f_is_row .non [encR r, .int (n : Nat)] = .ok (.bl true) .non := by
  obtain ⟨b, p, q⟩ := r
  have b1 := s_between (a := (p : Int)) (lo := 0) (hi := (n : Int) - 1) (by omega) (by dsimp only at h1; omega)
  have b2 := s_between (a := (q : Int)) (lo := 0) (hi := (n : Int) - 1) (by omega) (by dsimp only at h2; omega)
  have hin : gIn (encS b) (.tup [.str "U", .str "D"]) = some (.bl true) := by cases b <;> kernel_rfl
  have k1 : isB_tuple (encR (b, p, q)) = some true := rfl
  have k2 : isB_str (encS b) = some true := rfl
  have g0 : gIx (encR (b, p, q)) (.int 0) = some (encS b) := rfl
  have g1 : gIx (encR (b, p, q)) (.int 1) = some (.int (p : Int)) := rfl
  have g2 : gIx (encR (b, p, q)) (.int 2) = some (.int (q : Int)) := rfl
  have gl : gLen (encR (b, p, q)) = some (.int 3) := rfl
  have ml : ∀ e, mTup (mCons (Sr.ret (.str "U")) (mCons (Sr.ret (.str "D")) mNil)) e = .ok (.tup [.str "U", .str "D"]) e := fun _ => rfl
  simp [f_is_row, b_is_row, k1, k2, g0, g1, g2, gl, b1, b2, hin, ml, mkF0, mkF1, fin0, fin1, st0, st1, bnd, Sr.ret, opt, mN, mNB, mB, der, m1, m2, m2b, m2r, mT, asB, mChain, mAnd, mOr, mNot, mAndV, mOrV, mNotV, mIf, mLst, mIsN, mNotN, Sr.isNon, mCal, mCal1, mIsi, mFldB, gFld, mC0, mC1, ap0, ap1, chkO, chkL, putL, mMk, apM, skp, sq, sDrop, sRet, sRetO, sIf, sSet, sSetO, sAsg, sPar, gN, gsN, gsC, gT, gA, sApp, sPutI, sNever, mItems, dItems, mRng, mRng2, gRng, gRng2, sFor, turn, gI, gI0, gLt, gLe, gGt, gGe, gAdd, gAddI, gAddS, gAddT, gAddL, Sr.gSub, gMul, gMulI, gDiv, gMod, gPow, gNeg, gEq, gNe, dEq, eqS, gInt1, gMax2, gMin2, gAbs, gLtT, dInts, putD, gIsi, dKind, tInt, tOnly, List.map_cons, List.map_nil, List.length_cons, List.length_nil, List.cons_append, List.nil_append, List.getElem?_cons_zero, List.getElem?_cons_succ, List.set_cons_zero, List.set_cons_succ, List.replicate, Option.some_or, Option.none_or, Option.map_some, Option.map_none, Option.bind_some, Option.bind_none]
  simp [mCons, mNil, bnd, mN, m2, g1, g2, Sr.gSub, gI0, Sr.ret, opt, b1, b2, asB, ap0]
theorem bools_true : ∀ n : Nat, dBools (List.replicate n (.bl true)) = some (List.replicate n true)
  | 0 => rfl
  | n + 1 => by rw [List.replicate_succ, List.replicate_succ]; simp [dBools, bools_true n]
theorem all_true (n : Nat) : gAll (.lst (List.replicate n (.bl true))) = some (.bl true) := by
  simp [gAll, bools_true]
theorem s_is_table (t : Tb.Tab) (ok : Tb.Ok t) (h1 : 1 ≤ t.length) (h2 : t.length ≤ 64) : f_is_table .non [encT t] = .ok (.bl true) .non := by
  have h := mLc_map (m := mItems (mN 0)) (w := gN 1) (t := t_is_table_1) (el := e_is_table_1) (vs := [1]) (e := [.val (encT t), .no]) (e1 := [.val (encT t), .no]) (xs := t) encR (fun _ => .bl true) (by simp [mItems, mN, bnd, opt, encT, dItems]) (by omega) (fun r hr => by
    have hrr := ok r hr
    have hi := s_is_row r t.length hrr.1 hrr.2
    have gl : gLen (encT t) = some (.int (t.length : Nat)) := by simp [encT, gLen]
    refine ⟨[.val (encT t), .val (encR r)], [.val (encT t), .val (encR r)], [.val (encT t), .val (encR r)], rfl, rfl, ?_, rfl⟩
    simp [e_is_table_1, hi, gl, mC0, mCons, mNil, ap0, m1, bnd, mN, Sr.ret, opt])
  have e : (t.map fun _ => D.bl true) = List.replicate t.length (.bl true) := by rw [List.map_const']
  rw [e] at h
  have gl : gLen (encT t) = some (.int (t.length : Nat)) := by simp [encT, gLen]
  have k1 : isB_tuple (encT t) = some true := rfl
  have ha := all_true t.length
  have l1 : (1 : Int) ≤ (t.length : Int) := by omega
  have l2 : (t.length : Int) ≤ 64 := by omega
  have e0 : st0 2 [encT t] = [.val (encT t), .no] := rfl
  simp [f_is_table, b_is_table, mkF0, e0, h, gl, k1, ha, l1, l2, sq, sIf, mOr, mNot, mT, mIsi, mChain, m1, bnd, mN, Sr.ret, opt, asB, gLe, gI0, sRet, skp, fin0]
def ruleO (t : Tb.Tab) : D := .obj "Rule" [("table", encT t)]
theorem s_rule (t : Tb.Tab) (ok : Tb.Ok t) (h1 : 1 ≤ t.length) (h2 : t.length ≤ 64) : f_RuleU_initU (.obj "Rule" []) [encT t] = .ok .non (ruleO (Tb.small t 0)) := by
  have a1 := s_is_table t ok h1 h2
  have a2 : f_smallest .non [encT t, .int 0] = .ok (encT (Tb.small t 0)) .non := by
    have := s_smallest t 0 ok (by omega) (by omega)
    simpa using this
  simp [f_RuleU_initU, b_RuleU_initU, a1, a2, ruleO, mkF0, mkF1, fin0, fin1, st0, st1, bnd, Sr.ret, opt, mN, mNB, mB, der, m1, m2, m2b, m2r, mT, asB, mChain, mAnd, mOr, mNot, mAndV, mOrV, mNotV, mIf, mNil, mCons, mTup, mLst, mIsN, mNotN, Sr.isNon, mCal, mCal1, mIsi, mFldB, gFld, mC0, mC1, ap0, ap1, chkO, chkL, putL, mMk, apM, skp, sq, sDrop, sRet, sRetO, sIf, sSet, sSetO, sAsg, sPar, gN, gsN, gsC, gT, gA, sApp, sPutI, sNever, mItems, dItems, mRng, mRng2, gRng, gRng2, sFor, turn, gI, gI0, gLt, gLe, gGt, gGe, gAdd, gAddI, gAddS, gAddT, gAddL, Sr.gSub, gMul, gMulI, gDiv, gMod, gPow, gNeg, gEq, gNe, dEq, eqS, gLen, gInt1, gMax2, gMin2, gAbs, gIx, gLtT, dInts, putD, gIsi, dKind, tInt, tOnly, List.map_cons, List.map_nil, List.length_cons, List.length_nil, List.cons_append, List.nil_append, List.getElem?_cons_zero, List.getElem?_cons_succ, List.set_cons_zero, List.set_cons_succ, List.replicate, Option.some_or, Option.none_or, Option.map_some, Option.map_none, Option.bind_some, Option.bind_none]
theorem s_pen (c : Int) : ∃ o, f__law_pen .non [.int c] = .ok o .non ∧ PenOk o := by
  refine ⟨.lst [.int (if c - 10 ^ 18 > 0 then c - 10 ^ 18 else 0), .int (c % 2147483629 + 1), .int 0], ?_, _, _, _, rfl, ?_, ?_, ?_⟩
  · have h : cPow 10 18 = true := by decide
    simp [f__law_pen, b__law_pen, h, sizeLine, mkF0, mkF1, fin0, fin1, st0, st1, bnd, Sr.ret, opt, mN, mNB, mB, der, m1, m2, m2b, m2r, mT, asB, mChain, mAnd, mOr, mNot, mAndV, mOrV, mNotV, mIf, mNil, mCons, mTup, mLst, mIsN, mNotN, Sr.isNon, mCal, mCal1, mIsi, mFldB, gFld, mC0, mC1, ap0, ap1, chkO, chkL, putL, mMk, apM, skp, sq, sDrop, sRet, sRetO, sIf, sSet, sSetO, sAsg, sPar, gN, gsN, gsC, gT, gA, sApp, sPutI, sNever, mItems, dItems, mRng, mRng2, gRng, gRng2, sFor, turn, gI, gI0, gLt, gLe, gGt, gGe, gAdd, gAddI, gAddS, gAddT, gAddL, Sr.gSub, gMul, gMulI, gDiv, gMod, gPow, gNeg, gEq, gNe, dEq, eqS, gLen, gInt1, gMax2, gMin2, gAbs, gIx, gLtT, dInts, putD, gIsi, dKind, tInt, tOnly, List.map_cons, List.map_nil, List.length_cons, List.length_nil, List.cons_append, List.nil_append, List.getElem?_cons_zero, List.getElem?_cons_succ, List.set_cons_zero, List.set_cons_succ, List.replicate, Option.some_or, Option.none_or, Option.map_some, Option.map_none, Option.bind_some, Option.bind_none]
  · split <;> omega
  · omega
  · omega
theorem s_draw (o : D) (many : Int) (hv : PenOk o) (h0 : 0 < many) (h1 : many < 1073741824) : ∃ r o', f__law_draw o [.int many] = .ok (.int r) o' ∧ 0 ≤ r ∧ r < many ∧ PenOk o' := by
  obtain ⟨a, b, c, rfl, ha, hb, hb2⟩ := hv
  have hd : ∀ x, cDiv x many = true := fun x => by unfold cDiv; simp; omega
  by_cases h : 0 < a
  · refine ⟨a % many, .lst [.int (a / many), .int b, .int c], ?_, Int.emod_nonneg _ (by omega), Int.emod_lt_of_pos _ h0, _, _, _, rfl, Int.ediv_nonneg ha (by omega), hb, hb2⟩
    simp [f__law_draw, b__law_draw, h, h0, hd, atI, ixN, mkF0, mkF1, fin0, fin1, st0, st1, bnd, Sr.ret, opt, mN, mNB, mB, der, m1, m2, m2b, m2r, mT, asB, mChain, mAnd, mOr, mNot, mAndV, mOrV, mNotV, mIf, mNil, mCons, mTup, mLst, mIsN, mNotN, Sr.isNon, mCal, mCal1, mIsi, mFldB, gFld, mC0, mC1, ap0, ap1, chkO, chkL, putL, mMk, apM, skp, sq, sDrop, sRet, sRetO, sIf, sSet, sSetO, sAsg, sPar, gN, gsN, gsC, gT, gA, sApp, sPutI, sNever, mItems, dItems, mRng, mRng2, gRng, gRng2, sFor, turn, gI, gI0, gLt, gLe, gGt, gGe, gAdd, gAddI, gAddS, gAddT, gAddL, Sr.gSub, gMul, gMulI, gDiv, gMod, gPow, gNeg, gEq, gNe, dEq, eqS, gLen, gInt1, gMax2, gMin2, gAbs, gIx, gLtT, dInts, putD, gIsi, dKind, tInt, tOnly, List.map_cons, List.map_nil, List.length_cons, List.length_nil, List.cons_append, List.nil_append, List.getElem?_cons_zero, List.getElem?_cons_succ, List.set_cons_zero, List.set_cons_succ, List.replicate, Option.some_or, Option.none_or, Option.map_some, Option.map_none, Option.bind_some, Option.bind_none]
  · generalize hb' : (b * 48271 + 1009 * (c + 1) + 7) % 2147483647 = b'
    have e1 : 0 ≤ b' ∧ b' < 2147483647 := by omega
    generalize hm : (b' * b' + 69621 * b' + 11) % 2147483629 = m
    have e2 : 0 ≤ m ∧ m < 2147483629 := by omega
    have c1 : cMul b 48271 = true := cmul_l (by omega) (by omega)
    have c2 : cMul 1009 (c + 1) = true := cmul_l (by omega) (by omega)
    have c3 : cMul b' b' = true := cmul_l (by omega) (by omega)
    have c4 : cMul 69621 b' = true := cmul_l (by omega) (by omega)
    have c5 : cMul m m = true := cmul_l (by omega) (by omega)
    have c6 : cMul 40014 m = true := cmul_l (by omega) (by omega)
    have c7 : ∀ x, cDiv x 16 = true := fun x => by unfold cDiv; simp
    refine ⟨((m * m + 40014 * m) % 2147483587 / 16) % many, .lst [.int a, .int b', .int (c + 1)], ?_, Int.emod_nonneg _ (by omega), Int.emod_lt_of_pos _ h0, _, _, _, rfl, ha, by omega, by omega⟩
    simp [f__law_draw, b__law_draw, h, h0, hd, hb', hm, c1, c2, c3, c4, c5, c6, c7, atI, ixN, mkF0, mkF1, fin0, fin1, st0, st1, bnd, Sr.ret, opt, mN, mNB, mB, der, m1, m2, m2b, m2r, mT, asB, mChain, mAnd, mOr, mNot, mAndV, mOrV, mNotV, mIf, mNil, mCons, mTup, mLst, mIsN, mNotN, Sr.isNon, mCal, mCal1, mIsi, mFldB, gFld, mC0, mC1, ap0, ap1, chkO, chkL, putL, mMk, apM, skp, sq, sDrop, sRet, sRetO, sIf, sSet, sSetO, sAsg, sPar, gN, gsN, gsC, gT, gA, sApp, sPutI, sNever, mItems, dItems, mRng, mRng2, gRng, gRng2, sFor, turn, gI, gI0, gLt, gLe, gGt, gGe, gAdd, gAddI, gAddS, gAddT, gAddL, Sr.gSub, gMul, gMulI, gDiv, gMod, gPow, gNeg, gEq, gNe, dEq, eqS, gLen, gInt1, gMax2, gMin2, gAbs, gIx, gLtT, dInts, putD, gIsi, dKind, tInt, tOnly, List.map_cons, List.map_nil, List.length_cons, List.length_nil, List.cons_append, List.nil_append, List.getElem?_cons_zero, List.getElem?_cons_succ, List.set_cons_zero, List.set_cons_succ, List.replicate, Option.some_or, Option.none_or, Option.map_some, Option.map_none, Option.bind_some, Option.bind_none]
theorem s_cell (ns : List Int) (k : Int) (hk : 0 ≤ k) : ∃ c, f__law_cell_at .non [.scr ns, .int k] = .ok (.int c) .non := by
  by_cases h : k < ns.length
  · have hi : k.toNat < ns.length := by omega
    refine ⟨ns[k.toNat], ?_⟩
    simp [f__law_cell_at, b__law_cell_at, h, hk, hi, atI, ixN, mkF0, mkF1, fin0, fin1, st0, st1, bnd, Sr.ret, opt, mN, mNB, mB, der, m1, m2, m2b, m2r, mT, asB, mChain, mAnd, mOr, mNot, mAndV, mOrV, mNotV, mIf, mNil, mCons, mTup, mLst, mIsN, mNotN, Sr.isNon, mCal, mCal1, mIsi, mFldB, gFld, mC0, mC1, ap0, ap1, chkO, chkL, putL, mMk, apM, skp, sq, sDrop, sRet, sRetO, sIf, sSet, sSetO, sAsg, sPar, gN, gsN, gsC, gT, gA, sApp, sPutI, sNever, mItems, dItems, mRng, mRng2, gRng, gRng2, sFor, turn, gI, gI0, gLt, gLe, gGt, gGe, gAdd, gAddI, gAddS, gAddT, gAddL, Sr.gSub, gMul, gMulI, gDiv, gMod, gPow, gNeg, gEq, gNe, dEq, eqS, gLen, gInt1, gMax2, gMin2, gAbs, gIx, gLtT, dInts, putD, gIsi, dKind, tInt, tOnly, List.map_cons, List.map_nil, List.length_cons, List.length_nil, List.cons_append, List.nil_append, List.getElem?_cons_zero, List.getElem?_cons_succ, List.set_cons_zero, List.set_cons_succ, List.replicate, Option.some_or, Option.none_or, Option.map_some, Option.map_none, Option.bind_some, Option.bind_none]
  · refine ⟨0, ?_⟩
    simp [f__law_cell_at, b__law_cell_at, h, mkF0, mkF1, fin0, fin1, st0, st1, bnd, Sr.ret, opt, mN, mNB, mB, der, m1, m2, m2b, m2r, mT, asB, mChain, mAnd, mOr, mNot, mAndV, mOrV, mNotV, mIf, mNil, mCons, mTup, mLst, mIsN, mNotN, Sr.isNon, mCal, mCal1, mIsi, mFldB, gFld, mC0, mC1, ap0, ap1, chkO, chkL, putL, mMk, apM, skp, sq, sDrop, sRet, sRetO, sIf, sSet, sSetO, sAsg, sPar, gN, gsN, gsC, gT, gA, sApp, sPutI, sNever, mItems, dItems, mRng, mRng2, gRng, gRng2, sFor, turn, gI, gI0, gLt, gLe, gGt, gGe, gAdd, gAddI, gAddS, gAddT, gAddL, Sr.gSub, gMul, gMulI, gDiv, gMod, gPow, gNeg, gEq, gNe, dEq, eqS, gLen, gInt1, gMax2, gMin2, gAbs, gIx, gLtT, dInts, putD, gIsi, dKind, tInt, tOnly, List.map_cons, List.map_nil, List.length_cons, List.length_nil, List.cons_append, List.nil_append, List.getElem?_cons_zero, List.getElem?_cons_succ, List.set_cons_zero, List.set_cons_succ, List.replicate, Option.some_or, Option.none_or, Option.map_some, Option.map_none, Option.bind_some, Option.bind_none]
theorem s_pick (o : D) (ds : List D) (hv : PenOk o) (h0 : 0 < ds.length) (h1 : ds.length < 100) : ∃ d o', f__law_pick o [.lst ds] = .ok d o' ∧ d ∈ ds ∧ PenOk o' := by
  obtain ⟨r, o1, e1, h2, h2', v1⟩ := s_draw o (ds.length : Int) hv (by omega) (by omega)
  have hi : r.toNat < ds.length := by omega
  refine ⟨ds[r.toNat], o1, ?_, List.getElem_mem hi, v1⟩
  simp [f__law_pick, b__law_pick, e1, atI, ixN, h2, h2', hi, mkF0, mkF1, fin0, fin1, st0, st1, bnd, Sr.ret, opt, mN, mNB, mB, der, m1, m2, m2b, m2r, mT, asB, mChain, mAnd, mOr, mNot, mAndV, mOrV, mNotV, mIf, mNil, mCons, mTup, mLst, mIsN, mNotN, Sr.isNon, mCal, mCal1, mIsi, mFldB, gFld, mC0, mC1, ap0, ap1, chkO, chkL, putL, mMk, apM, skp, sq, sDrop, sRet, sRetO, sIf, sSet, sSetO, sAsg, sPar, gN, gsN, gsC, gT, gA, sApp, sPutI, sNever, mItems, dItems, mRng, mRng2, gRng, gRng2, sFor, turn, gI, gI0, gLt, gLe, gGt, gGe, gAdd, gAddI, gAddS, gAddT, gAddL, Sr.gSub, gMul, gMulI, gDiv, gMod, gPow, gNeg, gEq, gNe, dEq, eqS, gLen, gInt1, gMax2, gMin2, gAbs, gIx, gLtT, dInts, putD, gIsi, dKind, tInt, tOnly, List.map_cons, List.map_nil, List.length_cons, List.length_nil, List.cons_append, List.nil_append, List.getElem?_cons_zero, List.getElem?_cons_succ, List.set_cons_zero, List.set_cons_succ, List.replicate, Option.some_or, Option.none_or, Option.map_some, Option.map_none, Option.bind_some, Option.bind_none]
theorem ix_ud (r : Int) (h0 : 0 ≤ r) (h1 : r < 2) : ∃ b, gIx (.str "UD") (.int r) = some (encS b) := by
  have : r = 0 ∨ r = 1 := by omega
  rcases this with rfl | rfl
  · exact ⟨true, by kernel_rfl⟩
  · exact ⟨false, by kernel_rfl⟩
theorem rngI (W : Int) (h0 : 0 ≤ W) (h1 : W < 1000000) : gRng [.int W] = some ((irng 0 W).map D.int) := by
  have hok : okR W = true := by unfold okR; simp; omega
  simp only [gRng, hok, if_true]; rw [rngL_eq]
theorem ix_lst (ys : List D) (i : Int) (h0 : 0 ≤ i) (h : i.toNat < ys.length) : gIx (.lst ys) (.int i) = some ys[i.toNat] := by
  have e : i = ((i.toNat : Nat) : Int) := by omega
  generalize i.toNat = k at *
  subst e
  simp only [gIx]
  rw [Sr.atI_nat h]
abbrev rw3 (b : Bool) (a c : Int) : D := .tup [encS b, .int a, .int c]
theorem rows_of (N : Nat) : ∀ (ys : List D), (∀ y ∈ ys, ∃ b a c, y = rw3 b a c ∧ (0 ≤ a ∧ a < N) ∧ (0 ≤ c ∧ c < N)) → ∃ g : Tb.Tab, ys = g.map encR ∧ (∀ r ∈ g, r.2.1 < N ∧ r.2.2 < N) ∧ g.length = ys.length
  | [], _ => ⟨[], rfl, by simp, rfl⟩
  | y :: ys, h => by
    obtain ⟨b, a, c, rfl, ha, hc⟩ := h y (by simp)
    obtain ⟨g, rfl, hg, hl⟩ := rows_of N ys fun z hz => h z (by simp [hz])
    refine ⟨(b, a.toNat, c.toNat) :: g, ?_, fun z hz => ?_, by simp⟩
    · rw [List.map_cons]
      congr 1
      simp only [encR, rw3]
      rw [Int.toNat_of_nonneg ha.1, Int.toNat_of_nonneg hc.1]
    · rcases List.mem_cons.mp hz with rfl | hz
      · exact ⟨show a.toNat < N by omega, show c.toNat < N by omega⟩
      · exact hg z hz
theorem mLc_of {m : M (List D)} {w : D → M Unit} {t : M Bool} {el : M D} {vs : List Nat} {e e1 e2 : En} {ds ys : List D} (hm : m e = .ok ds e1) (h : lcL w t el vs ds [] (wipE vs e1) = .ok ys e2) : mLc vs m w t el e = .ok (.lst ys) (rst vs e1 e2) := by
  unfold mLc
  rw [bnd_ok hm]
  simp only [h]
theorem s_groups (x1 x2 x3 : Sl) (w : Int) (hw : 0 < w) (hw2 : w < 1000) (o : D) (ho : PenOk o) : ∃ (ys : List D) (o' : D), mLc [10] (mRng (mCons (mN 4) mNil)) (gN 10) t__law_table_1 e__law_table_1 [.own o, x1, x2, x3, .val (.int w), .no, .no, .no, .no, .no, .no] =
    .ok (.lst ys) [.own o', x1, x2, x3, .val (.int w), .no, .no, .no, .no, .no, .no] ∧ ys.length = w.toNat ∧ (∀ y ∈ ys, ∃ b a c, y = rw3 b a c ∧ (0 ≤ a ∧ a < w) ∧ (0 ≤ c ∧ c < w)) ∧ PenOk o' := by
  have hr := rngI w (by omega) (by omega)
  have hl : ((irng 0 w).map D.int).length = w.toNat := by simp [irng]
  obtain ⟨ys, e', h1, h2, h3, o', rfl, vo⟩ := lcL_inv (w := gN 10) (t := t__law_table_1) (el := e__law_table_1) (vs := [10]) (fun e => ∃ o', e = [.own o', x1, x2, x3, .val (.int w), .no, .no, .no, .no, .no, .no] ∧ PenOk o') (fun y => ∃ b a c, y = rw3 b a c ∧ (0 ≤ a ∧ a < w) ∧ (0 ≤ c ∧ c < w)) ((irng 0 w).map D.int) [] [.own o, x1, x2, x3, .val (.int w), .no, .no, .no, .no, .no, .no] (by rw [hl]; simp; omega) (by
      rintro d hd e ⟨o, rfl, ho⟩
      obtain ⟨r1, o1, e1, g0, g1, v1⟩ := s_draw o 2 ho (by omega) (by omega)
      obtain ⟨b, hb⟩ := ix_ud r1 g0 g1
      obtain ⟨r2, o2, e2, g2, g2', v2⟩ := s_draw o1 w v1 (by omega) (by omega)
      obtain ⟨r3, o3, e3, g3, g3', v3⟩ := s_draw o2 w v2 (by omega) (by omega)
      refine ⟨[.own o, x1, x2, x3, .val (.int w), .no, .no, .no, .no, .no, .val d], [.own o, x1, x2, x3, .val (.int w), .no, .no, .no, .no, .no, .val d], [.own o3, x1, x2, x3, .val (.int w), .no, .no, .no, .no, .no, .val d], rw3 b r2 r3, rfl, rfl, ?_, ⟨_, _, _, rfl, ⟨g2, g2'⟩, g3, g3'⟩, o3, rfl, v3⟩
      have hz : (3 : Nat) ≤ sizeLine := by decide
      simp [e__law_table_1, e1, e2, e3, hb, hz, mkF0, mkF1, fin0, fin1, st0, st1, bnd, Sr.ret, opt, mN, mNB, mB, der, m1, m2, m2b, m2r, mT, asB, mChain, mAnd, mOr, mNot, mAndV, mOrV, mNotV, mIf, mNil, mCons, mTup, mLst, mIsN, mNotN, Sr.isNon, mCal, mCal1, mIsi, mFldB, gFld, mC0, mC1, ap0, ap1, chkO, chkL, putL, mMk, apM, skp, sq, sDrop, sRet, sRetO, sIf, sSet, sSetO, sAsg, sPar, gN, gsN, gsC, gT, gA, sApp, sPutI, sNever, mItems, dItems, mRng, mRng2, gRng, gRng2, sFor, turn, gI, gI0, gLt, gLe, gGt, gGe, gAdd, gAddI, gAddS, gAddT, gAddL, Sr.gSub, gMul, gMulI, gDiv, gMod, gPow, gNeg, gEq, gNe, dEq, eqS, gLen, gInt1, gMax2, gMin2, gAbs, gLtT, dInts, putD, gIsi, dKind, tInt, tOnly, List.map_cons, List.map_nil, List.length_cons, List.length_nil, List.cons_append, List.nil_append, List.getElem?_cons_zero, List.getElem?_cons_succ, List.set_cons_zero, List.set_cons_succ, List.replicate, Option.some_or, Option.none_or, Option.map_some, Option.map_none, Option.bind_some, Option.bind_none]) ⟨o, rfl, ho⟩
  refine ⟨ys, o', ?_, by rw [hl] at h2; simpa using h2, h3, vo⟩
  rw [List.nil_append] at h1
  have hm : mRng (mCons (mN 4) mNil) [.own o, x1, x2, x3, .val (.int w), .no, .no, .no, .no, .no, .no] = .ok ((irng 0 w).map D.int) [.own o, x1, x2, x3, .val (.int w), .no, .no, .no, .no, .no, .no] := by
    simp [mRng, hr, bnd, mCons, mNil, mN, opt, Sr.ret]
  exact mLc_of hm h1
theorem t_table (n w way : Int) (hn : 0 < n) (hn2 : n ≤ 1000) (hw : 0 < w) (hw2 : w ≤ n) (G : List D) (hG : ∀ i, 0 ≤ i → i < w → ∃ b a c, gIx (.lst G) (.int i) = some (rw3 b a c) ∧ (0 ≤ a ∧ a < w) ∧ (0 ≤ c ∧ c < w)) (x : Int) (hx0 : 0 ≤ x) (hx : x < n) (ds : List D) (ht : ds.length ≤ 1000) (o : D) (ho : PenOk o) (j6 j7 j8 j9 j10 : Sl) :
    ∃ (b : Bool) (a c : Int) (o' : D) (k6 k7 k8 k9 k10 : Sl), turn (gN 6) l__law_table_1 (.int x) [.own o, .val (.int n), .val (.int way), .own (.lst ds), .val (.int w), .val (.lst G), j6, j7, j8, j9, j10] =
      .ok .nx [.own o', .val (.int n), .val (.int way), .own (.lst (ds ++ [rw3 b a c])), .val (.int w), .val (.lst G), k6, k7, k8, k9, k10] ∧ (0 ≤ a ∧ a < n) ∧ (0 ≤ c ∧ c < n) ∧ PenOk o' := by
  obtain ⟨r1, o1, e1, g0, g1, v1⟩ := s_draw o 2 ho (by omega) (by omega)
  obtain ⟨b, hb⟩ := ix_ud r1 g0 g1
  have hz : (3 : Nat) ≤ sizeLine := by decide
  have hz2 : ds.length < sizeLine := by
    have e : sizeLine = 16777216 := by decide
    omega
  by_cases c0 : way = 0
  · obtain ⟨r2, o2, e2, g2, g2', v2⟩ := s_draw o1 n v1 (by omega) (by omega)
    obtain ⟨r3, o3, e3, g3, g3', v3⟩ := s_draw o2 n v2 (by omega) (by omega)
    refine ⟨b, r2, r3, o3, .val (.int x), .val (encS b), j8, j9, j10, ?_, ⟨g2, g2'⟩, ⟨g3, g3'⟩, v3⟩
    subst c0
    simp [l__law_table_1, e1, e2, e3, hb, hz, hz2, mkF0, mkF1, fin0, fin1, st0, st1, bnd, Sr.ret, opt, mN, mNB, mB, der, m1, m2, m2b, m2r, mT, asB, mChain, mAnd, mOr, mNot, mAndV, mOrV, mNotV, mIf, mNil, mCons, mTup, mLst, mIsN, mNotN, Sr.isNon, mCal, mCal1, mIsi, mFldB, gFld, mC0, mC1, ap0, ap1, chkO, chkL, putL, mMk, apM, skp, sq, sDrop, sRet, sRetO, sIf, sSet, sSetO, sAsg, sPar, gN, gsN, gsC, gT, gA, sApp, sPutI, sNever, mItems, dItems, mRng, mRng2, gRng, gRng2, sFor, turn, gI, gI0, gLt, gLe, gGt, gGe, gAdd, gAddI, gAddS, gAddT, gAddL, Sr.gSub, gMul, gMulI, gDiv, gMod, gPow, gNeg, gEq, gNe, dEq, eqS, gLen, gInt1, gMax2, gMin2, gAbs, gLtT, dInts, putD, gIsi, dKind, tInt, tOnly, List.map_cons, List.map_nil, List.length_cons, List.length_nil, List.cons_append, List.nil_append, List.getElem?_cons_zero, List.getElem?_cons_succ, List.set_cons_zero, List.set_cons_succ, List.replicate, Option.some_or, Option.none_or, Option.map_some, Option.map_none, Option.bind_some, Option.bind_none]
  · by_cases c1 : way = 1
    · obtain ⟨r2, o2, e2, g2, g2', v2⟩ := s_draw o1 (x + 1) v1 (by omega) (by omega)
      refine ⟨b, (x + 1) % n, r2, o2, .val (.int x), .val (encS b), j8, j9, j10, ?_, ⟨Int.emod_nonneg _ (by omega), Int.emod_lt_of_pos _ hn⟩, ⟨g2, by omega⟩, v2⟩
      subst c1
      simp [l__law_table_1, e1, e2, hb, hz, hz2, hn, mkF0, mkF1, fin0, fin1, st0, st1, bnd, Sr.ret, opt, mN, mNB, mB, der, m1, m2, m2b, m2r, mT, asB, mChain, mAnd, mOr, mNot, mAndV, mOrV, mNotV, mIf, mNil, mCons, mTup, mLst, mIsN, mNotN, Sr.isNon, mCal, mCal1, mIsi, mFldB, gFld, mC0, mC1, ap0, ap1, chkO, chkL, putL, mMk, apM, skp, sq, sDrop, sRet, sRetO, sIf, sSet, sSetO, sAsg, sPar, gN, gsN, gsC, gT, gA, sApp, sPutI, sNever, mItems, dItems, mRng, mRng2, gRng, gRng2, sFor, turn, gI, gI0, gLt, gLe, gGt, gGe, gAdd, gAddI, gAddS, gAddT, gAddL, Sr.gSub, gMul, gMulI, gDiv, gMod, gPow, gNeg, gEq, gNe, dEq, eqS, gLen, gInt1, gMax2, gMin2, gAbs, gLtT, dInts, putD, gIsi, dKind, tInt, tOnly, List.map_cons, List.map_nil, List.length_cons, List.length_nil, List.cons_append, List.nil_append, List.getElem?_cons_zero, List.getElem?_cons_succ, List.set_cons_zero, List.set_cons_succ, List.replicate, Option.some_or, Option.none_or, Option.map_some, Option.map_none, Option.bind_some, Option.bind_none]
    · obtain ⟨qb, q1, q2, hi, h1, h2⟩ := hG (x % w) (Int.emod_nonneg _ (by omega)) (Int.emod_lt_of_pos _ hw)
      have cm : ∀ z, cMul w z = true := fun z => cmul_l (by omega) (by omega)
      by_cases hlt : q1 + w < n
      · by_cases hxp : 0 < x
        · refine ⟨qb, q1 + w, q2, o1, .val (.int x), .val (encS qb), .val (.int q1), .val (.int q2), j10, ?_, ⟨by omega, by omega⟩, ⟨by omega, by omega⟩, v1⟩
          simp [l__law_table_1, e1, hb, hz, hz2, hw, hi, c0, c1, cm, hlt, hxp, mkF0, mkF1, fin0, fin1, st0, st1, bnd, Sr.ret, opt, mN, mNB, mB, der, m1, m2, m2b, m2r, mT, asB, mChain, mAnd, mOr, mNot, mAndV, mOrV, mNotV, mIf, mNil, mCons, mTup, mLst, mIsN, mNotN, Sr.isNon, mCal, mCal1, mIsi, mFldB, gFld, mC0, mC1, ap0, ap1, chkO, chkL, putL, mMk, apM, skp, sq, sDrop, sRet, sRetO, sIf, sSet, sSetO, sAsg, sPar, gN, gsN, gsC, gT, gA, sApp, sPutI, sNever, mItems, dItems, mRng, mRng2, gRng, gRng2, sFor, turn, gI, gI0, gLt, gLe, gGt, gGe, gAdd, gAddI, gAddS, gAddT, gAddL, Sr.gSub, gMul, gMulI, gDiv, gMod, gPow, gNeg, gEq, gNe, dEq, eqS, gLen, gInt1, gMax2, gMin2, gAbs, gLtT, dInts, putD, gIsi, dKind, tInt, tOnly, List.map_cons, List.map_nil, List.length_cons, List.length_nil, List.cons_append, List.nil_append, List.getElem?_cons_zero, List.getElem?_cons_succ, List.set_cons_zero, List.set_cons_succ, List.replicate, Option.some_or, Option.none_or, Option.map_some, Option.map_none, Option.bind_some, Option.bind_none]
        · refine ⟨qb, q1, q2, o1, .val (.int x), .val (encS qb), .val (.int q1), .val (.int q2), j10, ?_, ⟨by omega, by omega⟩, ⟨by omega, by omega⟩, v1⟩
          simp [l__law_table_1, e1, hb, hz, hz2, hw, hi, c0, c1, cm, hlt, hxp, mkF0, mkF1, fin0, fin1, st0, st1, bnd, Sr.ret, opt, mN, mNB, mB, der, m1, m2, m2b, m2r, mT, asB, mChain, mAnd, mOr, mNot, mAndV, mOrV, mNotV, mIf, mNil, mCons, mTup, mLst, mIsN, mNotN, Sr.isNon, mCal, mCal1, mIsi, mFldB, gFld, mC0, mC1, ap0, ap1, chkO, chkL, putL, mMk, apM, skp, sq, sDrop, sRet, sRetO, sIf, sSet, sSetO, sAsg, sPar, gN, gsN, gsC, gT, gA, sApp, sPutI, sNever, mItems, dItems, mRng, mRng2, gRng, gRng2, sFor, turn, gI, gI0, gLt, gLe, gGt, gGe, gAdd, gAddI, gAddS, gAddT, gAddL, Sr.gSub, gMul, gMulI, gDiv, gMod, gPow, gNeg, gEq, gNe, dEq, eqS, gLen, gInt1, gMax2, gMin2, gAbs, gLtT, dInts, putD, gIsi, dKind, tInt, tOnly, List.map_cons, List.map_nil, List.length_cons, List.length_nil, List.cons_append, List.nil_append, List.getElem?_cons_zero, List.getElem?_cons_succ, List.set_cons_zero, List.set_cons_succ, List.replicate, Option.some_or, Option.none_or, Option.map_some, Option.map_none, Option.bind_some, Option.bind_none]
      · refine ⟨qb, q1, q2, o1, .val (.int x), .val (encS qb), .val (.int q1), .val (.int q2), j10, ?_, ⟨by omega, by omega⟩, ⟨by omega, by omega⟩, v1⟩
        simp [l__law_table_1, e1, hb, hz, hz2, hw, hi, c0, c1, cm, hlt, mkF0, mkF1, fin0, fin1, st0, st1, bnd, Sr.ret, opt, mN, mNB, mB, der, m1, m2, m2b, m2r, mT, asB, mChain, mAnd, mOr, mNot, mAndV, mOrV, mNotV, mIf, mNil, mCons, mTup, mLst, mIsN, mNotN, Sr.isNon, mCal, mCal1, mIsi, mFldB, gFld, mC0, mC1, ap0, ap1, chkO, chkL, putL, mMk, apM, skp, sq, sDrop, sRet, sRetO, sIf, sSet, sSetO, sAsg, sPar, gN, gsN, gsC, gT, gA, sApp, sPutI, sNever, mItems, dItems, mRng, mRng2, gRng, gRng2, sFor, turn, gI, gI0, gLt, gLe, gGt, gGe, gAdd, gAddI, gAddS, gAddT, gAddL, Sr.gSub, gMul, gMulI, gDiv, gMod, gPow, gNeg, gEq, gNe, dEq, eqS, gLen, gInt1, gMax2, gMin2, gAbs, gLtT, dInts, putD, gIsi, dKind, tInt, tOnly, List.map_cons, List.map_nil, List.length_cons, List.length_nil, List.cons_append, List.nil_append, List.getElem?_cons_zero, List.getElem?_cons_succ, List.set_cons_zero, List.set_cons_succ, List.replicate, Option.some_or, Option.none_or, Option.map_some, Option.map_none, Option.bind_some, Option.bind_none]
theorem fold_len {A : Type} : ∀ (l : List A) (a : Nat), l.foldl (fun k _ => k + 1) a = a + l.length
  | [], a => rfl
  | y :: l, a => by rw [List.foldl_cons, fold_len, List.length_cons]; omega
theorem s_table (o : D) (n : Int) (ho : PenOk o) (hn : 0 < n) (hn2 : n ≤ 500) : ∃ (t : Tb.Tab) (o' : D), f__law_table o [.int n] = .ok (encT t) o' ∧ t.length = n.toNat ∧ Tb.Ok t ∧ PenOk o' := by
  obtain ⟨way, o1, e1, g1, g1', v1⟩ := s_draw o 3 ho (by omega) (by omega)
  obtain ⟨w', o2, e2, g2, g2', v2⟩ := s_draw o1 n v1 hn (by omega)
  obtain ⟨G, o3, e3, g3, g4, v3⟩ := s_groups (.val (.int n)) (.val (.int way)) (.own (.lst [])) (1 + w') (by omega) (by omega) o2 v2
  have ha : gAdd (.int 1) (.int w') = some (.int (1 + w')) := rfl
  have hw : 0 < 1 + w' ∧ 1 + w' ≤ n := by omega
  generalize 1 + w' = w at *
  have hr := rngI n (by omega) (by omega)
  have H := forL_map (w := gN 6) (b := l__law_table_1) D.int (fun (k : Nat) e => ∃ (ds : List D) (o' : D) (k6 k7 k8 k9 k10 : Sl), e = [.own o', .val (.int n), .val (.int way), .own (.lst ds), .val (.int w), .val (.lst G), k6, k7, k8, k9, k10] ∧ ds.length = k ∧ (∀ y ∈ ds, ∃ b a c, y = rw3 b a c ∧ (0 ≤ a ∧ a < n) ∧ (0 ≤ c ∧ c < n)) ∧ PenOk o') (fun k _ => k + 1) 0 (irng 0 n) [.own o3, .val (.int n), .val (.int way), .own (.lst []), .val (.int w), .val (.lst G), .no, .no, .no, .no, .no]
    (by
      rintro pre x post hp e ⟨ds, o', k6, k7, k8, k9, k10, rfl, ht, hok, vo⟩
      have hl : pre.length < n.toNat := by
        have := congrArg List.length hp
        simp [irng] at this
        omega
      have hx : 0 ≤ x ∧ x < n := irng_mem (by rw [hp]; simp)
      rw [fold_len] at ht ⊢
      obtain ⟨b, a, c, o'', m6, m7, m8, m9, m10, h, ha, hc, v⟩ := t_table n w way hn (by omega) hw.1 hw.2 G (fun i h0 h1 => by
        have hi := ix_lst G i h0 (by omega)
        obtain ⟨b, a, c, e, q⟩ := g4 _ (List.getElem_mem (by omega : i.toNat < G.length))
        exact ⟨b, a, c, by rw [hi, e], q⟩) x hx.1 hx.2 ds (by omega) o' vo k6 k7 k8 k9 k10
      refine ⟨_, h, ds ++ [rw3 b a c], o'', m6, m7, m8, m9, m10, rfl, by simp; omega, fun q hq => ?_, v⟩
      rw [List.mem_append] at hq
      rcases hq with hq | hq
      · exact hok q hq
      · rw [List.mem_singleton] at hq; subst hq; exact ⟨b, a, c, rfl, ha, hc⟩)
    ⟨[], o3, .no, .no, .no, .no, .no, rfl, rfl, by simp, v3⟩
  obtain ⟨e', h, ds, o', k6, k7, k8, k9, k10, rfl, ht, hok2, vo⟩ := H
  have hli : (irng 0 n).length = n.toNat := by simp [irng]
  rw [fold_len, hli, Nat.zero_add] at ht
  obtain ⟨t, rfl, h5, h6⟩ := rows_of n.toNat ds fun y hy => by
    obtain ⟨b, a, c, e, h1, h2⟩ := hok2 y hy
    exact ⟨b, a, c, e, by omega, by omega⟩
  refine ⟨t, o', ?_, by omega, fun r hr => by rw [h6, ht]; exact h5 r hr, vo⟩
  generalize (irng 0 n).map D.int = L at h hr
  have hm : ∀ a b c d f g h i j k, mRng (mCons (mN 1) mNil) [a, .val (.int n), b, c, d, f, g, h, i, j, k] = .ok L [a, .val (.int n), b, c, d, f, g, h, i, j, k] := by
    intro a b c d f g h i j k
    simp [mRng, hr, bnd, mCons, mNil, mN, opt, Sr.ret]
  generalize hX : mRng (mCons (mN 1) mNil) = X at hm
  generalize hY : mLc [10] (mRng (mCons (mN 4) mNil)) (gN 10) t__law_table_1 e__law_table_1 = Y at e3
  simp only [f__law_table, b__law_table, hX, hY]
  simp [sParM, putM, xCons, xConsO, xNil, e1, e2, ha, e3, hm, h, gTuple, encT, mkF0, mkF1, fin0, fin1, st0, st1, bnd, Sr.ret, opt, mN, mNB, mB, der, m1, m2, m2b, m2r, mT, asB, mChain, mAnd, mOr, mNot, mAndV, mOrV, mNotV, mIf, mNil, mCons, mTup, mLst, mIsN, mNotN, Sr.isNon, mCal, mCal1, mIsi, mFldB, gFld, mC0, mC1, ap0, ap1, chkO, chkL, putL, mMk, apM, skp, sq, sDrop, sRet, sRetO, sIf, sSet, sSetO, sAsg, sPar, gN, gsN, gsC, gT, gA, sApp, sPutI, sNever, mItems, dItems, mRng2, gRng2, sFor, turn, gI, gI0, gLt, gLe, gGt, gGe, gAddI, gAddS, gAddT, gAddL, Sr.gSub, gMul, gMulI, gDiv, gMod, gPow, gNeg, gEq, gNe, dEq, eqS, gLen, gInt1, gMax2, gMin2, gAbs, gIx, gLtT, dInts, putD, gIsi, dKind, tInt, tOnly, List.map_cons, List.map_nil, List.length_cons, List.length_nil, List.cons_append, List.nil_append, List.getElem?_cons_zero, List.getElem?_cons_succ, List.set_cons_zero, List.set_cons_succ, List.replicate, Option.some_or, Option.none_or, Option.map_some, Option.map_none, Option.bind_some, Option.bind_none]
theorem fld_rule (t : Tb.Tab) : gFld "Rule" "table" (ruleO t) = some (encT t) := by simp [gFld, ruleO, List.lookup]
theorem len_tab (t : Tb.Tab) (h : t.length ≤ 1000) : gLen (encT t) = some (.int (t.length : Nat)) := by
  have hz : t.length ≤ sizeLine := by
    have e : sizeLine = 16777216 := by decide
    omega
  simp [encT, gLen, hz]
theorem s_number_ok (v lo hi : Int) (h1 : lo ≤ v) (h2 : v ≤ hi) : f_check_number .non [.int v, .int lo, .int hi] = .ok .non .non := by
  have h := s_between h1 h2
  simp [f_check_number, b_check_number, h, mkF0, mkF1, fin0, fin1, st0, st1, bnd, Sr.ret, opt, mN, mNB, mB, der, m1, m2, m2b, m2r, mT, asB, mChain, mAnd, mOr, mNot, mAndV, mOrV, mNotV, mIf, mNil, mCons, mTup, mLst, mIsN, mNotN, Sr.isNon, mCal, mCal1, mIsi, mFldB, gFld, mC0, mC1, ap0, ap1, chkO, chkL, putL, mMk, apM, skp, sq, sDrop, sRet, sRetO, sIf, sSet, sSetO, sAsg, sPar, gN, gsN, gsC, gT, gA, sApp, sPutI, sNever, mItems, dItems, mRng, mRng2, gRng, gRng2, sFor, turn, gI, gI0, gLt, gLe, gGt, gGe, gAdd, gAddI, gAddS, gAddT, gAddL, Sr.gSub, gMul, gMulI, gDiv, gMod, gPow, gNeg, gEq, gNe, dEq, eqS, gLen, gInt1, gMax2, gMin2, gAbs, gIx, gLtT, dInts, putD, gIsi, dKind, tInt, tOnly, List.map_cons, List.map_nil, List.length_cons, List.length_nil, List.cons_append, List.nil_append, List.getElem?_cons_zero, List.getElem?_cons_succ, List.set_cons_zero, List.set_cons_succ, List.replicate, Option.some_or, Option.none_or, Option.map_some, Option.map_none, Option.bind_some, Option.bind_none]
def Rpr (d : D) : Prop := ∃ z, gReprA d = some (.str z)
theorem eq_strs (z : Str) : gEq (.str z) (.str z) = some (.bl true) := by simp [gEq, dEq, eqS]
theorem shl_all {k n : Nat} : ∀ (ds : List D), (∀ d ∈ ds, ∃ p, Sh d k n p) → ∃ ps, ShL ds k ((n + 2) * ds.length) ps
  | [], _ => ⟨[], ⟨rfl, rfl, rfl, Nat.zero_le _, Nat.zero_le _⟩⟩
  | d :: ds, h => by
    obtain ⟨p, hp⟩ := h d (by simp)
    obtain ⟨ps, hps⟩ := shl_all ds fun x hx => h x (by simp [hx])
    have := shl_cons hp hps
    rw [Nat.max_self] at this
    refine ⟨p :: ps, ?_⟩
    have e : (n + 2) * (d :: ds).length = n + 2 + (n + 2) * ds.length := by rw [List.length_cons, Nat.mul_succ]; omega
    rw [e]
    exact this
theorem sh_encS (b : Bool) : ∃ p, Sh (encS b) 0 3 p := by
  cases b
  · exact ⟨_, rfl, by decide +kernel, rfl, Nat.le_refl _, by decide +kernel⟩
  · exact ⟨_, rfl, by decide +kernel, rfl, Nat.le_refl _, by decide +kernel⟩
theorem sh_row (r : Tb.Row) (h1 : r.2.1 < 100) (h2 : r.2.2 < 100) : ∃ p, Sh (encR r) 1 16 p := by
  obtain ⟨p, hp⟩ := sh_encS r.1
  have := sh_tup (shl_cons hp (shl_cons (sh_int (i := (r.2.1 : Int)) (by omega) (by omega)) (shl_cons (sh_int (i := (r.2.2 : Int)) (by omega) (by omega)) shl_nil)))
  exact ⟨_, this.eq, this.sh, this.nd, this.dp, this.ln⟩
theorem sh_tab (t : Tb.Tab) (ok : Tb.Ok t) (h : t.length ≤ 100) : ∃ p, Sh (encT t) 2 1803 p := by
  obtain ⟨ps, hps⟩ := shl_all (k := 1) (n := 16) (t.map encR) fun d hd => by
    rw [List.mem_map] at hd
    obtain ⟨r, hr, rfl⟩ := hd
    have := ok r hr
    exact sh_row r (by omega) (by omega)
  have := sh_tup hps
  rw [List.length_map] at this
  exact ⟨_, this.eq, this.sh, this.nd, this.dp, Nat.le_trans this.ln (by omega)⟩
theorem rpr_tup {ds : List D} {k n : Nat} {p : PyData} (h : Sh (.tup ds) k n p) (hk : k ≤ 64) (hn : n ≤ 16777216) : Rpr (.tup ds) := ⟨p.shown, by
  show (gRepr (.tup ds)).or _ = _
  rw [repr_tup h hk hn]; rfl⟩
theorem rpr_tab (t : Tb.Tab) (ok : Tb.Ok t) (h : t.length ≤ 100) : Rpr (encT t) := by
  obtain ⟨p, hp⟩ := sh_tab t ok h
  exact rpr_tup hp (by omega) (by omega)
def upF (b : Bool) (x y : Bool) : Bool := if b then x && y else x || y
theorem cmul_r {i j : Int} (h1 : -1000000 < j) (h2 : j < 1000000) : cMul i j = true := by
  unfold cMul; simp; right; exact ⟨by omega, by omega⟩
theorem t_jn1 (bb x y : Bool) (m p q u v : Int) (hm0 : 0 ≤ m) (hm : m ≤ 1000) (ds : List D) (hl : ds.length < 10000) (a0 a1 j8 j9 j10 j11 j12 : Sl) : ∃ k11 k12, turn (gT 3 (gsC (gN 8) (gsC (gN 9) (gsC (gN 10) gsN)))) l_joined_1 (.tup [encS y, .int p, .int q]) [a0, a1, .val (.bl bb), .val (.int m), .own (.lst ds), .val (encS x), .val (.int u), .val (.int v), j8, j9, j10, j11, j12] =
    .ok .nx [a0, a1, .val (.bl bb), .val (.int m), .own (.lst (ds ++ [.tup [encS (upF bb x y), .int (u * m + p), .int (v * m + q)]])), .val (encS x), .val (.int u), .val (.int v), .val (encS y), .val (.int p), .val (.int q), k11, k12] := by
  have hz : ds.length < sizeLine := by
    have e : sizeLine = 16777216 := by decide
    omega
  have hz3 : (3 : Nat) ≤ sizeLine := by decide
  have c1 : cMul u m = true := cmul_r (by omega) (by omega)
  have c2 : cMul v m = true := cmul_r (by omega) (by omega)
  have hu : gEq (.str "U") (.str "U") = some (.bl true) := by kernel_rfl
  have hd : gEq (.str "D") (.str "U") = some (.bl false) := by kernel_rfl
  have i22 : gEq (.int 2) (.int 2) = some (.bl true) := by kernel_rfl
  have i12 : gEq (.int 1) (.int 2) = some (.bl false) := by kernel_rfl
  have i02 : gEq (.int 0) (.int 2) = some (.bl false) := by kernel_rfl
  have i11 : gEq (.int 1) (.int 1) = some (.bl true) := by kernel_rfl
  have i01 : gEq (.int 0) (.int 1) = some (.bl false) := by kernel_rfl
  refine ⟨.val (.int ((if x then 1 else 0) + if y then 1 else 0)), .val (encS (upF bb x y)), ?_⟩
  cases x <;> cases y <;> cases bb <;> simp [l_joined_1, encS, upF, hu, hd, i22, i12, i02, i11, i01, c1, c2, hz, hz3, mkF0, mkF1, fin0, fin1, st0, st1, bnd, Sr.ret, opt, mN, mNB, mB, der, m1, m2, m2b, m2r, mT, asB, mChain, mAnd, mOr, mNot, mAndV, mOrV, mNotV, mIf, mNil, mCons, mTup, mLst, mIsN, mNotN, Sr.isNon, mCal, mCal1, mIsi, mFldB, gFld, mC0, mC1, ap0, ap1, chkO, chkL, putL, mMk, apM, skp, sq, sDrop, sRet, sRetO, sIf, sSet, sSetO, sAsg, sPar, gN, gsN, gsC, gT, gA, sApp, sPutI, sNever, mItems, dItems, mRng, mRng2, gRng, gRng2, sFor, turn, gI, gI0, gLt, gLe, gGt, gGe, gAdd, gAddI, gAddS, gAddT, gAddL, Sr.gSub, gMul, gMulI, gDiv, gMod, gPow, gNeg, gNe, dEq, eqS, gLen, gInt1, gMax2, gMin2, gAbs, gIx, gLtT, dInts, putD, gIsi, dKind, tInt, tOnly, List.map_cons, List.map_nil, List.length_cons, List.length_nil, List.cons_append, List.nil_append, List.getElem?_cons_zero, List.getElem?_cons_succ, List.set_cons_zero, List.set_cons_succ, List.replicate, Option.some_or, Option.none_or, Option.map_some, Option.map_none, Option.bind_some, Option.bind_none]
def jrow (f : Bool → Bool → Bool) (m : Int) (r q : Tb.Row) : D := .tup [encS (f r.1 q.1), .int ((r.2.1 : Nat) * m + (q.2.1 : Nat)), .int ((r.2.2 : Nat) * m + (q.2.2 : Nat))]
theorem f_jn1 (bb : Bool) (r : Tb.Row) (m : Int) (hm0 : 0 ≤ m) (hm : m ≤ 1000) (a0 a1 : Sl) : ∀ (b : List Tb.Row) (ds : List D) (j8 j9 j10 j11 j12 : Sl), ds.length + b.length < 10000 →
    ∃ k8 k9 k10 k11 k12, forL (gT 3 (gsC (gN 8) (gsC (gN 9) (gsC (gN 10) gsN)))) l_joined_1 (b.map encR) [a0, a1, .val (.bl bb), .val (.int m), .own (.lst ds), .val (encS r.1), .val (.int (r.2.1 : Nat)), .val (.int (r.2.2 : Nat)), j8, j9, j10, j11, j12] =
      .ok .nx [a0, a1, .val (.bl bb), .val (.int m), .own (.lst (ds ++ b.map (jrow (upF bb) m r))), .val (encS r.1), .val (.int (r.2.1 : Nat)), .val (.int (r.2.2 : Nat)), k8, k9, k10, k11, k12]
  | [], ds, j8, j9, j10, j11, j12, _ => ⟨j8, j9, j10, j11, j12, by simp [forL, skp, Sr.ret]⟩
  | q :: b, ds, j8, j9, j10, j11, j12, h => by
    rw [List.length_cons] at h
    obtain ⟨k11, k12, ht⟩ := t_jn1 bb r.1 q.1 m (q.2.1 : Nat) (q.2.2 : Nat) (r.2.1 : Nat) (r.2.2 : Nat) hm0 hm ds (by omega) a0 a1 j8 j9 j10 j11 j12
    obtain ⟨m8, m9, m10, m11, m12, e⟩ := f_jn1 bb r m hm0 hm a0 a1 b (ds ++ [jrow (upF bb) m r q]) _ _ _ k11 k12 (by simp; omega)
    refine ⟨m8, m9, m10, m11, m12, ?_⟩
    have en : (q :: b).map encR = .tup [encS q.1, .int (q.2.1 : Nat), .int (q.2.2 : Nat)] :: b.map encR := rfl
    rw [en, forL_cons_nx ht]
    rw [List.append_assoc] at e
    exact e
theorem t_jn2 (T : D) (bs : List D) (hT : dItems T = some bs) (m : Int) (bb x : Bool) (u v : Int) (ds ds' : List D) (a0 j5 j6 j7 j8 j9 j10 j11 j12 k8 k9 k10 k11 k12 : Sl)
    (h : forL (gT 3 (gsC (gN 8) (gsC (gN 9) (gsC (gN 10) gsN)))) l_joined_1 bs [a0, .val T, .val (.bl bb), .val (.int m), .own (.lst ds), .val (encS x), .val (.int u), .val (.int v), j8, j9, j10, j11, j12] = .ok .nx [a0, .val T, .val (.bl bb), .val (.int m), .own (.lst ds'), .val (encS x), .val (.int u), .val (.int v), k8, k9, k10, k11, k12]) :
    turn (gT 3 (gsC (gN 5) (gsC (gN 6) (gsC (gN 7) gsN)))) l_joined_2 (.tup [encS x, .int u, .int v]) [a0, .val T, .val (.bl bb), .val (.int m), .own (.lst ds), j5, j6, j7, j8, j9, j10, j11, j12] = .ok .nx [a0, .val T, .val (.bl bb), .val (.int m), .own (.lst ds'), .val (encS x), .val (.int u), .val (.int v), k8, k9, k10, k11, k12] := by
  generalize encS x = s at *
  generalize hX : forL (gT 3 (gsC (gN 8) (gsC (gN 9) (gsC (gN 10) gsN)))) l_joined_1 = X at h
  simp [l_joined_2, sFor, mItems, hT, hX, h, turn, gT, gsC, gsN, gN, bnd, mN, opt, Sr.ret]
theorem f_jn2 (bb : Bool) (b : Tb.Tab) (m : Int) (hm0 : 0 ≤ m) (hm : m ≤ 1000) (hb : b.length ≤ 64) (a0 : Sl) : ∀ (a : List Tb.Row) (ds : List D) (j5 j6 j7 j8 j9 j10 j11 j12 : Sl), ds.length + 64 * a.length < 9000 →
    ∃ k5 k6 k7 k8 k9 k10 k11 k12, forL (gT 3 (gsC (gN 5) (gsC (gN 6) (gsC (gN 7) gsN)))) l_joined_2 (a.map encR) [a0, .val (encT b), .val (.bl bb), .val (.int m), .own (.lst ds), j5, j6, j7, j8, j9, j10, j11, j12] =
      .ok .nx [a0, .val (encT b), .val (.bl bb), .val (.int m), .own (.lst (ds ++ a.flatMap fun r => b.map (jrow (upF bb) m r))), k5, k6, k7, k8, k9, k10, k11, k12]
  | [], ds, j5, j6, j7, j8, j9, j10, j11, j12, _ => ⟨j5, j6, j7, j8, j9, j10, j11, j12, by simp [forL, skp, Sr.ret]⟩
  | r :: a, ds, j5, j6, j7, j8, j9, j10, j11, j12, h => by
    rw [List.length_cons] at h
    obtain ⟨k8, k9, k10, k11, k12, h1⟩ := f_jn1 bb r m hm0 hm a0 (.val (encT b)) b ds j8 j9 j10 j11 j12 (by omega)
    have ht := t_jn2 (encT b) (b.map encR) rfl m bb r.1 (r.2.1 : Nat) (r.2.2 : Nat) ds _ a0 j5 j6 j7 j8 j9 j10 j11 j12 k8 k9 k10 k11 k12 h1
    obtain ⟨m5, m6, m7, m8, m9, m10, m11, m12, e⟩ := f_jn2 bb b m hm0 hm hb a0 a (ds ++ b.map (jrow (upF bb) m r)) _ _ _ k8 k9 k10 k11 k12 (by simp; omega)
    refine ⟨m5, m6, m7, m8, m9, m10, m11, m12, ?_⟩
    have en : (r :: a).map encR = .tup [encS r.1, .int (r.2.1 : Nat), .int (r.2.2 : Nat)] :: a.map encR := rfl
    rw [en, forL_cons_nx ht, List.flatMap_cons]
    rw [List.append_assoc] at e
    exact e
theorem b_jn (T U : D) (m : Int) (bb : Bool) (as_ Z : List D) (k5 k6 k7 k8 k9 k10 k11 k12 : Sl) (hT : dItems T = some as_) (hU : gLen U = some (.int m))
    (h : forL (gT 3 (gsC (gN 5) (gsC (gN 6) (gsC (gN 7) gsN)))) l_joined_2 as_ [.val T, .val U, .val (.bl bb), .val (.int m), .own (.lst []), .no, .no, .no, .no, .no, .no, .no, .no] = .ok .nx [.val T, .val U, .val (.bl bb), .val (.int m), .own (.lst Z), k5, k6, k7, k8, k9, k10, k11, k12]) :
    f_joined .non [T, U, .bl bb] = .ok (.tup Z) .non := by
  generalize hX : forL (gT 3 (gsC (gN 5) (gsC (gN 6) (gsC (gN 7) gsN)))) l_joined_2 = X at h
  simp [f_joined, b_joined, hT, hU, h, hX, gTuple, mkF0, mkF1, fin0, fin1, st0, st1, bnd, Sr.ret, opt, mN, mNB, mB, der, m1, m2, m2b, m2r, mT, asB, mChain, mAnd, mOr, mNot, mAndV, mOrV, mNotV, mIf, mNil, mCons, mTup, mLst, mIsN, mNotN, Sr.isNon, mCal, mCal1, mIsi, mFldB, gFld, mC0, mC1, ap0, ap1, chkO, chkL, putL, mMk, apM, skp, sq, sDrop, sRet, sRetO, sIf, sSet, sSetO, sAsg, sPar, gA, sApp, sPutI, sNever, mItems, mRng, mRng2, gRng, gRng2, sFor, turn, gI, gI0, gLt, gLe, gGt, gGe, gAdd, gAddI, gAddS, gAddT, gAddL, Sr.gSub, gMul, gMulI, gDiv, gMod, gPow, gNeg, gEq, gNe, dEq, eqS, gInt1, gMax2, gMin2, gAbs, gIx, gLtT, dInts, putD, gIsi, dKind, tInt, tOnly, List.map_cons, List.map_nil, List.length_cons, List.length_nil, List.cons_append, List.nil_append, List.getElem?_cons_zero, List.getElem?_cons_succ, List.set_cons_zero, List.set_cons_succ, List.replicate, Option.some_or, Option.none_or, Option.map_some, Option.map_none, Option.bind_some, Option.bind_none]
theorem jrow_tab (f : Bool → Bool → Bool) (a b : Tb.Tab) : (a.flatMap fun r => b.map (jrow f ((b.length : Nat) : Int) r)) = (Tb.jn f a b).map encR := by
  unfold Tb.jn
  rw [List.map_flatMap]
  congr 1
  funext r
  rw [List.map_map]
  refine List.map_congr_left fun q _ => ?_
  simp only [Function.comp, jrow, encR, Int.natCast_add, Int.natCast_mul]
theorem s_joined (a b : Tb.Tab) (bb : Bool) (ha : a.length ≤ 64) (hb : b.length ≤ 64) : f_joined .non [encT a, encT b, .bl bb] = .ok (encT (Tb.jn (upF bb) a b)) .non := by
  obtain ⟨k5, k6, k7, k8, k9, k10, k11, k12, h⟩ := f_jn2 bb b (b.length : Nat) (by omega) (by omega) hb (.val (encT a)) a [] .no .no .no .no .no .no .no .no (by simp; omega)
  rw [List.nil_append, jrow_tab] at h
  exact b_jn (encT a) (encT b) (b.length : Nat) bb (a.map encR) _ k5 k6 k7 k8 k9 k10 k11 k12 rfl (len_tab b (by omega)) h
theorem v_and (R R1 R2 T T1 T2 : D) (a0 : isC_Rule R2 = some true) (a1 : f_joined .non [T1, T2, .bl true] = .ok T .non) (a2 : f_made .non [T, .int 0] = .ok R .non) (a3 : gFld "Rule" "table" R1 = some T1) (a4 : gFld "Rule" "table" R2 = some T2) : f_RuleU_andU .non [R1, R2] = .ok R .non := by
  simp [f_RuleU_andU, b_RuleU_andU, f_check_rule, b_check_rule, a0, a1, a2, a3, a4, mkF0, mkF1, fin0, fin1, st0, st1, bnd, Sr.ret, opt, mN, mNB, mB, der, m1, m2, m2b, m2r, mT, asB, mChain, mAnd, mOr, mNot, mAndV, mOrV, mNotV, mIf, mNil, mCons, mTup, mLst, mIsN, mNotN, Sr.isNon, mCal, mCal1, mIsi, mFldB, mC0, mC1, ap0, ap1, chkO, chkL, putL, mMk, apM, skp, sq, sDrop, sRet, sRetO, sIf, sSet, sSetO, sAsg, sPar, gN, gsN, gsC, gT, gA, sApp, sPutI, sNever, mItems, dItems, mRng, mRng2, gRng, gRng2, sFor, turn, gI, gI0, gLt, gLe, gGt, gGe, gAdd, gAddI, gAddS, gAddT, gAddL, Sr.gSub, gMul, gMulI, gDiv, gMod, gPow, gNeg, gEq, gNe, dEq, eqS, gLen, gInt1, gMax2, gMin2, gAbs, gIx, gLtT, dInts, putD, gIsi, dKind, tInt, tOnly, List.map_cons, List.map_nil, List.length_cons, List.length_nil, List.cons_append, List.nil_append, List.getElem?_cons_zero, List.getElem?_cons_succ, List.set_cons_zero, List.set_cons_succ, List.replicate, Option.some_or, Option.none_or, Option.map_some, Option.map_none, Option.bind_some, Option.bind_none]
theorem v_or (R R1 R2 T T1 T2 : D) (a0 : isC_Rule R2 = some true) (a1 : f_joined .non [T1, T2, .bl false] = .ok T .non) (a2 : f_made .non [T, .int 0] = .ok R .non) (a3 : gFld "Rule" "table" R1 = some T1) (a4 : gFld "Rule" "table" R2 = some T2) : f_RuleU_orU .non [R1, R2] = .ok R .non := by
  simp [f_RuleU_orU, b_RuleU_orU, f_check_rule, b_check_rule, a0, a1, a2, a3, a4, mkF0, mkF1, fin0, fin1, st0, st1, bnd, Sr.ret, opt, mN, mNB, mB, der, m1, m2, m2b, m2r, mT, asB, mChain, mAnd, mOr, mNot, mAndV, mOrV, mNotV, mIf, mNil, mCons, mTup, mLst, mIsN, mNotN, Sr.isNon, mCal, mCal1, mIsi, mFldB, mC0, mC1, ap0, ap1, chkO, chkL, putL, mMk, apM, skp, sq, sDrop, sRet, sRetO, sIf, sSet, sSetO, sAsg, sPar, gN, gsN, gsC, gT, gA, sApp, sPutI, sNever, mItems, dItems, mRng, mRng2, gRng, gRng2, sFor, turn, gI, gI0, gLt, gLe, gGt, gGe, gAdd, gAddI, gAddS, gAddT, gAddL, Sr.gSub, gMul, gMulI, gDiv, gMod, gPow, gNeg, gEq, gNe, dEq, eqS, gLen, gInt1, gMax2, gMin2, gAbs, gIx, gLtT, dInts, putD, gIsi, dKind, tInt, tOnly, List.map_cons, List.map_nil, List.length_cons, List.length_nil, List.cons_append, List.nil_append, List.getElem?_cons_zero, List.getElem?_cons_succ, List.set_cons_zero, List.set_cons_succ, List.replicate, Option.some_or, Option.none_or, Option.map_some, Option.map_none, Option.bind_some, Option.bind_none]
theorem add_lst (A B : List D) (hl : A.length + B.length ≤ 1000) : gAdd (.lst A) (.lst B) = some (.lst (A ++ B)) := by
  have hz : A.length + B.length ≤ sizeLine := by
    have e : sizeLine = 16777216 := by decide
    omega
  simp [gAdd, gAddI, gI0, gAddS, gAddT, gAddL, hz]
theorem e_ign1 (T r0 : D) (s : D) (x : Int) (a1 a2 a4 a5 a6 : Sl) (h0 : gIx T (.int 0) = some r0) (h1 : gIx r0 (.int 0) = some s) : e_ignoring_1 [.val T, a1, a2, .val (.int x), a4, a5, a6] = .ok (.tup [s, .int (x + 1), .int (x + 1)]) [.val T, a1, a2, .val (.int x), a4, a5, a6] := by
  have hz : (3 : Nat) ≤ sizeLine := by decide
  simp [e_ignoring_1, h0, h1, hz, mkF0, mkF1, fin0, fin1, st0, st1, bnd, Sr.ret, opt, mN, mNB, mB, der, m1, m2, m2b, m2r, mT, asB, mChain, mAnd, mOr, mNot, mAndV, mOrV, mNotV, mIf, mNil, mCons, mTup, mLst, mIsN, mNotN, Sr.isNon, mCal, mCal1, mIsi, mFldB, gFld, mC0, mC1, ap0, ap1, chkO, chkL, putL, mMk, apM, skp, sq, sDrop, sRet, sRetO, sIf, sSet, sSetO, sAsg, sPar, gN, gsN, gsC, gT, gA, sApp, sPutI, sNever, mItems, dItems, mRng, mRng2, gRng, gRng2, sFor, turn, gI, gI0, gLt, gLe, gGt, gGe, gAdd, gAddI, gAddS, gAddT, gAddL, Sr.gSub, gMul, gMulI, gDiv, gMod, gPow, gNeg, gEq, gNe, dEq, eqS, gLen, gInt1, gMax2, gMin2, gAbs, gLtT, dInts, putD, gIsi, dKind, tInt, tOnly, List.map_cons, List.map_nil, List.length_cons, List.length_nil, List.cons_append, List.nil_append, List.getElem?_cons_zero, List.getElem?_cons_succ, List.set_cons_zero, List.set_cons_succ, List.replicate, Option.some_or, Option.none_or, Option.map_some, Option.map_none, Option.bind_some, Option.bind_none]
theorem e_ign2 (s : D) (y z N : Int) (a0 a2 a3 : Sl) : e_ignoring_2 [a0, .val (.int N), a2, a3, .val s, .val (.int y), .val (.int z)] = .ok (.tup [s, .int (y + N), .int (z + N)]) [a0, .val (.int N), a2, a3, .val s, .val (.int y), .val (.int z)] := by
  have hz : (3 : Nat) ≤ sizeLine := by decide
  simp [e_ignoring_2, hz, mkF0, mkF1, fin0, fin1, st0, st1, bnd, Sr.ret, opt, mN, mNB, mB, der, m1, m2, m2b, m2r, mT, asB, mChain, mAnd, mOr, mNot, mAndV, mOrV, mNotV, mIf, mNil, mCons, mTup, mLst, mIsN, mNotN, Sr.isNon, mCal, mCal1, mIsi, mFldB, gFld, mC0, mC1, ap0, ap1, chkO, chkL, putL, mMk, apM, skp, sq, sDrop, sRet, sRetO, sIf, sSet, sSetO, sAsg, sPar, gN, gsN, gsC, gT, gA, sApp, sPutI, sNever, mItems, dItems, mRng, mRng2, gRng, gRng2, sFor, turn, gI, gI0, gLt, gLe, gGt, gGe, gAdd, gAddI, gAddS, gAddT, gAddL, Sr.gSub, gMul, gMulI, gDiv, gMod, gPow, gNeg, gEq, gNe, dEq, eqS, gLen, gInt1, gMax2, gMin2, gAbs, gIx, gLtT, dInts, putD, gIsi, dKind, tInt, tOnly, List.map_cons, List.map_nil, List.length_cons, List.length_nil, List.cons_append, List.nil_append, List.getElem?_cons_zero, List.getElem?_cons_succ, List.set_cons_zero, List.set_cons_succ, List.replicate, Option.some_or, Option.none_or, Option.map_some, Option.map_none, Option.bind_some, Option.bind_none]
theorem b_ign (T : D) (N : Int) (A B : List D) (a3 a4 a5 a6 : Sl) (b3 : Sl) (h1 : mLc [3] (mRng (mCons (mN 1) mNil)) (gN 3) t_ignoring_1 e_ignoring_1 [.val T, .val (.int N), .no, .no, .no, .no, .no] = .ok (.lst A) [.val T, .val (.int N), .no, b3, .no, .no, .no])
    (h2 : mLc [4, 5, 6] (mItems (mN 0)) (gT 3 (gsC (gN 4) (gsC (gN 5) (gsC (gN 6) gsN)))) t_ignoring_2 e_ignoring_2 [.val T, .val (.int N), .val (.lst A), b3, .no, .no, .no] = .ok (.lst B) [.val T, .val (.int N), .val (.lst A), b3, a4, a5, a6]) (hl : A.length + B.length ≤ 1000) : f_ignoring .non [T, .int N] = .ok (.tup (A ++ B)) .non := by
  have ha : gAdd (.lst A) (.lst B) = some (.lst (A ++ B)) := add_lst A B hl
  generalize hX : mLc [3] (mRng (mCons (mN 1) mNil)) (gN 3) t_ignoring_1 e_ignoring_1 = X at h1
  generalize hY : mLc [4, 5, 6] (mItems (mN 0)) (gT 3 (gsC (gN 4) (gsC (gN 5) (gsC (gN 6) gsN)))) t_ignoring_2 e_ignoring_2 = Y at h2
  simp only [f_ignoring, b_ignoring, hX, hY]
  simp [h1, h2, ha, gTuple, mkF0, mkF1, fin0, fin1, st0, st1, bnd, Sr.ret, opt, mN, mNB, mB, der, m1, m2, m2b, m2r, mT, asB, mChain, mAnd, mOr, mNot, mAndV, mOrV, mNotV, mIf, mNil, mCons, mTup, mLst, mIsN, mNotN, Sr.isNon, mCal, mCal1, mIsi, mFldB, gFld, mC0, mC1, ap0, ap1, chkO, chkL, putL, mMk, apM, skp, sq, sDrop, sRet, sRetO, sIf, sSet, sSetO, sAsg, sPar, gN, gsN, gsC, gT, gA, sApp, sPutI, sNever, mItems, dItems, mRng, mRng2, gRng, gRng2, sFor, turn, gI, gI0, gLt, gLe, gGt, gGe, gAddI, gAddS, gAddT, gAddL, Sr.gSub, gMul, gMulI, gDiv, gMod, gPow, gNeg, gEq, gNe, dEq, eqS, gLen, gInt1, gMax2, gMin2, gAbs, gIx, gLtT, dInts, putD, gIsi, dKind, tInt, tOnly, List.map_cons, List.map_nil, List.length_cons, List.length_nil, List.cons_append, List.nil_append, List.getElem?_cons_zero, List.getElem?_cons_succ, List.set_cons_zero, List.set_cons_succ, List.replicate, Option.some_or, Option.none_or, Option.map_some, Option.map_none, Option.bind_some, Option.bind_none]
theorem v_ign (t : Tb.Tab) (N : Int) (h0 : 0 ≤ N) (h1 : 1 ≤ t.length) (h2 : t.length ≤ 500) (hn : N ≤ 100) : f_ignoring .non [encT t, .int N] = .ok (.tup (((irng 0 N).map fun x => .tup [encS (Tb.row t 0).1, .int (x + 1), .int (x + 1)]) ++ t.map fun r => .tup [encS r.1, .int ((r.2.1 : Nat) + N), .int ((r.2.2 : Nat) + N)])) .non := by
  have g0 : gIx (encT t) (.int 0) = some (encR (Tb.row t 0)) := by
    have := ix_tab (t := t) (i := 0) (by omega)
    simpa using this
  have g1 : gIx (encR (Tb.row t 0)) (.int 0) = some (encS (Tb.row t 0).1) := rfl
  have hr := rngI N (by omega) (by omega)
  have q1 := mLc_map (m := mRng (mCons (mN 1) mNil)) (w := gN 3) (t := t_ignoring_1) (el := e_ignoring_1) (vs := [3]) (e := [.val (encT t), .val (.int N), .no, .no, .no, .no, .no]) (e1 := [.val (encT t), .val (.int N), .no, .no, .no, .no, .no]) (xs := irng 0 N) D.int (fun x => .tup [encS (Tb.row t 0).1, .int (x + 1), .int (x + 1)]) (by
    simp [mRng, mCons, mNil, mN, bnd, opt, Sr.ret, hr]) (by simp [irng]; omega) (fun x _ => ⟨_, _, _, rfl, rfl, e_ign1 _ _ _ x _ _ _ _ _ g0 g1, rfl⟩)
  have q2 := mLc_map (m := mItems (mN 0)) (w := gT 3 (gsC (gN 4) (gsC (gN 5) (gsC (gN 6) gsN)))) (t := t_ignoring_2) (el := e_ignoring_2) (vs := [4, 5, 6]) (e := [.val (encT t), .val (.int N), .val (.lst ((irng 0 N).map fun x => .tup [encS (Tb.row t 0).1, .int (x + 1), .int (x + 1)])), .no, .no, .no, .no]) (e1 := [.val (encT t), .val (.int N), .val (.lst ((irng 0 N).map fun x => .tup [encS (Tb.row t 0).1, .int (x + 1), .int (x + 1)])), .no, .no, .no, .no]) (xs := t) encR (fun r => .tup [encS r.1, .int ((r.2.1 : Nat) + N), .int ((r.2.2 : Nat) + N)]) (by simp [mItems, mN, bnd, opt, encT, dItems]) (by omega) (fun r _ => ⟨_, _, _, rfl, rfl, e_ign2 _ _ _ _ _ _ _, rfl⟩)
  exact b_ign (encT t) N _ _ .no _ _ _ _ q1 q2 (by simp [irng]; omega)
theorem s_ign (t : Tb.Tab) (n : Nat) (h1 : 1 ≤ t.length) (h2 : t.length ≤ 500) (hn : n ≤ 100) : f_ignoring .non [encT t, .int (n : Nat)] = .ok (encT (Tb.ign n t)) .non := by
  rw [v_ign t (n : Nat) (by omega) h1 h2 (by omega)]
  have e1 : (irng 0 (n : Nat)).map (fun x => D.tup [encS (Tb.row t 0).1, .int (x + 1), .int (x + 1)]) = (List.range n).map fun i => encR ((Tb.row t 0).1, i + 1, i + 1) := by
    unfold irng
    rw [List.map_map]
    have e : ((n : Int) - 0).toNat = n := by omega
    rw [e]
    refine List.map_congr_left fun i _ => ?_
    simp only [Function.comp, encR, Int.zero_add, Int.natCast_add, Int.natCast_one]
  have e2 : (t.map fun r : Tb.Row => D.tup [encS r.1, .int ((r.2.1 : Nat) + ((n : Nat) : Int)), .int ((r.2.2 : Nat) + ((n : Nat) : Int))]) = t.map fun r => encR (r.1, r.2.1 + n, r.2.2 + n) := by
    refine List.map_congr_left fun r _ => ?_
    simp only [encR, Int.natCast_add]
  rw [e1, e2]
  unfold encT Tb.ign
  rw [List.map_append, List.map_map, List.map_map]
  rfl
theorem v_radd (R R0 T T0 : D) (N : Int) (a1 : f_ignoring .non [T0, .int N] = .ok T .non) (a2 : f_made .non [T, .int 0] = .ok R .non) (a3 : gFld "Rule" "table" R0 = some T0) (a4 : f_check_number .non [.int N, .int 0, .int 9] = .ok .non .non) : f_RuleU_raddU .non [R0, .int N] = .ok R .non := by
  simp [f_RuleU_raddU, b_RuleU_raddU, a1, a2, a3, a4, mkF0, mkF1, fin0, fin1, st0, st1, bnd, Sr.ret, opt, mN, mNB, mB, der, m1, m2, m2b, m2r, mT, asB, mChain, mAnd, mOr, mNot, mAndV, mOrV, mNotV, mIf, mNil, mCons, mTup, mLst, mIsN, mNotN, Sr.isNon, mCal, mCal1, mIsi, mFldB, mC0, mC1, ap0, ap1, chkO, chkL, putL, mMk, apM, skp, sq, sDrop, sRet, sRetO, sIf, sSet, sSetO, sAsg, sPar, gN, gsN, gsC, gT, gA, sApp, sPutI, sNever, mItems, dItems, mRng, mRng2, gRng, gRng2, sFor, turn, gI, gI0, gLt, gLe, gGt, gGe, gAdd, gAddI, gAddS, gAddT, gAddL, Sr.gSub, gMul, gMulI, gDiv, gMod, gPow, gNeg, gEq, gNe, dEq, eqS, gLen, gInt1, gMax2, gMin2, gAbs, gIx, gLtT, dInts, putD, gIsi, dKind, tInt, tOnly, List.map_cons, List.map_nil, List.length_cons, List.length_nil, List.cons_append, List.nil_append, List.getElem?_cons_zero, List.getElem?_cons_succ, List.set_cons_zero, List.set_cons_succ, List.replicate, Option.some_or, Option.none_or, Option.map_some, Option.map_none, Option.bind_some, Option.bind_none]
theorem ok_c {m : M D} {ms : M (List D)} {e e1 e2 : En} {d : D} {ds : List D} (h : m e = .ok d e1) (h2 : ms e1 = .ok ds e2) : mCons m ms e = .ok (d :: ds) e2 := by unfold mCons; rw [bnd_ok h, bnd_ok h2]; rfl
theorem ok_n {e : En} : mNil e = .ok [] e := rfl
theorem ok_2 {g : D → D → Option D} {ma mb : M D} {e e1 e2 : En} {a b c : D} (h : ma e = .ok a e1) (h2 : mb e1 = .ok b e2) (h3 : g a b = some c) : m2 g ma mb e = .ok c e2 := by unfold m2; rw [bnd_ok h, bnd_ok h2, h3]; rfl
theorem ok_1 {g : D → Option D} {ma : M D} {e e1 : En} {a c : D} (h : ma e = .ok a e1) (h3 : g a = some c) : m1 g ma e = .ok c e1 := by unfold m1; rw [bnd_ok h, h3]; rfl
theorem ok_T {m : M D} {e e1 : En} {b : Bool} (h : m e = .ok (.bl b) e1) : mT m e = .ok b e1 := by unfold mT; rw [bnd_ok h]; rfl
theorem ok_r2 {ms : M (List D)} {e e1 : En} {ds l : List D} (h : ms e = .ok ds e1) (h2 : gRng2 ds = some l) : mRng2 ms e = .ok l e1 := by unfold mRng2; rw [bnd_ok h, h2]; rfl
theorem ok_r1 {ms : M (List D)} {e e1 : En} {ds l : List D} (h : ms e = .ok ds e1) (h2 : gRng ds = some l) : mRng ms e = .ok l e1 := by unfold mRng; rw [bnd_ok h, h2]; rfl
theorem ok_f {F : Fnc} {ms : M (List D)} {e e1 : En} {ds : List D} {d o : D} (h : ms e = .ok ds e1) (h2 : F .non ds = .ok d o) : mC0 F [] ms e = .ok d e1 := by
  unfold mC0
  rw [bnd_ok h, List.append_nil]
  unfold ap0
  rw [h2]
theorem ok_cl {g : List D → Option D} {ms : M (List D)} {e e1 : En} {ds : List D} {c : D} (h : ms e = .ok ds e1) (h2 : g ds = some c) : mCal g ms e = .ok c e1 := by unfold mCal; rw [bnd_ok h, h2]; rfl
theorem ok_t {ms : M (List D)} {e e1 : En} {ds : List D} (h : ms e = .ok ds e1) (hz : ds.length ≤ 1000) : mTup ms e = .ok (.tup ds) e1 := by
  have hz2 : ds.length ≤ sizeLine := by
    have : sizeLine = 16777216 := by decide
    omega
  unfold mTup
  rw [bnd_ok h, if_pos hz2]; rfl
theorem ok_l {ms : M (List D)} {e e1 : En} {ds : List D} (h : ms e = .ok ds e1) (hz : ds.length ≤ 1000) : mLst ms e = .ok (.lst ds) e1 := by
  have hz2 : ds.length ≤ sizeLine := by
    have : sizeLine = 16777216 := by decide
    omega
  unfold mLst
  rw [bnd_ok h, if_pos hz2]; rfl
theorem ok_it {m : M D} {e e1 : En} {d : D} {ds : List D} (h : m e = .ok d e1) (h2 : dItems d = some ds) : mItems m e = .ok ds e1 := by unfold mItems; rw [bnd_ok h, h2]; rfl
theorem ok_mo {a b : M Bool} {e e1 : En} {r : Out Bool} (h : a e = .ok false e1) (h2 : b e1 = r) : mOr a b e = r := by unfold mOr; rw [bnd_ok h]; exact h2
theorem ok_mn {a : M Bool} {e e1 : En} {b : Bool} (h : a e = .ok b e1) : mNot a e = .ok (!b) e1 := by unfold mNot; rw [bnd_ok h]; rfl
theorem ok_ifF {c : M Bool} {a b : M Fl} {e e1 : En} {r : Out Fl} (h : c e = .ok false e1) (h2 : b e1 = r) : sIf c a b e = r := by unfold sIf; rw [bnd_ok h, if_neg (by simp)]; exact h2
theorem ok_vT {c : M Bool} {a b : M D} {e e1 : En} {r : Out D} (h : c e = .ok true e1) (h2 : a e1 = r) : mIf c a b e = r := by unfold mIf; rw [bnd_ok h, if_pos rfl]; exact h2
theorem ok_vF {c : M Bool} {a b : M D} {e e1 : En} {r : Out D} (h : c e = .ok false e1) (h2 : b e1 = r) : mIf c a b e = r := by unfold mIf; rw [bnd_ok h, if_neg (by simp)]; exact h2
theorem ok_rt {m : M D} {e e1 : En} {d : D} (h : m e = .ok d e1) : sRet m e = .ok (.rt d) e1 := by unfold sRet; rw [bnd_ok h]; rfl
theorem ok_s {m : M D} {e e1 : En} {d : D} {i : Nat} (h : m e = .ok d e1) : sSet i m e = .ok .nx (e1.set i (.val d)) := by unfold sSet; rw [bnd_ok h]
theorem ok_fr {m : M (List D)} {w : D → M Unit} {b : M Fl} {e e1 : En} {ds : List D} {r : Out Fl} (h : m e = .ok ds e1) (h2 : forL w b ds e1 = r) : sFor m w b e = r := by unfold sFor; rw [bnd_ok h]; exact h2
theorem ok_sq {s u : M Fl} {e e1 : En} {r : Out Fl} (h : s e = .ok .nx e1) (h2 : u e1 = r) : sq s u e = r := by rw [sq_nx h]; exact h2
theorem ok_k {e : En} : skp e = .ok .nx e := rfl
theorem ok_fn {nl : Nat} {b : M Fl} {ds : List D} {d : D} {e1 : En} (h : b (st0 nl ds) = .ok (.rt d) e1) : mkF0 nl false b .non ds = .ok d .non := by
  unfold mkF0
  rw [h]; rfl
theorem ok_as {m : M D} {w : D → M Unit} {e e1 e2 : En} {d : D} (h : m e = .ok d e1) (h2 : w d e1 = .ok () e2) : sAsg m w e = .ok .nx e2 := by unfold sAsg; rw [bnd_ok h, bnd_ok h2]; rfl
theorem ok_tn {w : D → M Unit} {b : M Fl} {d : D} {e e1 : En} {r : Out Fl} (h : w d e = .ok () e1) (h2 : b e1 = r) : turn w b d e = r := by unfold turn; rw [bnd_ok h]; exact h2
theorem ok_f1 {F : Fnc} {i : Nat} {ms : M (List D)} {e e1 : En} {ds : List D} {d o o' : D} (h0 : ∃ q, e[i]? = some (.own q)) (h : ms e = .ok ds e1) (h1 : e1[i]? = some (.own o)) (h2 : F o ds = .ok d o') : mC1 F i [] ms e = .ok d (e1.set i (.own o')) := by
  obtain ⟨q, h0⟩ := h0
  have hc : chkO i e = .ok () e := by unfold chkO; rw [h0]
  unfold mC1
  rw [bnd_ok hc, bnd_ok h, List.append_nil]
  unfold ap1
  rw [h1]
  simp only [h2]
theorem ok_so {m : M D} {e e1 : En} {d : D} {i : Nat} (h : m e = .ok d e1) : sSetO i m e = .ok .nx (e1.set i (.own d)) := by unfold sSetO; rw [bnd_ok h]
theorem len_tab' (t : Tb.Tab) (h : t.length ≤ 100000) : gLen (encT t) = some (.int (t.length : Nat)) := by
  have hz : t.length ≤ sizeLine := by
    have e : sizeLine = 16777216 := by decide
    omega
  simp [encT, gLen, hz]
theorem v_madeO (T0 T R : D) (s0 n : Int) (a1 : f_smallest .non [T0, .int s0] = .ok T .non) (a3 : gLen T = some (.int n)) (a4 : ¬ 64 < n) (a2 : f_RuleU_initU (.obj "Rule" []) [T] = .ok .non R) : f_made .non [T0, .int s0] = .ok R .non := by
  simp [f_made, b_made, a1, a2, a3, a4, mkF0, mkF1, fin0, fin1, st0, st1, bnd, Sr.ret, opt, mN, mNB, mB, der, m1, m2, m2b, m2r, mT, asB, mChain, mAnd, mOr, mNot, mAndV, mOrV, mNotV, mIf, mNil, mCons, mTup, mLst, mIsN, mNotN, Sr.isNon, mCal, mCal1, mIsi, mFldB, gFld, mC0, mC1, ap0, ap1, chkO, chkL, putL, mMk, apM, skp, sq, sDrop, sRet, sRetO, sIf, sSet, sSetO, sAsg, sPar, gN, gsN, gsC, gT, gA, sApp, sPutI, sNever, mItems, dItems, mRng, mRng2, gRng, gRng2, sFor, turn, gI, gI0, gLt, gLe, gGt, gGe, gAdd, gAddI, gAddS, gAddT, gAddL, Sr.gSub, gMul, gMulI, gDiv, gMod, gPow, gNeg, gEq, gNe, dEq, eqS, gInt1, gMax2, gMin2, gAbs, gIx, gLtT, dInts, putD, gIsi, dKind, tInt, tOnly, List.map_cons, List.map_nil, List.length_cons, List.length_nil, List.cons_append, List.nil_append, List.getElem?_cons_zero, List.getElem?_cons_succ, List.set_cons_zero, List.set_cons_succ, List.replicate, Option.some_or, Option.none_or, Option.map_some, Option.map_none, Option.bind_some, Option.bind_none]
def tooX (n : Int) : Ex := ⟨"TooLarge", [("limit", .int 64), ("needed", .int n)]⟩
theorem v_madeX (T0 T : D) (s0 n : Int) (a1 : f_smallest .non [T0, .int s0] = .ok T .non) (a3 : gLen T = some (.int n)) (a4 : 64 < n) : f_made .non [T0, .int s0] = .exc (tooX n) .non := by
  simp [f_made, b_made, a1, a3, a4, sRaiseX, tooX, mkF0, mkF1, fin0, fin1, st0, st1, bnd, Sr.ret, opt, mN, mNB, mB, der, m1, m2, m2b, m2r, mT, asB, mChain, mAnd, mOr, mNot, mAndV, mOrV, mNotV, mIf, mNil, mCons, mTup, mLst, mIsN, mNotN, Sr.isNon, mCal, mCal1, mIsi, mFldB, gFld, mC0, mC1, ap0, ap1, chkO, chkL, putL, mMk, apM, skp, sq, sDrop, sRet, sRetO, sIf, sSet, sSetO, sAsg, sPar, gN, gsN, gsC, gT, gA, sApp, sPutI, sNever, mItems, dItems, mRng, mRng2, gRng, gRng2, sFor, turn, gI, gI0, gLt, gLe, gGt, gGe, gAdd, gAddI, gAddS, gAddT, gAddL, Sr.gSub, gMul, gMulI, gDiv, gMod, gPow, gNeg, gEq, gNe, dEq, eqS, gInt1, gMax2, gMin2, gAbs, gIx, gLtT, dInts, putD, gIsi, dKind, tInt, tOnly, List.map_cons, List.map_nil, List.length_cons, List.length_nil, List.cons_append, List.nil_append, List.getElem?_cons_zero, List.getElem?_cons_succ, List.set_cons_zero, List.set_cons_succ, List.replicate, Option.some_or, Option.none_or, Option.map_some, Option.map_none, Option.bind_some, Option.bind_none]
def MadeV (u : Tb.Tab) (r : Out D) (e : En) : Prop := (u.length ≤ 64 ∧ r = .ok (ruleO u) e) ∨ (64 < u.length ∧ r = .exc (tooX (u.length : Nat)) e)
def MadeF (u : Tb.Tab) (r : Rs) : Prop := (u.length ≤ 64 ∧ r = .ok (ruleO u) .non) ∨ (64 < u.length ∧ r = .exc (tooX (u.length : Nat)) .non)
theorem s_madeV (t : Tb.Tab) (ok : Tb.Ok t) (hp : 0 < t.length) (ht : t.length ≤ 4000) : MadeF (Tb.small t 0) (f_made .non [encT t, .int 0]) := by
  have a1 := s_smallest t 0 ok hp ht
  have hle := Tb.small_le ok hp
  have so := Tb.small_ok ok hp
  have sp := Tb.small_pos ok hp
  have a3 := len_tab' (Tb.small t 0) (by omega)
  by_cases hq : (Tb.small t 0).length ≤ 64
  · have a2 := s_rule (Tb.small t 0) so sp (by omega)
    rw [Tb.small_small ok hp] at a2
    exact .inl ⟨hq, v_madeO _ _ _ _ _ a1 a3 (by omega) a2⟩
  · exact .inr ⟨by omega, v_madeX _ _ _ _ a1 a3 (by omega)⟩
theorem v_andX (R1 R2 T T1 T2 : D) (x : Ex) (a0 : isC_Rule R2 = some true) (a1 : f_joined .non [T1, T2, .bl true] = .ok T .non) (a2 : f_made .non [T, .int 0] = .exc x .non) (a3 : gFld "Rule" "table" R1 = some T1) (a4 : gFld "Rule" "table" R2 = some T2) : f_RuleU_andU .non [R1, R2] = .exc x .non := by
  simp [f_RuleU_andU, b_RuleU_andU, f_check_rule, b_check_rule, a0, a1, a2, a3, a4, mkF0, mkF1, fin0, fin1, st0, st1, bnd, Sr.ret, opt, mN, mNB, mB, der, m1, m2, m2b, m2r, mT, asB, mChain, mAnd, mOr, mNot, mAndV, mOrV, mNotV, mIf, mNil, mCons, mTup, mLst, mIsN, mNotN, Sr.isNon, mCal, mCal1, mIsi, mFldB, mC0, mC1, ap0, ap1, chkO, chkL, putL, mMk, apM, skp, sq, sDrop, sRet, sRetO, sIf, sSet, sSetO, sAsg, sPar, gN, gsN, gsC, gT, gA, sApp, sPutI, sNever, mItems, dItems, mRng, mRng2, gRng, gRng2, sFor, turn, gI, gI0, gLt, gLe, gGt, gGe, gAdd, gAddI, gAddS, gAddT, gAddL, Sr.gSub, gMul, gMulI, gDiv, gMod, gPow, gNeg, gEq, gNe, dEq, eqS, gLen, gInt1, gMax2, gMin2, gAbs, gIx, gLtT, dInts, putD, gIsi, dKind, tInt, tOnly, List.map_cons, List.map_nil, List.length_cons, List.length_nil, List.cons_append, List.nil_append, List.getElem?_cons_zero, List.getElem?_cons_succ, List.set_cons_zero, List.set_cons_succ, List.replicate, Option.some_or, Option.none_or, Option.map_some, Option.map_none, Option.bind_some, Option.bind_none]
theorem v_orX (R1 R2 T T1 T2 : D) (x : Ex) (a0 : isC_Rule R2 = some true) (a1 : f_joined .non [T1, T2, .bl false] = .ok T .non) (a2 : f_made .non [T, .int 0] = .exc x .non) (a3 : gFld "Rule" "table" R1 = some T1) (a4 : gFld "Rule" "table" R2 = some T2) : f_RuleU_orU .non [R1, R2] = .exc x .non := by
  simp [f_RuleU_orU, b_RuleU_orU, f_check_rule, b_check_rule, a0, a1, a2, a3, a4, mkF0, mkF1, fin0, fin1, st0, st1, bnd, Sr.ret, opt, mN, mNB, mB, der, m1, m2, m2b, m2r, mT, asB, mChain, mAnd, mOr, mNot, mAndV, mOrV, mNotV, mIf, mNil, mCons, mTup, mLst, mIsN, mNotN, Sr.isNon, mCal, mCal1, mIsi, mFldB, mC0, mC1, ap0, ap1, chkO, chkL, putL, mMk, apM, skp, sq, sDrop, sRet, sRetO, sIf, sSet, sSetO, sAsg, sPar, gN, gsN, gsC, gT, gA, sApp, sPutI, sNever, mItems, dItems, mRng, mRng2, gRng, gRng2, sFor, turn, gI, gI0, gLt, gLe, gGt, gGe, gAdd, gAddI, gAddS, gAddT, gAddL, Sr.gSub, gMul, gMulI, gDiv, gMod, gPow, gNeg, gEq, gNe, dEq, eqS, gLen, gInt1, gMax2, gMin2, gAbs, gIx, gLtT, dInts, putD, gIsi, dKind, tInt, tOnly, List.map_cons, List.map_nil, List.length_cons, List.length_nil, List.cons_append, List.nil_append, List.getElem?_cons_zero, List.getElem?_cons_succ, List.set_cons_zero, List.set_cons_succ, List.replicate, Option.some_or, Option.none_or, Option.map_some, Option.map_none, Option.bind_some, Option.bind_none]
theorem v_raddX (R0 T T0 : D) (x : Ex) (N : Int) (a1 : f_ignoring .non [T0, .int N] = .ok T .non) (a2 : f_made .non [T, .int 0] = .exc x .non) (a3 : gFld "Rule" "table" R0 = some T0) (a4 : f_check_number .non [.int N, .int 0, .int 9] = .ok .non .non) : f_RuleU_raddU .non [R0, .int N] = .exc x .non := by
  simp [f_RuleU_raddU, b_RuleU_raddU, a1, a2, a3, a4, mkF0, mkF1, fin0, fin1, st0, st1, bnd, Sr.ret, opt, mN, mNB, mB, der, m1, m2, m2b, m2r, mT, asB, mChain, mAnd, mOr, mNot, mAndV, mOrV, mNotV, mIf, mNil, mCons, mTup, mLst, mIsN, mNotN, Sr.isNon, mCal, mCal1, mIsi, mFldB, mC0, mC1, ap0, ap1, chkO, chkL, putL, mMk, apM, skp, sq, sDrop, sRet, sRetO, sIf, sSet, sSetO, sAsg, sPar, gN, gsN, gsC, gT, gA, sApp, sPutI, sNever, mItems, dItems, mRng, mRng2, gRng, gRng2, sFor, turn, gI, gI0, gLt, gLe, gGt, gGe, gAdd, gAddI, gAddS, gAddT, gAddL, Sr.gSub, gMul, gMulI, gDiv, gMod, gPow, gNeg, gEq, gNe, dEq, eqS, gLen, gInt1, gMax2, gMin2, gAbs, gIx, gLtT, dInts, putD, gIsi, dKind, tInt, tOnly, List.map_cons, List.map_nil, List.length_cons, List.length_nil, List.cons_append, List.nil_append, List.getElem?_cons_zero, List.getElem?_cons_succ, List.set_cons_zero, List.set_cons_succ, List.replicate, Option.some_or, Option.none_or, Option.map_some, Option.map_none, Option.bind_some, Option.bind_none]
theorem s_andV (a b : Tb.Tab) (oa : Tb.Ok a) (ob : Tb.Ok b) (ha : 0 < a.length) (hb : 0 < b.length) (l1 : a.length ≤ 60) (l2 : b.length ≤ 60) : MadeF (Tb.small (Tb.jn (upF true) a b) 0) (f_RuleU_andU .non [ruleO a, ruleO b]) := by
  have hm : a.length * b.length ≤ 60 * 60 := Nat.mul_le_mul l1 l2
  rcases s_madeV (Tb.jn (upF true) a b) (Tb.jn_ok oa ob) (by rw [Tb.jn_len]; exact Nat.mul_pos ha hb) (by rw [Tb.jn_len]; omega) with ⟨h, e⟩ | ⟨h, e⟩
  · exact .inl ⟨h, v_and _ _ _ _ _ _ rfl (s_joined a b true (by omega) (by omega)) e (fld_rule a) (fld_rule b)⟩
  · exact .inr ⟨h, v_andX _ _ _ _ _ _ rfl (s_joined a b true (by omega) (by omega)) e (fld_rule a) (fld_rule b)⟩
theorem s_orV (a b : Tb.Tab) (oa : Tb.Ok a) (ob : Tb.Ok b) (ha : 0 < a.length) (hb : 0 < b.length) (l1 : a.length ≤ 60) (l2 : b.length ≤ 60) : MadeF (Tb.small (Tb.jn (upF false) a b) 0) (f_RuleU_orU .non [ruleO a, ruleO b]) := by
  have hm : a.length * b.length ≤ 60 * 60 := Nat.mul_le_mul l1 l2
  rcases s_madeV (Tb.jn (upF false) a b) (Tb.jn_ok oa ob) (by rw [Tb.jn_len]; exact Nat.mul_pos ha hb) (by rw [Tb.jn_len]; omega) with ⟨h, e⟩ | ⟨h, e⟩
  · exact .inl ⟨h, v_or _ _ _ _ _ _ rfl (s_joined a b false (by omega) (by omega)) e (fld_rule a) (fld_rule b)⟩
  · exact .inr ⟨h, v_orX _ _ _ _ _ _ rfl (s_joined a b false (by omega) (by omega)) e (fld_rule a) (fld_rule b)⟩
theorem s_raddV (t : Tb.Tab) (n : Nat) (ok : Tb.Ok t) (h1 : 1 ≤ t.length) (hn : n ≤ 9) (h2 : t.length ≤ 64) : MadeF (Tb.small (Tb.ign n t) 0) (f_RuleU_raddU .non [ruleO t, .int (n : Nat)]) := by
  rcases s_madeV (Tb.ign n t) (Tb.ign_ok ok h1) (by rw [Tb.ign_len]; omega) (by rw [Tb.ign_len]; omega) with ⟨h, e⟩ | ⟨h, e⟩
  · exact .inl ⟨h, v_radd _ _ _ _ _ (s_ign t n h1 (by omega) (by omega)) e (fld_rule t) (s_number_ok (n : Int) 0 9 (by omega) (by omega))⟩
  · exact .inr ⟨h, v_raddX _ _ _ _ _ (s_ign t n h1 (by omega) (by omega)) e (fld_rule t) (s_number_ok (n : Int) 0 9 (by omega) (by omega))⟩
theorem ok_bin {c : Str} {F : Fnc} {ma mb : M D} {e e1 e2 : En} {a b : D} {u : Tb.Tab} (h : ma e = .ok a e1) (h2 : mb e1 = .ok b e2) (hi : is2 c a b = some ()) (hF : MadeF u (F .non [a, b])) : MadeV u (mBinO c F ma mb e) e2 := by
  have q : mBinO c F ma mb e = ap0 F [a, b] e2 := by
    unfold mBinO
    rw [bnd_ok h, bnd_ok h2, hi]; rfl
  rw [q]
  unfold ap0
  rcases hF with ⟨h, e⟩ | ⟨h, e⟩
  · rw [e]; exact .inl ⟨h, rfl⟩
  · rw [e]; exact .inr ⟨h, rfl⟩
theorem ok_rad {c : Str} {F : Fnc} {ma mb : M D} {e e1 e2 : En} {a b : D} {u : Tb.Tab} (h : ma e = .ok a e1) (h2 : mb e1 = .ok b e2) (hi : isPr c a b = some ()) (hF : MadeF u (F .non [b, a])) : MadeV u (mRadX c F ma mb e) e2 := by
  have q : mRadX c F ma mb e = ap0 F [b, a] e2 := by
    unfold mRadX
    rw [bnd_ok h, bnd_ok h2, hi]; rfl
  rw [q]
  unfold ap0
  rcases hF with ⟨h, e⟩ | ⟨h, e⟩
  · rw [e]; exact .inl ⟨h, rfl⟩
  · rw [e]; exact .inr ⟨h, rfl⟩
def owed (n : Nat) : D := if n ≤ 64 then .int (n : Nat) else .tup [.int (n : Nat), .int 64]
theorem b_lenU (r T : D) (n : Int) (h : gFld "Rule" "table" r = some T) (hl : gLen T = some (.int n)) : f_RuleU_lenU .non [r] = .ok (.int n) .non := by
  simp [f_RuleU_lenU, b_RuleU_lenU, h, hl, mkF0, mkF1, fin0, fin1, st0, st1, bnd, Sr.ret, opt, mN, mNB, mB, der, m1, m2, m2b, m2r, mT, asB, mChain, mAnd, mOr, mNot, mAndV, mOrV, mNotV, mIf, mNil, mCons, mTup, mLst, mIsN, mNotN, Sr.isNon, mCal, mCal1, mIsi, mFldB, mC0, mC1, ap0, ap1, chkO, chkL, putL, mMk, apM, skp, sq, sDrop, sRet, sRetO, sIf, sSet, sSetO, sAsg, sPar, gN, gsN, gsC, gT, gA, sApp, sPutI, sNever, mItems, dItems, mRng, mRng2, gRng, gRng2, sFor, turn, gI, gI0, gLt, gLe, gGt, gGe, gAdd, gAddI, gAddS, gAddT, gAddL, Sr.gSub, gMul, gMulI, gDiv, gMod, gPow, gNeg, gEq, gNe, dEq, eqS, gInt1, gMax2, gMin2, gAbs, gIx, gLtT, dInts, putD, gIsi, dKind, tInt, tOnly, List.map_cons, List.map_nil, List.length_cons, List.length_nil, List.cons_append, List.nil_append, List.getElem?_cons_zero, List.getElem?_cons_succ, List.set_cons_zero, List.set_cons_succ, List.replicate, Option.some_or, Option.none_or, Option.map_some, Option.map_none, Option.bind_some, Option.bind_none]
theorem s_lenU (t : Tb.Tab) (h : t.length ≤ 1000) : f_RuleU_lenU .non [ruleO t] = .ok (.int (t.length : Nat)) .non := b_lenU _ _ _ (fld_rule t) (len_tab' t (by omega))
theorem lenO_rule (t : Tb.Tab) (hn : t.length ≤ 1000) (m : M D) (e e1 : En) (hm : m e = .ok (ruleO t) e1) : mLenO "Rule" f_RuleU_lenU m e = .ok (.int (t.length : Nat)) e1 := by
  have e1 : ruleO t = .obj "Rule" [("table", encT t)] := rfl
  have h1 : (0 : Int) ≤ (t.length : Nat) ∧ ((t.length : Nat) : Int) < 2 ^ 63 := by omega
  have hF := s_lenU t hn
  unfold mLenO bnd
  rw [hm, e1]
  rw [e1] at hF
  simp only [if_true, hF, h1, and_self]
theorem u_large (n : Int) : u__law_large_1 (tooX n) [.no, .no] = .ok (.rt (.tup [.int n, .int 64])) [.no, .no] := by
  have q1 : mIsE isE_NumberError (tooX n) [.no, .no] = .ok (.bl false) [.no, .no] := rfl
  have q2 : mIsE isE_RuleError (tooX n) [.no, .no] = .ok (.bl false) [.no, .no] := rfl
  have q3 : mIsE isE_StatusError (tooX n) [.no, .no] = .ok (.bl true) [.no, .no] := rfl
  have x1 : mXf ["TooLarge"] "needed" (tooX n) [.no, .no] = .ok (.int n) [.no, .no] := rfl
  have x2 : mXf ["TooLarge"] "limit" (tooX n) [.no, .no] = .ok (.int 64) [.no, .no] := rfl
  unfold u__law_large_1
  exact ok_sq (ok_ifF (ok_mo (ok_T q1) (ok_mo (ok_T q2) (ok_mn (ok_T q3)))) ok_k) (ok_rt (ok_t (ok_c x1 (ok_c x2 ok_n)) (by simp)))
theorem ok_large {m : M D} {e e1 : En} {u : Tb.Tab} (h : MadeV u (m e) e1) : mTryL ct_TooLarge u__law_large_1 (mLenO "Rule" f_RuleU_lenU m) e = .ok (owed u.length) e1 := by
  rcases h with ⟨h, q⟩ | ⟨h, q⟩
  · have := lenO_rule u (by omega) m e e1 q
    unfold mTryL owed
    rw [this, if_pos h]
  · have hx : mLenO "Rule" f_RuleU_lenU m e = .exc (tooX (u.length : Nat)) e1 := by
      unfold mLenO
      exact bnd_exc q
    have hc : ct_TooLarge (tooX (u.length : Nat)).c = some true := by
      show ct_TooLarge "TooLarge" = some true
      decide +kernel
    unfold mTryL owed
    rw [hx, if_neg (by omega)]
    simp only [hc, u_large]
def RprB (d : D) : Prop := ∃ z, gReprB d = some (.str z)
theorem rprB (d : D) (h : Rpr d) : RprB d := by
  obtain ⟨z, h⟩ := h
  exact ⟨z, by show (gReprA d).or _ = _; rw [h]; rfl⟩
theorem same_of (d : D) (h : RprB d) : f__law_same .non [d, d] = .ok (.bl true) .non := by
  obtain ⟨z, h1⟩ := h
  have h2 := eq_strs z
  simp [f__law_same, b__law_same, h1, h2, mkF0, mkF1, fin0, fin1, st0, st1, bnd, Sr.ret, opt, mN, mNB, mB, der, m1, m2, m2b, m2r, mT, asB, mChain, mAnd, mOr, mNot, mAndV, mOrV, mNotV, mIf, mNil, mCons, mTup, mLst, mIsN, mNotN, Sr.isNon, mCal, mCal1, mIsi, mFldB, gFld, mC0, mC1, ap0, ap1, chkO, chkL, putL, mMk, apM, skp, sq, sDrop, sRet, sRetO, sIf, sSet, sSetO, sAsg, sPar, gN, gsN, gsC, gT, gA, sApp, sPutI, sNever, mItems, dItems, mRng, mRng2, gRng, gRng2, sFor, turn, gI, gI0, gLt, gLe, gGt, gGe, gAdd, gAddI, gAddS, gAddT, gAddL, Sr.gSub, gMul, gMulI, gDiv, gMod, gPow, gNeg, gNe, dEq, eqS, gLen, gInt1, gMax2, gMin2, gAbs, gIx, gLtT, dInts, putD, gIsi, dKind, tInt, tOnly, List.map_cons, List.map_nil, List.length_cons, List.length_nil, List.cons_append, List.nil_append, List.getElem?_cons_zero, List.getElem?_cons_succ, List.set_cons_zero, List.set_cons_succ, List.replicate, Option.some_or, Option.none_or, Option.map_some, Option.map_none, Option.bind_some, Option.bind_none]
theorem sh_256 {i : Int} (h0 : 0 ≤ i) (h1 : i < 256) : Sh (.int i) 0 3 (.int i) := by
  have H : ∀ n : Fin 256, (PyData.shown (.int (n.val : Int))).length ≤ 3 ∧ (n.val : Int).natAbs.log2 < 1920 := by decide +kernel
  have := H ⟨i.toNat, by omega⟩
  have e : ((i.toNat : Nat) : Int) = i := by omega
  rw [e] at this
  exact ⟨rfl, by simp only [PyData.showable, decide_eq_true_eq]; exact this.2, rfl, Nat.le_refl _, this.1⟩
theorem rpr_num (n : Int) (h0 : 0 ≤ n) (h1 : n < 256) : RprB (.int n) := by
  have hl : n.natAbs.log2 < 1920 := by
    have h3 : n.natAbs < 2 ^ 8 := by omega
    by_cases hz : n.natAbs = 0
    · rw [hz]; decide
    · have := (Nat.log2_lt hz).mpr h3
      omega
  refine ⟨toString n, ?_⟩
  have e1 : gReprA (.int n) = none := rfl
  have e2 : gReprK (.int n) = none := rfl
  have e3 : gReprI (.int n) = some (.str (toString n)) := by
    simp only [gReprI]
    rw [if_pos hl]
  show (gReprA (.int n)).or ((gReprK (.int n)).or (gReprI (.int n))) = _
  rw [e1, e2, e3]
  rfl
theorem rpr_owed (n : Nat) (h : n < 256) : RprB (owed n) := by
  unfold owed
  split
  · exact rpr_num _ (by omega) (by omega)
  · have := sh_tup (shl_cons (sh_256 (i := (n : Nat)) (by omega) (by omega)) (shl_cons (sh_256 (i := 64) (by omega) (by omega)) shl_nil))
    exact rprB _ (rpr_tup this (by omega) (by omega))
theorem s_owed (n : Nat) : f__law_owed .non [.int (n : Nat)] = .ok (owed n) .non := by
  have h : gLe (.int (n : Nat)) (.int 64) = some (.bl (decide ((n : Int) ≤ 64))) := rfl
  unfold f__law_owed owed
  refine ok_fn (e1 := [.val (.int (n : Nat))]) (ok_rt ?_)
  by_cases c : n ≤ 64
  · rw [if_pos c]
    exact ok_vT (ok_T (by have := ok_2 (g := gLe) (ma := mN 0) (mb := ret (.int 64)) (e := st0 1 [.int (n : Nat)]) (e1 := st0 1 [.int (n : Nat)]) (e2 := st0 1 [.int (n : Nat)]) rfl rfl h; rw [decide_eq_true (by omega)] at this; exact this)) rfl
  · rw [if_neg c]
    exact ok_vF (ok_T (by have := ok_2 (g := gLe) (ma := mN 0) (mb := ret (.int 64)) (e := st0 1 [.int (n : Nat)]) (e1 := st0 1 [.int (n : Nat)]) (e2 := st0 1 [.int (n : Nat)]) rfl rfl h; rw [decide_eq_false (by omega)] at this; exact this)) (ok_t (ok_c (d := .int (n : Nat)) rfl (ok_c (d := .int 64) rfl ok_n)) (by simp))
def oddL : List D := [.non, .bl true, .bl false, .int (-1), .int 0, .int 1, .int 2, .int 7, .int 100000000000, .str "", .str "U", .str "D", .str "+", .str "-", .str "UD", .str "+-", .tup [], .lst [], .dk [], .tup [.int 0], .lst [.int 0],
  .dk [(.inl 0, .int 1)], .tup [.str "U", .int 0, .int 0], .tup [.tup [.str "U", .int 0, .int 0]], .lst [.tup [.str "U", .int 0, .int 0]], .tup [.str "U", .str "+"], .tup [.str "", .str ""], .str "00U1", .tup [.non], .str "?"]
theorem s_odd (o : D) (hv : PenOk o) : ∃ d o', f__law_odd o [] = .ok d o' ∧ d ∈ oddL ∧ PenOk o' := by
  obtain ⟨d, o', h1, h2, h3⟩ := s_pick o oddL hv (by decide) (by decide)
  refine ⟨d, o', ?_, h2, h3⟩
  have e : b__law_odd (st1 2 o []) = (sRet (mC1 f__law_pick 0 [] (mCons (mN 1) mNil))) [.own o, .val (.lst oddL)] := rfl
  unfold f__law_odd mkF1
  rw [e]
  simp [h1, mkF0, mkF1, fin0, fin1, st0, st1, bnd, Sr.ret, opt, mN, mNB, mB, der, m1, m2, m2b, m2r, mT, asB, mChain, mAnd, mOr, mNot, mAndV, mOrV, mNotV, mIf, mNil, mCons, mTup, mLst, mIsN, mNotN, Sr.isNon, mCal, mCal1, mIsi, mFldB, gFld, mC0, mC1, ap0, ap1, chkO, chkL, putL, mMk, apM, skp, sq, sDrop, sRet, sRetO, sIf, sSet, sSetO, sAsg, sPar, gN, gsN, gsC, gT, gA, sApp, sPutI, sNever, mItems, dItems, mRng, mRng2, gRng, gRng2, sFor, turn, gI, gI0, gLt, gLe, gGt, gGe, gAdd, gAddI, gAddS, gAddT, gAddL, Sr.gSub, gMul, gMulI, gDiv, gMod, gPow, gNeg, gEq, gNe, dEq, eqS, gLen, gInt1, gMax2, gMin2, gAbs, gIx, gLtT, dInts, putD, gIsi, dKind, tInt, tOnly, List.map_cons, List.map_nil, List.length_cons, List.length_nil, List.cons_append, List.nil_append, List.getElem?_cons_zero, List.getElem?_cons_succ, List.set_cons_zero, List.set_cons_succ, List.replicate, Option.some_or, Option.none_or, Option.map_some, Option.map_none, Option.bind_some, Option.bind_none]
def restL : List D := [.int (-1), .int 10, .bl true, .non, .str "1", .tup [.int 1], .lst [.int 1], .dk [], .int 100000000000]
def dueL : D := .lst [.tup [.str "rule"], .tup [.str "rule"], .tup [.str "number"], .tup [.str "number"]]
def isNum : D → Bool
  | .int i => decide (0 ≤ i) && decide (i ≤ 9)
  | _ => false
section
variable (t : Tb.Tab) (a0 a1 a2 a4 j5 j6 j7 a8 a9 a10 : Sl)
def OneB (d : D) : Prop := turn (gN 5) l_law_1 d [a0, a1, a2, .val (ruleO t), a4, j5, j6, j7, a8, a9, a10] = .ok .nx [a0, a1, a2, .val (ruleO t), a4, .val d, .val dueL, .val (.bl (isNum d)), a8, a9, a10]
theorem t_odd : ∀ d ∈ oddL, OneB t a0 a1 a2 a4 j5 j6 j7 a8 a9 a10 d := by
  intro d hd
  simp only [oddL, List.mem_cons, List.not_mem_nil, or_false] at hd
  unfold OneB
  rcases hd with rfl | rfl | rfl | rfl | rfl | rfl | rfl | rfl | rfl | rfl | rfl | rfl | rfl | rfl | rfl | rfl | rfl | rfl | rfl | rfl | rfl | rfl | rfl | rfl | rfl | rfl | rfl | rfl | rfl | rfl <;> kernel_rfl
theorem t_rest : ∀ d ∈ restL, OneB t a0 a1 a2 a4 j5 j6 j7 a8 a9 a10 d := by
  intro d hd
  simp only [restL, List.mem_cons, List.not_mem_nil, or_false] at hd
  unfold OneB
  rcases hd with rfl | rfl | rfl | rfl | rfl | rfl | rfl | rfl | rfl <;> kernel_rfl
theorem said_add (e : En) (h3 : e[3]? = some (.val (ruleO t))) : mSaid ct_StatusError g__law_kindE (mBinO "Rule" f_RuleU_addU (mN 3) (mN 3)) e = .ok (.tup [.str "number"]) e := by
  have h : mN 3 e = .ok (ruleO t) e := by unfold mN; rw [h3]
  have hi : is2 "Rule" (ruleO t) (ruleO t) = some () := rfl
  have hF : f_RuleU_addU .non [ruleO t, ruleO t] = .exc ⟨"NumberError", []⟩ .non := by kernel_rfl
  have hk : g__law_kindE ⟨"NumberError", []⟩ = some (.str "number") := by kernel_rfl
  have hc : ct_StatusError "NumberError" = some true := by kernel_rfl
  have q : mBinO "Rule" f_RuleU_addU (mN 3) (mN 3) e = .exc ⟨"NumberError", []⟩ e := by
    unfold mBinO
    rw [bnd_ok h, bnd_ok h, hi]
    show ap0 f_RuleU_addU [ruleO t, ruleO t] e = _
    unfold ap0
    rw [hF]
  unfold mSaid
  rw [q]
  simp only [hc, hk]
end
theorem f_bad (t : Tb.Tab) (a0 a1 a2 a4 a8 a9 a10 : Sl) : ∀ (ds : List D) (j5 j6 j7 : Sl), (∀ d ∈ ds, d ∈ oddL ∨ d ∈ restL) → ∃ k5 k6 k7, forL (gN 5) l_law_1 ds [a0, a1, a2, .val (ruleO t), a4, j5, j6, j7, a8, a9, a10] = .ok .nx [a0, a1, a2, .val (ruleO t), a4, k5, k6, k7, a8, a9, a10]
  | [], j5, j6, j7, _ => ⟨j5, j6, j7, rfl⟩
  | d :: ds, j5, j6, j7, h => by
    have q : OneB t a0 a1 a2 a4 j5 j6 j7 a8 a9 a10 d := (h d (by simp)).elim (t_odd t a0 a1 a2 a4 j5 j6 j7 a8 a9 a10 d) (t_rest t a0 a1 a2 a4 j5 j6 j7 a8 a9 a10 d)
    unfold OneB at q
    obtain ⟨k5, k6, k7, f⟩ := f_bad t a0 a1 a2 a4 a8 a9 a10 ds (.val d) (.val dueL) (.val (.bl (isNum d))) fun x hx => h x (by simp [hx])
    exact ⟨k5, k6, k7, by rw [forL_cons_nx q]; exact f⟩
theorem lcL_filter {B : Type} {w : D → M Unit} {t : M Bool} {el : M D} {vs : List Nat} (g h : B → D) (P : B → Bool) (E : En) : ∀ (xs : List B) (acc : List D), acc.length + xs.length ≤ 16777216 →
    (∀ x ∈ xs, ∃ e1 e2, w (g x) E = .ok () e1 ∧ t e1 = .ok (P x) e2 ∧ (P x = false → wipE vs e2 = E) ∧ (P x = true → ∃ e3, el e2 = .ok (h x) e3 ∧ wipE vs e3 = E)) → lcL w t el vs (xs.map g) acc E = .ok (acc ++ (xs.filter P).map h) E
  | [], acc, _, _ => by simp [lcL, Sr.ret]
  | x :: xs, acc, hl, hs => by
    obtain ⟨e1, e2, h1, h2, h3, h4⟩ := hs x (by simp)
    rw [List.length_cons] at hl
    rw [List.map_cons, lcL, bnd_ok h1, bnd_ok h2, List.filter_cons]
    cases hP : P x with
    | false =>
      rw [if_neg (by simp), if_neg (by simp)]
      show lcL w t el vs (List.map g xs) acc (wipE vs e2) = _
      rw [h3 hP]
      exact lcL_filter g h P E xs acc (by omega) fun y hy => hs y (by simp [hy])
    | true =>
      obtain ⟨e3, h5, h6⟩ := h4 hP
      have hz : acc.length < sizeLine := by
        have e : sizeLine = 16777216 := by decide
        omega
      rw [if_pos rfl, if_pos rfl, bnd_ok h5, if_pos hz]
      show lcL w t el vs (List.map g xs) (acc ++ [h x]) (wipE vs e3) = _
      rw [h6, lcL_filter g h P E xs (acc ++ [h x]) (by simp; omega) fun y hy => hs y (by simp [hy])]
      simp
theorem mLc_filter {B : Type} {m : M (List D)} {w : D → M Unit} {t : M Bool} {el : M D} {vs : List Nat} {e e1 : En} {xs : List B} (g h : B → D) (P : B → Bool) (hm : m e = .ok (xs.map g) e1) (hl : xs.length ≤ 16777216)
    (hs : ∀ x ∈ xs, ∃ a b, w (g x) (wipE vs e1) = .ok () a ∧ t a = .ok (P x) b ∧ (P x = false → wipE vs b = wipE vs e1) ∧ (P x = true → ∃ c, el b = .ok (h x) c ∧ wipE vs c = wipE vs e1)) : mLc vs m w t el e = .ok (.lst ((xs.filter P).map h)) (rst vs e1 (wipE vs e1)) := by
  unfold mLc
  rw [bnd_ok hm]
  have := lcL_filter g h P (wipE vs e1) xs [] (by simpa using hl) hs
  simp only [this, List.nil_append]
theorem ok_mk {m : M D} {e e1 : En} {c R : D} (h : m e = .ok c e1) (g : f_RuleU_initU (.obj "Rule" []) [c] = .ok .non R) : mMk "Rule" f_RuleU_initU (fun ds es => ds) (mCons m mNil) mNil e = .ok R e1 := by
  unfold mMk
  rw [bnd_ok (ok_c h ok_n)]
  show apM "Rule" f_RuleU_initU [c] e1 = _
  unfold apM
  rw [g]
def rs (n : Nat) : List Bool := Tb.pre (Tb.u1 n) n
def rR (n : Nat) : D := ruleO (Tb.small (Tb.rg (rs n)) 0)
theorem n14 {n : Nat} (h1 : 1 ≤ n) (h2 : n ≤ 14) : n = 1 ∨ n = 2 ∨ n = 3 ∨ n = 4 ∨ n = 5 ∨ n = 6 ∨ n = 7 ∨ n = 8 ∨ n = 9 ∨ n = 10 ∨ n = 11 ∨ n = 12 ∨ n = 13 ∨ n = 14 := by omega
theorem v_ring {n : Nat} (h1 : 1 ≤ n) (h2 : n ≤ 14) : f__law_ring .non [.str (sts (rs n))] = .ok (encT (Tb.rg (rs n))) .non := by
  rcases n14 h1 h2 with rfl | rfl | rfl | rfl | rfl | rfl | rfl | rfl | rfl | rfl | rfl | rfl | rfl | rfl <;> kernel_rfl
theorem g_ring1 {n : Nat} (h1 : 1 ≤ n) (h2 : n ≤ 14) : gMulA (.str "D") (.int ((n : Nat) - 1 : Int)) = some (.str (sts (List.replicate (n - 1) false))) := by
  rcases n14 h1 h2 with rfl | rfl | rfl | rfl | rfl | rfl | rfl | rfl | rfl | rfl | rfl | rfl | rfl | rfl <;> kernel_rfl
theorem g_ring2 {n : Nat} (h1 : 1 ≤ n) (h2 : n ≤ 14) : gAdd (.str "U") (.str (sts (List.replicate (n - 1) false))) = some (.str (sts (rs n))) := by
  rcases n14 h1 h2 with rfl | rfl | rfl | rfl | rfl | rfl | rfl | rfl | rfl | rfl | rfl | rfl | rfl | rfl <;> kernel_rfl
theorem rs_len (n : Nat) : (rs n).length = n := Tb.pre_len _ _
theorem ok_ring {n i : Nat} (h1 : 1 ≤ n) (h2 : n ≤ 14) {e : En} (he : mN i e = .ok (.int (n : Nat)) e) : mMk "Rule" f_RuleU_initU (fun ds es => ds) (mCons (mC0 f__law_ring [] (mCons (m2 gAdd (ret (.str "U")) (m2 gMulA (ret (.str "D")) (m2 Sr.gSub (mN i) (ret (.int 1))))) mNil)) mNil) mNil e = .ok (rR n) e := by
  have l : (Tb.rg (rs n)).length = n := by rw [Tb.rg_len, rs_len]
  exact ok_mk (ok_f (ok_c (ok_2 (a := .str "U") rfl (ok_2 (a := .str "D") rfl (ok_2 (b := .int 1) he rfl rfl) (g_ring1 h1 h2)) (g_ring2 h1 h2)) ok_n) (v_ring h1 h2)) (s_rule _ (Tb.rg_ok _) (by omega) (by omega))
theorem add_sts3 (u v : List Bool) (h : u.length + v.length ≤ 1000) : gAdd (.str (sts u)) (.str (sts v)) = some (.str (sts (u ++ v))) := by
  have hz : u.length + v.length ≤ 16777216 := by omega
  simp [gAdd, gAddI, gI0, gAddS, sts_len, sts_app, sizeLine, hz]
theorem sts_eq (u v : List Bool) : gEq (.str (sts u)) (.str (sts v)) = some (.bl (decide (u = v))) := by
  have e : gEq (.str (sts u)) (.str (sts v)) = some (.bl (decide (sts u = sts v))) := by simp [gEq, dEq, eqS]
  rw [e]
  congr 2
  have inj : sts u = sts v ↔ u = v := by
    constructor
    · intro h
      have h2 : (sts u).cps.toList = (sts v).cps.toList := by rw [h]
      have q : ∀ w, (sts w).cps.toList = w.map fun b => if b then 85 else 68 := fun w => by unfold sts; simp
      rw [q, q] at h2
      have : ∀ (u v : List Bool), u.map (fun b => if b then 85 else 68) = v.map (fun b => if b then 85 else 68) → u = v := by
        intro u
        induction u with
        | nil => intro v h; cases v with
          | nil => rfl
          | cons b v => cases h
        | cons a u ih => intro v h; cases v with
          | nil => cases h
          | cons b v =>
            rw [List.map_cons, List.map_cons, List.cons.injEq] at h
            rw [ih v h.2]
            cases a <;> cases b <;> first | rfl | (exfalso; revert h; decide) | (have := h.1; simp at this)
      exact this u v h2
    · intro h; rw [h]
  exact decide_eq_decide.2 inj
theorem cut_lo (w : List Bool) (n : Nat) (h : n ≤ w.length) (hw : w.length ≤ 1000) : gSl (.str (sts w)) (some (n : Int)) none = some (.str (sts (w.drop n))) := by
  have hz : (sts w).length ≤ sizeLine := by
    rw [sts_len]
    have e : sizeLine = 16777216 := by decide
    omega
  simp only [gSl]
  rw [if_pos hz]
  congr 2
  unfold cutS
  rw [sts_len]
  have e1 : HT.sIx w.length 0 (some (n : Int)) = n := by
    simp only [HT.sIx]
    split <;> omega
  have e2 : HT.sIx w.length w.length none = w.length := rfl
  rw [e1, e2]
  unfold sts
  simp only [List.map_drop]
  congr 2
  rw [List.take_of_length_le (by simp)]
theorem cut_hi (w : List Bool) (n : Nat) (h : n ≤ w.length) (hw : w.length ≤ 1000) : gSl (.str (sts w)) none (some (n : Int)) = some (.str (sts (w.take n))) := by
  have hz : (sts w).length ≤ sizeLine := by
    rw [sts_len]
    have e : sizeLine = 16777216 := by decide
    omega
  simp only [gSl]
  rw [if_pos hz]
  congr 2
  unfold cutS
  rw [sts_len]
  have e1 : HT.sIx w.length w.length (some (n : Int)) = n := by
    simp only [HT.sIx]
    split <;> omega
  have e2 : HT.sIx w.length 0 none = 0 := rfl
  rw [e1, e2]
  unfold sts
  simp only [List.map_take]
  congr 2
theorem mod_eq (k n : Nat) (hn : 0 < n) : ∃ z : Int, gMod (.int (k : Nat)) (.int (n : Nat)) = some (.int z) ∧ gEq (.int z) (.int 0) = some (.bl (Tb.u1 n k)) := by
  refine ⟨((k : Nat) : Int) % ((n : Nat) : Int), ?_, ?_⟩
  · have : decide ((0 : Int) < (n : Nat)) = true := by rw [decide_eq_true_eq]; omega
    simp [gMod, gI, this]
    omega
  · have e : ∀ i j : Int, gEq (.int i) (.int j) = some (.bl (decide (i = j))) := fun i j => by simp [gEq, dEq, eqS]
    rw [e]
    congr 2
    unfold Tb.u1
    rw [← Int.natCast_emod]
    by_cases c : k % n = 0
    · rw [decide_eq_true (by omega), c]; rfl
    · have h : (k % n == 0) = false := by simp [c]
      rw [decide_eq_false (by omega), h]
theorem ok_s2 {m : M D} {e e1 e2 : En} {d : D} {i : Nat} (h : m e = .ok d e1) (he : e1.set i (.val d) = e2) : sSet i m e = .ok .nx e2 := by rw [ok_s h, he]
theorem t_ring (n m k : Nat) (hn : 0 < n) (hm : 0 < m) (l l' : List Bool) (hl : l.length ≤ 500) (hl' : l'.length ≤ 500) (a2 a3 j6 j7 : Sl) :
    ∃ k7, turn (gN 6) l__law_are_rings_right_1 (.int (k : Nat)) [.val (.int (n : Nat)), .val (.int (m : Nat)), a2, a3, .val (.str (sts l)), .val (.str (sts l')), j6, j7] =
      .ok .nx [.val (.int (n : Nat)), .val (.int (m : Nat)), a2, a3, .val (.str (sts (l ++ [Tb.jg (upF true) n m k]))), .val (.str (sts (l' ++ [Tb.jg (upF false) n m k]))), .val (.int (k : Nat)), k7] := by
  obtain ⟨z1, p1, p2⟩ := mod_eq k n hn
  obtain ⟨z2, p3, p4⟩ := mod_eq k m hm
  have A : ∀ b, gAdd (.str (sts l)) (.str (sts [b])) = some (.str (sts (l ++ [b]))) := fun b => add_sts3 l [b] (by simp; omega)
  have A' : ∀ b, gAdd (.str (sts l')) (.str (sts [b])) = some (.str (sts (l' ++ [b]))) := fun b => add_sts3 l' [b] (by simp; omega)
  have up : D.str (sts [true]) = .str "U" := rfl
  have dn : D.str (sts [false]) = .str "D" := rfl
  have st : ∀ (x y : Bool) (c : Int), gInt1 [.bl x] = some (.int (if x then 1 else 0)) := fun x y c => rfl
  unfold Tb.jg
  generalize Tb.u1 n k = x at *
  generalize Tb.u1 m k = y at *
  have c1 : ∀ e : En, e = [.val (.int (n : Nat)), .val (.int (m : Nat)), a2, a3, .val (.str (sts l)), .val (.str (sts l')), .val (.int (k : Nat)), j7] → m2 gAdd (mCal gInt1 (mCons (m2 gEq (m2 gMod (mCal gInt1 (mCons (mN 6) mNil)) (mN 0)) (ret (.int 0))) mNil)) (mCal gInt1 (mCons (m2 gEq (m2 gMod (mCal gInt1 (mCons (mN 6) mNil)) (mN 1)) (ret (.int 0))) mNil)) e = .ok (.int ((if x then 1 else 0) + if y then 1 else 0)) e := fun e he => by
    subst he
    exact ok_2 (a := .int (if x then 1 else 0)) (b := .int (if y then 1 else 0)) (ok_cl (ok_c (ok_2 (ok_2 (b := .int (n : Nat)) (ok_cl (ok_c (d := .int (k : Nat)) rfl ok_n) rfl) rfl p1) (b := .int 0) rfl p2) ok_n) rfl) (ok_cl (ok_c (ok_2 (ok_2 (b := .int (m : Nat)) (ok_cl (ok_c (d := .int (k : Nat)) rfl ok_n) rfl) rfl p3) (b := .int 0) rfl p4) ok_n) rfl) rfl
  have e22 : gEq (.int 2) (.int 2) = some (.bl true) := by kernel_rfl
  have e12 : gEq (.int 1) (.int 2) = some (.bl false) := by kernel_rfl
  have e02 : gEq (.int 0) (.int 2) = some (.bl false) := by kernel_rfl
  have g0 : gGt (.int 0) (.int 0) = some (.bl false) := rfl
  have g1 : gGt (.int 1) (.int 0) = some (.bl true) := rfl
  have g2 : gGt (.int 2) (.int 0) = some (.bl true) := rfl
  refine ⟨.val (.int ((if x then 1 else 0) + if y then 1 else 0)), ?_⟩
  refine ok_tn (e1 := [.val (.int (n : Nat)), .val (.int (m : Nat)), a2, a3, .val (.str (sts l)), .val (.str (sts l')), .val (.int (k : Nat)), j7]) rfl ?_
  unfold l__law_are_rings_right_1
  refine ok_sq (ok_s (i := 7) (c1 _ rfl)) ?_
  cases x <;> cases y
  · exact ok_sq (ok_s (i := 4) (ok_2 (a := .str (sts l)) (b := .str (sts [false])) rfl (ok_vF (ok_T (ok_2 (a := .int 0) (b := .int 2) rfl rfl e02)) rfl) (A _))) (ok_s2 (i := 5) (ok_2 (a := .str (sts l')) (b := .str (sts [false])) rfl (ok_vF (ok_T (ok_2 (a := .int 0) (b := .int 0) rfl rfl g0)) rfl) (A' _)) rfl)
  · exact ok_sq (ok_s (i := 4) (ok_2 (a := .str (sts l)) (b := .str (sts [false])) rfl (ok_vF (ok_T (ok_2 (a := .int 1) (b := .int 2) rfl rfl e12)) rfl) (A _))) (ok_s2 (i := 5) (ok_2 (a := .str (sts l')) (b := .str (sts [true])) rfl (ok_vT (ok_T (ok_2 (a := .int 1) (b := .int 0) rfl rfl g1)) rfl) (A' _)) rfl)
  · exact ok_sq (ok_s (i := 4) (ok_2 (a := .str (sts l)) (b := .str (sts [false])) rfl (ok_vF (ok_T (ok_2 (a := .int 1) (b := .int 2) rfl rfl e12)) rfl) (A _))) (ok_s2 (i := 5) (ok_2 (a := .str (sts l')) (b := .str (sts [true])) rfl (ok_vT (ok_T (ok_2 (a := .int 1) (b := .int 0) rfl rfl g1)) rfl) (A' _)) rfl)
  · exact ok_sq (ok_s (i := 4) (ok_2 (a := .str (sts l)) (b := .str (sts [true])) rfl (ok_vT (ok_T (ok_2 (a := .int 2) (b := .int 2) rfl rfl e22)) rfl) (A _))) (ok_s2 (i := 5) (ok_2 (a := .str (sts l')) (b := .str (sts [true])) rfl (ok_vT (ok_T (ok_2 (a := .int 2) (b := .int 0) rfl rfl g2)) rfl) (A' _)) rfl)
theorem pre_succ (g : Nat → Bool) (a : Nat) : Tb.pre g (a + 1) = Tb.pre g a ++ [g a] := by
  unfold Tb.pre
  rw [List.range_succ, List.map_append]
  rfl
theorem f_ring (n m : Nat) (hn : 0 < n) (hm : 0 < m) (a2 a3 : Sl) : ∀ (c a : Nat) (j6 j7 : Sl), a + c ≤ 400 → ∃ k6 k7, forL (gN 6) l__law_are_rings_right_1 ((List.range' a c).map fun k : Nat => D.int (k : Nat)) [.val (.int (n : Nat)), .val (.int (m : Nat)), a2, a3, .val (.str (sts (Tb.pre (Tb.jg (upF true) n m) a))), .val (.str (sts (Tb.pre (Tb.jg (upF false) n m) a))), j6, j7] =
      .ok .nx [.val (.int (n : Nat)), .val (.int (m : Nat)), a2, a3, .val (.str (sts (Tb.pre (Tb.jg (upF true) n m) (a + c)))), .val (.str (sts (Tb.pre (Tb.jg (upF false) n m) (a + c)))), k6, k7]
  | 0, a, j6, j7, _ => ⟨j6, j7, by rw [Nat.add_zero]; rfl⟩
  | c + 1, a, j6, j7, h => by
    obtain ⟨q7, ht⟩ := t_ring n m a hn hm (Tb.pre (Tb.jg (upF true) n m) a) (Tb.pre (Tb.jg (upF false) n m) a) (by rw [Tb.pre_len]; omega) (by rw [Tb.pre_len]; omega) a2 a3 j6 j7
    rw [← pre_succ, ← pre_succ] at ht
    obtain ⟨k6, k7, f⟩ := f_ring n m hn hm a2 a3 c (a + 1) (.val (.int (a : Nat))) q7 (by omega)
    refine ⟨k6, k7, ?_⟩
    rw [List.range'_succ, List.map_cons, forL_cons_nx ht, f, show a + 1 + c = a + (c + 1) by omega]
theorem rng_1 (L : Nat) (h : L ≤ 1000) : gRng2 [.int 1, .int ((L : Nat) + 1 : Int)] = some ((List.range' 1 L).map fun q : Nat => D.int (q : Nat)) := by
  have h0 : okR 1 = true := by decide
  have h1 : okR ((L : Nat) + 1 : Int) = true := by unfold okR; simp; omega
  simp only [gRng2, h0, h1, Bool.and_self, if_true]
  rw [rngL_eq, Option.some.injEq]
  unfold irng
  rw [List.range'_eq_map_range, List.map_map, List.map_map]
  have e : (((L : Nat) : Int) + 1 - 1).toNat = L := by omega
  rw [e]
  refine List.map_congr_left fun i _ => ?_
  simp only [Function.comp, Int.natCast_add, Int.natCast_one]
theorem t_per (l : List Bool) (hl : l.length ≤ 400) (q : Nat) (hq : q ≤ l.length) : t__law_period_1 [.val (.str (sts l)), .val (.int (q : Nat))] = .ok (decide (l.drop q ++ l.take q = l)) [.val (.str (sts l)), .val (.int (q : Nat))] := by
  have c1 := cut_lo l q hq (by omega)
  have c2 := cut_hi l q hq (by omega)
  have c3 := add_sts3 (l.drop q) (l.take q) (by simp; omega)
  have c4 := sts_eq (l.drop q ++ l.take q) l
  generalize decide (l.drop q ++ l.take q = l) = B at *
  have s1 : mSl (mN 0) (mPart (mN 1)) mNoP [.val (.str (sts l)), .val (.int (q : Nat))] = .ok (.str (sts (l.drop q))) [.val (.str (sts l)), .val (.int (q : Nat))] := by
    show opt (gSl (.str (sts l)) (some (q : Int)) none) _ = _
    rw [c1]; rfl
  have s2 : mSl (mN 0) mNoP (mPart (mN 1)) [.val (.str (sts l)), .val (.int (q : Nat))] = .ok (.str (sts (l.take q))) [.val (.str (sts l)), .val (.int (q : Nat))] := by
    show opt (gSl (.str (sts l)) none (some (q : Int))) _ = _
    rw [c2]; rfl
  exact ok_T (ok_2 (ok_2 s1 s2 c3) (b := .str (sts l)) rfl c4)
theorem s_period (g : Nat → Bool) (L : Nat) (h1 : 1 ≤ L) (h2 : L ≤ 400) (hP : Tb.Per g L) : ∃ p : Nat, f__law_period .non [.str (sts (Tb.pre g L))] = .ok (.int (p : Nat)) .non ∧ 0 < p ∧ p ≤ L ∧ Tb.Per g p ∧ ∀ q, 0 < q → q < p → ¬ Tb.Per g q := by
  have hl := Tb.pre_len g L
  have rot : ∀ q, q ≤ L → (decide ((Tb.pre g L).drop q ++ (Tb.pre g L).take q = Tb.pre g L) = true ↔ Tb.Per g q) := fun q hq => by
    rw [decide_eq_true_eq]
    exact Tb.rot_per h1 hP hq
  obtain ⟨p, r, e1, e2, e3, e4, e5⟩ := Tb.first_per (fun q => decide ((Tb.pre g L).drop q ++ (Tb.pre g L).take q = Tb.pre g L)) L 1 ⟨L, h1, by omega, (rot L (Nat.le_refl _)).2 hP⟩
  refine ⟨p, ?_, by omega, by omega, (rot p (by omega)).1 e4, fun q h1 h2 c => ?_⟩
  · generalize hw : Tb.pre g L = l at *
    have ln : gLen (.str (sts l)) = some (.int (L : Nat)) := by
      have hz : (sts l).length ≤ sizeLine := by
        rw [sts_len]
        have e : sizeLine = 16777216 := by decide
        omega
      simp only [gLen]
      rw [if_pos hz, sts_len, hl]
    have rg := rng_1 L (by omega)
    have hm : mRng2 (mCons (ret (.int 1)) (mCons (m2 gAdd (m1 gLen (mN 0)) (ret (.int 1))) mNil)) [.val (.str (sts l)), .no] = .ok ((List.range' 1 L).map fun q : Nat => D.int (q : Nat)) [.val (.str (sts l)), .no] :=
      ok_r2 (ok_c (d := .int 1) rfl (ok_c (ok_2 (ok_1 (a := .str (sts l)) rfl ln) (b := .int 1) rfl rfl) ok_n)) rg
    have q := mLc_filter (B := Nat) (w := gN 1) (t := t__law_period_1) (el := e__law_period_1) (vs := [1]) (fun q : Nat => D.int (q : Nat)) (fun q : Nat => D.int (q : Nat)) (fun q => decide (l.drop q ++ l.take q = l)) hm (by simp; omega) (fun q hq => by
      rw [List.mem_range'_1] at hq
      exact ⟨[.val (.str (sts l)), .val (.int (q : Nat))], [.val (.str (sts l)), .val (.int (q : Nat))], rfl, t_per l (by omega) q (by omega), fun _ => rfl, fun _ => ⟨_, rfl, rfl⟩⟩)
    rw [e1] at q
    have ix : gIx (.lst ((p :: r).map fun q : Nat => D.int (q : Nat))) (.int 0) = some (.int (p : Nat)) := by
      show L2.atI (D.int (p : Nat) :: r.map fun q : Nat => D.int (q : Nat)) 0 = _
      exact Sr.atI_nat (l := D.int (p : Nat) :: r.map fun q : Nat => D.int (q : Nat)) (i := 0) (by simp)
    exact ok_fn (ok_rt (ok_2 q (b := .int 0) rfl ix))
  · have := e5 q (by omega) h2
    rw [(rot q (by omega)).2 c] at this
    cases this
theorem rng_0 (L : Nat) (h : L < 1000000) : gRng [.int (L : Nat)] = some ((List.range' 0 L).map fun q : Nat => D.int (q : Nat)) := by
  rw [rngI (L : Nat) (by omega) (by omega), Option.some.injEq]
  unfold irng
  rw [List.range'_eq_map_range, List.map_map, List.map_map]
  have e : (((L : Nat) : Int) - 0).toNat = L := by omega
  rw [e]
  refine List.map_congr_left fun i _ => ?_
  simp only [Function.comp, Int.natCast_add]
  rfl
theorem rR_tab (n : Nat) (h : 1 ≤ n) (h14 : n ≤ 14) : Tb.Ok (Tb.small (Tb.rg (rs n)) 0) ∧ (Tb.small (Tb.rg (rs n)) 0).length = n := by
  have l : (Tb.rg (rs n)).length = n := by rw [Tb.rg_len, rs_len]
  exact ⟨Tb.small_ok (Tb.rg_ok _) (by omega), Tb.u1_small n h⟩
theorem rowsJ (f : Bool → Bool → Bool) (n m p : Nat) (hn : 0 < n) (hm : 0 < m) (hp : 0 < p) (h : Tb.Per (Tb.jg f n m) p) (hl : ∀ q, 0 < q → q < p → ¬ Tb.Per (Tb.jg f n m) q) : (Tb.small (Tb.jn f (Tb.small (Tb.rg (rs n)) 0) (Tb.small (Tb.rg (rs m)) 0)) 0).length = p := by
  have := Tb.jn_rings f n m p hn hm hp h
  unfold rs
  rw [this]
  exact Tb.rg_least hp h hl
theorem s_rings (n m : Nat) (h1 : 1 ≤ n) (h2 : n ≤ 14) (h3 : 1 ≤ m) (h4 : m ≤ 14) : f__law_are_rings_right .non [.int (n : Nat), .int (m : Nat)] = .ok (.bl true) .non := by
  have hb : n * m ≤ 14 * 14 := Nat.mul_le_mul h2 h4
  have hp : 1 ≤ n * m := Nat.mul_pos h1 h3
  obtain ⟨ok1, l1⟩ := rR_tab n h1 h2
  obtain ⟨ok2, l2⟩ := rR_tab m h3 h4
  obtain ⟨p, q1, p1, p2, p3, p4⟩ := s_period (Tb.jg (upF true) n m) (n * m) hp (by omega) (Tb.jg_per _ n m)
  obtain ⟨p', q1', p1', p2', p3', p4'⟩ := s_period (Tb.jg (upF false) n m) (n * m) hp (by omega) (Tb.jg_per _ n m)
  have r1 := rowsJ (upF true) n m p h1 h3 p1 p3 p4
  have r2 := rowsJ (upF false) n m p' h1 h3 p1' p3' p4'
  have A := s_andV (Tb.small (Tb.rg (rs n)) 0) (Tb.small (Tb.rg (rs m)) 0) ok1 ok2 (by omega) (by omega) (by omega) (by omega)
  have O := s_orV (Tb.small (Tb.rg (rs n)) 0) (Tb.small (Tb.rg (rs m)) 0) ok1 ok2 (by omega) (by omega) (by omega) (by omega)
  have e1 : (Tb.small (Tb.jn (upF true) (Tb.small (Tb.rg (rs n)) 0) (Tb.small (Tb.rg (rs m)) 0)) 0).length = p := r1
  have e2 : (Tb.small (Tb.jn (upF false) (Tb.small (Tb.rg (rs n)) 0) (Tb.small (Tb.rg (rs m)) 0)) 0).length = p' := r2
  generalize Tb.small (Tb.jn (upF true) (Tb.small (Tb.rg (rs n)) 0) (Tb.small (Tb.rg (rs m)) 0)) 0 = u1 at *
  generalize Tb.small (Tb.jn (upF false) (Tb.small (Tb.rg (rs n)) 0) (Tb.small (Tb.rg (rs m)) 0)) 0 = u2 at *
  have i12 : is2 "Rule" (rR n) (rR m) = some () := rfl
  have A : MadeF u1 (f_RuleU_andU .non [rR n, rR m]) := A
  have O : MadeF u2 (f_RuleU_orU .non [rR n, rR m]) := O
  obtain ⟨k6, k7, F⟩ := f_ring n m h1 h3 (.val (rR n)) (.val (rR m)) (n * m) 0 .no .no (by omega)
  rw [Nat.zero_add] at F
  have z1 : mMk "Rule" f_RuleU_initU (fun ds es => ds) (mCons (mC0 f__law_ring [] (mCons (m2 gAdd (ret (.str "U")) (m2 gMulA (ret (.str "D")) (m2 Sr.gSub (mN 0) (ret (.int 1))))) mNil)) mNil) mNil [.val (.int (n : Nat)), .val (.int (m : Nat)), .no, .no, .no, .no, .no, .no] = .ok (rR n) [.val (.int (n : Nat)), .val (.int (m : Nat)), .no, .no, .no, .no, .no, .no] := ok_ring h1 h2 rfl
  have z2 : mMk "Rule" f_RuleU_initU (fun ds es => ds) (mCons (mC0 f__law_ring [] (mCons (m2 gAdd (ret (.str "U")) (m2 gMulA (ret (.str "D")) (m2 Sr.gSub (mN 1) (ret (.int 1))))) mNil)) mNil) mNil [.val (.int (n : Nat)), .val (.int (m : Nat)), .val (rR n), .no, .no, .no, .no, .no] = .ok (rR m) [.val (.int (n : Nat)), .val (.int (m : Nat)), .val (rR n), .no, .no, .no, .no, .no] := ok_ring h3 h4 rfl
  generalize rR n = R1 at *
  generalize rR m = R2 at *
  have m0 : gMul (.int (n : Nat)) (.int (m : Nat)) = some (.int ((n * m : Nat) : Int)) := by
    have : cMul (n : Nat) (m : Nat) = true := cmul_r (by omega) (by omega)
    simp [gMul, gMulI, gI, this]
  have rg := rng_0 (n * m) (by omega)
  have sa := same_of _ (rpr_owed p (by omega))
  have so := same_of _ (rpr_owed p' (by omega))
  have wa := s_owed p
  have wo := s_owed p'
  have G0 : Tb.pre (Tb.jg (upF true) n m) 0 = [] := rfl
  have G1 : Tb.pre (Tb.jg (upF false) n m) 0 = [] := rfl
  rw [G0, G1] at F
  generalize sts (Tb.pre (Tb.jg (upF true) n m) (n * m)) = S1 at *
  generalize sts (Tb.pre (Tb.jg (upF false) n m) (n * m)) = S2 at *
  generalize (List.range' 0 (n * m)).map (fun q : Nat => D.int (q : Nat)) = ks at *
  generalize ((n * m : Nat) : Int) = NM at *
  have nil : D.str (sts []) = .str "" := rfl
  rw [nil] at F
  have y1 := ok_large (e := [.val (.int (n : Nat)), .val (.int (m : Nat)), .val R1, .val R2, .val (.str S1), .val (.str S2), k6, k7]) (ok_bin (ma := mN 2) (mb := mN 3) rfl rfl i12 A)
  have y2 := ok_large (e := [.val (.int (n : Nat)), .val (.int (m : Nat)), .val R1, .val R2, .val (.str S1), .val (.str S2), k6, k7]) (ok_bin (ma := mN 2) (mb := mN 3) rfl rfl i12 O)
  rw [e1] at y1
  rw [e2] at y2
  have x1 : mC0 f__law_period [] (mCons (mN 4) mNil) [.val (.int (n : Nat)), .val (.int (m : Nat)), .val R1, .val R2, .val (.str S1), .val (.str S2), k6, k7] = .ok (.int (p : Nat)) [.val (.int (n : Nat)), .val (.int (m : Nat)), .val R1, .val R2, .val (.str S1), .val (.str S2), k6, k7] := ok_f (ok_c (d := .str S1) rfl ok_n) q1
  have x2 : mC0 f__law_period [] (mCons (mN 5) mNil) [.val (.int (n : Nat)), .val (.int (m : Nat)), .val R1, .val R2, .val (.str S1), .val (.str S2), k6, k7] = .ok (.int (p' : Nat)) [.val (.int (n : Nat)), .val (.int (m : Nat)), .val R1, .val R2, .val (.str S1), .val (.str S2), k6, k7] := ok_f (ok_c (d := .str S2) rfl ok_n) q1'
  exact ok_fn (ok_sq (ok_s (i := 2) z1) (ok_sq (ok_s (i := 3) z2) (ok_sq (ok_as (e2 := [.val (.int (n : Nat)), .val (.int (m : Nat)), .val R1, .val R2, .val (.str ""), .val (.str ""), .no, .no]) (ok_t (ok_c (d := .str "") rfl (ok_c (d := .str "") rfl ok_n)) (by simp)) rfl)
    (ok_sq (ok_fr (ok_r1 (ok_c (ok_2 (a := .int (n : Nat)) (b := .int (m : Nat)) rfl rfl m0) ok_n) rg) F)
      (ok_sq (ok_ifF (ok_mn (ok_T (ok_f (ok_c y1 (ok_c (ok_f (ok_c x1 ok_n) wa) ok_n)) sa))) ok_k)
        (ok_rt (ok_f (ok_c y2 (ok_c (ok_f (ok_c x2 ok_n) wo) ok_n)) so)))))))
theorem e_chain (x : Int) (a0 : Sl) : e__law_chain_1 [a0, .val (.int x)] = .ok (.tup [.str "D", .int (x + 1), .int 0]) [a0, .val (.int x)] := by
  have hz : (3 : Nat) ≤ sizeLine := by decide
  simp [e__law_chain_1, hz, mkF0, mkF1, fin0, fin1, st0, st1, bnd, Sr.ret, opt, mN, mNB, mB, der, m1, m2, m2b, m2r, mT, asB, mChain, mAnd, mOr, mNot, mAndV, mOrV, mNotV, mIf, mNil, mCons, mTup, mLst, mIsN, mNotN, Sr.isNon, mCal, mCal1, mIsi, mFldB, gFld, mC0, mC1, ap0, ap1, chkO, chkL, putL, mMk, apM, skp, sq, sDrop, sRet, sRetO, sIf, sSet, sSetO, sAsg, sPar, gN, gsN, gsC, gT, gA, sApp, sPutI, sNever, mItems, dItems, mRng, mRng2, gRng, gRng2, sFor, turn, gI, gI0, gLt, gLe, gGt, gGe, gAdd, gAddI, gAddS, gAddT, gAddL, Sr.gSub, gMul, gMulI, gDiv, gMod, gPow, gNeg, gEq, gNe, dEq, eqS, gLen, gInt1, gMax2, gMin2, gAbs, gIx, gLtT, dInts, putD, gIsi, dKind, tInt, tOnly, List.map_cons, List.map_nil, List.length_cons, List.length_nil, List.cons_append, List.nil_append, List.getElem?_cons_zero, List.getElem?_cons_succ, List.set_cons_zero, List.set_cons_succ, List.replicate, Option.some_or, Option.none_or, Option.map_some, Option.map_none, Option.bind_some, Option.bind_none]
theorem b_chain (N : Int) (A : List D) (b1 : Sl) (h : mLc [1] (mRng (mCons (m2 Sr.gSub (mN 0) (ret (.int 1))) mNil)) (gN 1) t__law_chain_1 e__law_chain_1 [.val (.int N), .no] = .ok (.lst A) [.val (.int N), b1]) (hA : A.length ≤ 1000) : f__law_chain .non [.int N] = .ok (.tup (A ++ [.tup [.str "U", .int (N - 1), .int 0]])) .non := by
  have hz1 : (1 : Nat) ≤ sizeLine := by decide
  have hz3 : (3 : Nat) ≤ sizeLine := by decide
  have ha : ∀ d, gAdd (.lst A) (.lst [d]) = some (.lst (A ++ [d])) := fun d => by
    have hz : A.length + 1 ≤ sizeLine := by
      have e : sizeLine = 16777216 := by decide
      omega
    simp [gAdd, gAddI, gI0, gAddS, gAddT, gAddL, hz]
  generalize hX : mLc [1] (mRng (mCons (m2 Sr.gSub (mN 0) (ret (.int 1))) mNil)) (gN 1) t__law_chain_1 e__law_chain_1 = X at h
  simp only [f__law_chain, b__law_chain, hX]
  simp [h, ha, gTuple, hz1, hz3, mkF0, mkF1, fin0, fin1, st0, st1, bnd, Sr.ret, opt, mN, mNB, mB, der, m1, m2, m2b, m2r, mT, asB, mChain, mAnd, mOr, mNot, mAndV, mOrV, mNotV, mIf, mNil, mCons, mTup, mLst, mIsN, mNotN, Sr.isNon, mCal, mCal1, mIsi, mFldB, gFld, mC0, mC1, ap0, ap1, chkO, chkL, putL, mMk, apM, skp, sq, sDrop, sRet, sRetO, sIf, sSet, sSetO, sAsg, sPar, gN, gsN, gsC, gT, gA, sApp, sPutI, sNever, mItems, dItems, mRng, mRng2, gRng, gRng2, sFor, turn, gI, gI0, gLt, gLe, gGt, gGe, gAddI, gAddS, gAddT, gAddL, Sr.gSub, gMul, gMulI, gDiv, gMod, gPow, gNeg, gEq, gNe, dEq, eqS, gLen, gInt1, gMax2, gMin2, gAbs, gIx, gLtT, dInts, putD, gIsi, dKind, tInt, tOnly, List.map_cons, List.map_nil, List.length_cons, List.length_nil, List.cons_append, List.nil_append, List.getElem?_cons_zero, List.getElem?_cons_succ, List.set_cons_zero, List.set_cons_succ, List.replicate, Option.some_or, Option.none_or, Option.map_some, Option.map_none, Option.bind_some, Option.bind_none]
theorem s_chain (N : Int) (h0 : 1 ≤ N) (h1 : N ≤ 64) : f__law_chain .non [.int N] = .ok (encT (Tb.chT N.toNat)) .non := by
  have hr := rngI (N - 1) (by omega) (by omega)
  have q1 := mLc_map (m := mRng (mCons (m2 Sr.gSub (mN 0) (ret (.int 1))) mNil)) (w := gN 1) (t := t__law_chain_1) (el := e__law_chain_1) (vs := [1]) (e := [.val (.int N), .no]) (e1 := [.val (.int N), .no]) (xs := irng 0 (N - 1)) D.int (fun x => .tup [.str "D", .int (x + 1), .int 0]) (by
    simp [mRng, mCons, mNil, mN, m2, bnd, opt, Sr.ret, Sr.gSub, gI0, hr]) (by simp [irng]; omega) (fun x _ => ⟨_, _, _, rfl, rfl, e_chain x _, rfl⟩)
  rw [b_chain N _ _ q1 (by simp [irng]; omega)]
  congr 1
  unfold encT Tb.chT
  rw [List.map_append, List.map_map]
  have e1 : (irng 0 (N - 1)).map (fun x => D.tup [.str "D", .int (x + 1), .int 0]) = (List.range (N.toNat - 1)).map (encR ∘ fun i => (false, i + 1, 0)) := by
    unfold irng
    rw [List.map_map]
    have e : (N - 1 - 0).toNat = N.toNat - 1 := by omega
    rw [e]
    refine List.map_congr_left fun i _ => ?_
    simp only [Function.comp, encR, Int.zero_add, Int.natCast_add, Int.natCast_one]
    rfl
  have e2 : D.tup [.str "U", .int (N - 1), .int 0] = encR (true, N.toNat - 1, 0) := by
    unfold encR
    have : ((N.toNat - 1 : Nat) : Int) = N - 1 := by omega
    simp only [this]
    rfl
  rw [e1, e2]
  rfl
theorem a_int (i j : Int) : gAdd (.int i) (.int j) = some (.int (i + j)) := rfl
theorem ok_dr1 {i : Nat} {e : En} {o o' : D} {n r : Int} (h : e[i]? = some (.own o)) (q : f__law_draw o [.int n] = .ok (.int r) o') : mC1 f__law_draw i [] (mCons (ret (.int n)) mNil) e = .ok (.int r) (e.set i (.own o')) :=
  ok_f1 (F := f__law_draw) ⟨o, h⟩ (ok_c (d := .int n) rfl ok_n) h q
theorem rad_chain (n m : Nat) (h : 2 ≤ n) (hn : n ≤ 64) (hm : m ≤ 9) : ∃ u : Tb.Tab, u.length = n + m ∧ MadeF u (f_RuleU_raddU .non [ruleO (Tb.chT n), .int (m : Nat)]) := by
  have l := Tb.chT_len (n := n) (by omega)
  refine ⟨Tb.small (Tb.ign m (Tb.chT n)) 0, by rw [Tb.ic_small h]; omega, s_raddV (Tb.chT n) m (Tb.chT_ok (by omega)) (by omega) hm (by omega)⟩
theorem i_chain (n : Nat) (h : 1 ≤ n) (hn : n ≤ 64) : f_RuleU_initU (.obj "Rule" []) [encT (Tb.chT n)] = .ok .non (ruleO (Tb.chT n)) := by
  have l := Tb.chT_len (n := n) h
  have := s_rule (Tb.chT n) (Tb.chT_ok h) (by omega) (by omega)
  rwa [Tb.chT_small h] at this
theorem t_law2 (ns : List Int) (k : Int) (hk : 0 ≤ k) (j1 j2 j3 j4 j5 j6 j7 j8 j9 j10 : Sl) : ∃ k2 k3 k4 k5 k6 k7 k8 k9 k10, turn (gN 1) l_law_2 (.int k) [.val (.scr ns), j1, j2, j3, j4, j5, j6, j7, j8, j9, j10] = .ok .nx [.val (.scr ns), .val (.int k), k2, k3, k4, k5, k6, k7, k8, k9, k10] := by
  obtain ⟨c, c1⟩ := s_cell ns k hk
  obtain ⟨o, c2, ho⟩ := s_pen c
  obtain ⟨r1, o1, q1, a1, b1, v1⟩ := s_draw o 6 ho (by omega) (by omega)
  obtain ⟨t, o2, q2, l2, ok, v2⟩ := s_table o1 (1 + r1) v1 (by omega) (by omega)
  have ht : t.length = (1 + r1).toNat := l2
  have ru := s_rule t ok (by omega) (by omega)
  obtain ⟨d, o3, q3, hd, v3⟩ := s_odd o2 v2
  obtain ⟨r4, o4, q4, a4, b4, v4⟩ := s_draw o3 15 v3 (by omega) (by omega)
  obtain ⟨r5, o5, q5, a5, b5, v5⟩ := s_draw o4 10 v4 (by omega) (by omega)
  obtain ⟨r6, o6, q6, a6, b6, v6⟩ := s_draw o5 13 v5 (by omega) (by omega)
  obtain ⟨r7, o7, q7, a7, b7, v7⟩ := s_draw o6 13 v6 (by omega) (by omega)
  obtain ⟨r8, o8, q8, a8, b8, v8⟩ := s_draw o7 2 v7 (by omega) (by omega)
  have hp : 0 < t.length := by omega
  have so := Tb.small_ok ok hp
  have sl := Tb.small_le ok hp
  have fr := fld_rule (Tb.small t 0)
  have sa := same_of _ (rprB _ (rpr_tab (Tb.small t 0) so (by omega)))
  obtain ⟨n4, hn4⟩ : ∃ n : Nat, (n : Int) = 50 + r4 := ⟨(50 + r4).toNat, by omega⟩
  obtain ⟨n5, hn5⟩ : ∃ n : Nat, (n : Int) = r5 := ⟨r5.toNat, by omega⟩
  obtain ⟨n6, hn6⟩ : ∃ n : Nat, (n : Int) = 1 + r6 := ⟨(1 + r6).toNat, by omega⟩
  obtain ⟨n7, hn7⟩ : ∃ n : Nat, (n : Int) = 1 + r7 := ⟨(1 + r7).toNat, by omega⟩
  have sc := s_chain (50 + r4) (by omega) (by omega)
  have e4 : (50 + r4).toNat = n4 := by omega
  rw [e4] at sc
  have ic := i_chain n4 (by omega) (by omega)
  obtain ⟨u, ul, hu⟩ := rad_chain n4 n5 (by omega) (by omega) (by omega)
  have ow := s_owed (n4 + n5)
  have sw := same_of _ (rpr_owed (n4 + n5) (by omega))
  have lc := lenO_rule (Tb.chT n4) (by rw [Tb.chT_len (by omega)]; omega)
  rw [Tb.chT_len (by omega)] at lc
  have R1 := s_rings n6 n7 (by omega) (by omega) (by omega) (by omega)
  rw [hn6, hn7] at R1
  have R2 : f__law_are_rings_right .non [.int 14, .int (10 + 2 * r8)] = .ok (.bl true) .non := by
    have : r8 = 0 ∨ r8 = 1 := by omega
    rcases this with rfl | rfl
    · exact s_rings 14 10 (by omega) (by omega) (by omega) (by omega)
    · exact s_rings 14 12 (by omega) (by omega) (by omega) (by omega)
  have m8 : gMul (.int 2) (.int r8) = some (.int (2 * r8)) := by
    have : cMul 2 r8 = true := cmul_r (by omega) (by omega)
    simp [gMul, gMulI, gI, this]
  have pr : isPr "Rule" (.int r5) (ruleO (Tb.chT n4)) = some () := rfl
  rw [hn5] at hu
  have s1 : sSetO 2 (mC0 f__law_pen [] (mCons (mC0 f__law_cell_at [] (mCons (mN 0) (mCons (mN 1) mNil))) mNil)) [.val (.scr ns), .val (.int k), j2, j3, j4, j5, j6, j7, j8, j9, j10] = .ok .nx [.val (.scr ns), .val (.int k), .own o, j3, j4, j5, j6, j7, j8, j9, j10] :=
    ok_so (i := 2) (ok_f (ok_c (ok_f (ok_c (d := .scr ns) rfl (ok_c (d := .int k) rfl ok_n)) c1) ok_n) c2)
  have s2 : sSet 3 (mMk "Rule" f_RuleU_initU (fun ds es => ds) (mCons (mC1 f__law_table 2 [] (mCons (m2 gAdd (ret (.int 1)) (mC1 f__law_draw 2 [] (mCons (ret (.int 6)) mNil))) mNil)) mNil) mNil) [.val (.scr ns), .val (.int k), .own o, j3, j4, j5, j6, j7, j8, j9, j10] = .ok .nx [.val (.scr ns), .val (.int k), .own o2, .val (ruleO (Tb.small t 0)), j4, j5, j6, j7, j8, j9, j10] :=
    ok_s2 (e1 := [.val (.scr ns), .val (.int k), .own o2, j3, j4, j5, j6, j7, j8, j9, j10]) (ok_mk (ok_f1 (F := f__law_table) (i := 2) (e1 := [.val (.scr ns), .val (.int k), .own o1, j3, j4, j5, j6, j7, j8, j9, j10]) ⟨o, rfl⟩ (ok_c (ok_2 (a := .int 1) (b := .int r1) rfl (ok_dr1 (o := o) rfl q1) (a_int _ _)) ok_n) rfl q2) ru) rfl
  obtain ⟨k5, k6, k7, F⟩ := f_bad (Tb.small t 0) (.val (.scr ns)) (.val (.int k)) (.own o3) (.val (encT (Tb.small t 0))) j8 j9 j10 (d :: restL) j5 j6 j7 (fun x hx => by
    rw [List.mem_cons] at hx
    rcases hx with rfl | hx
    · exact .inl hd
    · exact .inr hx)
  have S5 : ∀ e : En, e[3]? = some (.val (ruleO (Tb.small t 0))) → _ := said_add (Tb.small t 0)
  generalize ruleO (Tb.small t 0) = R at *
  generalize ruleO (Tb.chT n4) = C at *
  generalize encT (Tb.small t 0) = K0 at *
  generalize encT (Tb.chT n4) = CT at *
  have s3 : sSet 4 (m1 (gFld "Rule" "table") (mN 3)) [.val (.scr ns), .val (.int k), .own o2, .val R, j4, j5, j6, j7, j8, j9, j10] = .ok .nx [.val (.scr ns), .val (.int k), .own o2, .val R, .val K0, j5, j6, j7, j8, j9, j10] := ok_s (i := 4) (ok_1 (a := R) rfl fr)
  have y4 : mLst (mCons (mC1 f__law_odd 2 [] mNil) (mCons (m1 gNeg (ret (.int 1))) (mCons (ret (.int 10)) (mCons (ret (.bl true)) (mCons (ret .non) (mCons (ret (.str "1")) (mCons (mTup (mCons (ret (.int 1)) mNil)) (mCons (mLst (mCons (ret (.int 1)) mNil)) (mCons (ret (.dk [])) (mCons (m2 gPow (ret (.int 10)) (ret (.int 11))) mNil)))))))))) [.val (.scr ns), .val (.int k), .own o2, .val R, .val K0, j5, j6, j7, j8, j9, j10] = .ok (.lst (d :: restL)) [.val (.scr ns), .val (.int k), .own o3, .val R, .val K0, j5, j6, j7, j8, j9, j10] :=
    ok_l (ok_c (e1 := [.val (.scr ns), .val (.int k), .own o3, .val R, .val K0, j5, j6, j7, j8, j9, j10]) (ok_f1 (F := f__law_odd) (i := 2) ⟨o2, rfl⟩ ok_n rfl q3) (by rfl)) (by simp [restL])
  have s4 : sFor (mItems (mLst (mCons (mC1 f__law_odd 2 [] mNil) (mCons (m1 gNeg (ret (.int 1))) (mCons (ret (.int 10)) (mCons (ret (.bl true)) (mCons (ret .non) (mCons (ret (.str "1")) (mCons (mTup (mCons (ret (.int 1)) mNil)) (mCons (mLst (mCons (ret (.int 1)) mNil)) (mCons (ret (.dk [])) (mCons (m2 gPow (ret (.int 10)) (ret (.int 11))) mNil)))))))))))) (gN 5) l_law_1 [.val (.scr ns), .val (.int k), .own o2, .val R, .val K0, j5, j6, j7, j8, j9, j10] = .ok .nx [.val (.scr ns), .val (.int k), .own o3, .val R, .val K0, k5, k6, k7, j8, j9, j10] :=
    ok_fr (ok_it (d := .lst (d :: restL)) y4 rfl) F
  have nn : gNe (.tup [.str "number"]) (.tup [.str "number"]) = some (.bl false) := by kernel_rfl
  have y5 : m2 gNe (mSaid ct_StatusError g__law_kindE (mBinO "Rule" f_RuleU_addU (mN 3) (mN 3))) (mTup (mCons (ret (.str "number")) mNil)) [.val (.scr ns), .val (.int k), .own o3, .val R, .val K0, k5, k6, k7, j8, j9, j10] = .ok (.bl false) [.val (.scr ns), .val (.int k), .own o3, .val R, .val K0, k5, k6, k7, j8, j9, j10] :=
    ok_2 (S5 _ rfl) (ok_t (ok_c (d := .str "number") rfl ok_n) (by simp)) nn
  have z5 : mC0 f__law_same [] (mCons (m1 (gFld "Rule" "table") (mN 3)) (mCons (mN 4) mNil)) [.val (.scr ns), .val (.int k), .own o3, .val R, .val K0, k5, k6, k7, j8, j9, j10] = .ok (.bl true) [.val (.scr ns), .val (.int k), .own o3, .val R, .val K0, k5, k6, k7, j8, j9, j10] :=
    ok_f (ok_c (ok_1 (a := R) rfl fr) (ok_c (d := K0) rfl ok_n)) sa
  have s5 := ok_ifF (a := sRet (ret (.bl false))) (ok_mo (ok_T y5) (ok_mn (ok_T z5))) ok_k
  have s6 : sAsg (mTup (mCons (m2 gAdd (ret (.int 50)) (mC1 f__law_draw 2 [] (mCons (ret (.int 15)) mNil))) (mCons (mC1 f__law_draw 2 [] (mCons (ret (.int 10)) mNil)) mNil))) (gT 2 (gsC (gN 8) (gsC (gN 9) gsN))) [.val (.scr ns), .val (.int k), .own o3, .val R, .val K0, k5, k6, k7, j8, j9, j10] = .ok .nx [.val (.scr ns), .val (.int k), .own o5, .val R, .val K0, k5, k6, k7, .val (.int (50 + r4)), .val (.int r5), j10] :=
    ok_as (e1 := [.val (.scr ns), .val (.int k), .own o5, .val R, .val K0, k5, k6, k7, j8, j9, j10]) (d := .tup [.int (50 + r4), .int r5]) (ok_t (ok_c (e1 := [.val (.scr ns), .val (.int k), .own o4, .val R, .val K0, k5, k6, k7, j8, j9, j10]) (ok_2 (a := .int 50) (b := .int r4) rfl (ok_dr1 (o := o3) rfl q4) (a_int _ _)) (ok_c (ok_dr1 (o := o4) rfl q5) ok_n)) (by simp)) rfl
  have s7 : sSet 10 (mMk "Rule" f_RuleU_initU (fun ds es => ds) (mCons (mC0 f__law_chain [] (mCons (mN 8) mNil)) mNil) mNil) [.val (.scr ns), .val (.int k), .own o5, .val R, .val K0, k5, k6, k7, .val (.int (50 + r4)), .val (.int r5), j10] = .ok .nx [.val (.scr ns), .val (.int k), .own o5, .val R, .val K0, k5, k6, k7, .val (.int (50 + r4)), .val (.int r5), .val C] :=
    ok_s2 (ok_mk (ok_f (ok_c (d := .int (50 + r4)) rfl ok_n) sc) ic) rfl
  have y8 : mTryL ct_TooLarge u__law_large_1 (mLenO "Rule" f_RuleU_lenU (mRadX "Rule" f_RuleU_raddU (mN 9) (mN 10))) [.val (.scr ns), .val (.int k), .own o5, .val R, .val K0, k5, k6, k7, .val (.int (50 + r4)), .val (.int r5), .val C] = .ok (owed u.length) [.val (.scr ns), .val (.int k), .own o5, .val R, .val K0, k5, k6, k7, .val (.int (50 + r4)), .val (.int r5), .val C] :=
    ok_large (ok_rad (ma := mN 9) (mb := mN 10) rfl rfl pr hu)
  rw [ul] at y8
  have ad : gAdd (.int (50 + r4)) (.int r5) = some (.int ((n4 + n5 : Nat) : Int)) := by
    rw [a_int, Int.natCast_add, hn4, hn5]
  have w8 : mC0 f__law_owed [] (mCons (m2 gAdd (mN 8) (mN 9)) mNil) [.val (.scr ns), .val (.int k), .own o5, .val R, .val K0, k5, k6, k7, .val (.int (50 + r4)), .val (.int r5), .val C] = .ok (owed (n4 + n5)) [.val (.scr ns), .val (.int k), .own o5, .val R, .val K0, k5, k6, k7, .val (.int (50 + r4)), .val (.int r5), .val C] :=
    ok_f (ok_c (ok_2 (a := .int (50 + r4)) (b := .int r5) rfl rfl ad) ok_n) ow
  have x8 : mLenO "Rule" f_RuleU_lenU (mN 10) [.val (.scr ns), .val (.int k), .own o5, .val R, .val K0, k5, k6, k7, .val (.int (50 + r4)), .val (.int r5), .val C] = .ok (.int (50 + r4)) [.val (.scr ns), .val (.int k), .own o5, .val R, .val K0, k5, k6, k7, .val (.int (50 + r4)), .val (.int r5), .val C] := by
    rw [← hn4]
    exact lc (mN 10) _ _ rfl
  have ne8 : gNe (.int (50 + r4)) (.int (50 + r4)) = some (.bl false) := by simp [gNe, dEq, eqS]
  have s8 := ok_ifF (a := sRet (ret (.bl false))) (ok_mo (ok_mn (ok_T (ok_f (ok_c y8 (ok_c w8 ok_n)) sw))) (ok_T (ok_2 x8 (mb := mN 8) (b := .int (50 + r4)) rfl ne8))) ok_k
  have y9 : mC0 f__law_are_rings_right [] (mCons (m2 gAdd (ret (.int 1)) (mC1 f__law_draw 2 [] (mCons (ret (.int 13)) mNil))) (mCons (m2 gAdd (ret (.int 1)) (mC1 f__law_draw 2 [] (mCons (ret (.int 13)) mNil))) mNil)) [.val (.scr ns), .val (.int k), .own o5, .val R, .val K0, k5, k6, k7, .val (.int (50 + r4)), .val (.int r5), .val C] = .ok (.bl true) [.val (.scr ns), .val (.int k), .own o7, .val R, .val K0, k5, k6, k7, .val (.int (50 + r4)), .val (.int r5), .val C] :=
    ok_f (ok_c (e1 := [.val (.scr ns), .val (.int k), .own o6, .val R, .val K0, k5, k6, k7, .val (.int (50 + r4)), .val (.int r5), .val C]) (ok_2 (a := .int 1) (b := .int r6) rfl (ok_dr1 (o := o5) rfl q6) (a_int _ _)) (ok_c (e1 := [.val (.scr ns), .val (.int k), .own o7, .val R, .val K0, k5, k6, k7, .val (.int (50 + r4)), .val (.int r5), .val C]) (ok_2 (a := .int 1) (b := .int r7) rfl (ok_dr1 (o := o6) rfl q7) (a_int _ _)) ok_n)) R1
  have s9 := ok_ifF (a := sRet (ret (.bl false))) (ok_mn (ok_T y9)) ok_k
  have y10 : mC0 f__law_are_rings_right [] (mCons (ret (.int 14)) (mCons (m2 gAdd (ret (.int 10)) (m2 gMul (ret (.int 2)) (mC1 f__law_draw 2 [] (mCons (ret (.int 2)) mNil)))) mNil)) [.val (.scr ns), .val (.int k), .own o7, .val R, .val K0, k5, k6, k7, .val (.int (50 + r4)), .val (.int r5), .val C] = .ok (.bl true) [.val (.scr ns), .val (.int k), .own o8, .val R, .val K0, k5, k6, k7, .val (.int (50 + r4)), .val (.int r5), .val C] :=
    ok_f (ok_c (d := .int 14) rfl (ok_c (e1 := [.val (.scr ns), .val (.int k), .own o8, .val R, .val K0, k5, k6, k7, .val (.int (50 + r4)), .val (.int r5), .val C]) (ok_2 (a := .int 10) (b := .int (2 * r8)) rfl (ok_2 (a := .int 2) (b := .int r8) rfl (ok_dr1 (o := o7) rfl q8) m8) (a_int _ _)) ok_n)) R2
  have s10 := ok_ifF (a := sRet (ret (.bl false))) (ok_mn (ok_T y10)) ok_k
  refine ⟨.own o8, .val R, .val K0, k5, k6, k7, .val (.int (50 + r4)), .val (.int r5), .val C, ok_tn (e1 := [.val (.scr ns), .val (.int k), j2, j3, j4, j5, j6, j7, j8, j9, j10]) rfl ?_⟩
  unfold l_law_2
  exact ok_sq s1 (ok_sq s2 (ok_sq s3 (ok_sq s4 (ok_sq s5 (ok_sq s6 (ok_sq s7 (ok_sq s8 (ok_sq s9 s10))))))))
theorem f_law2 (ns : List Int) : ∀ (ks : List Int) (e1 e2 e3 e4 e5 e6 e7 e8 e9 e10 : Sl), (∀ k ∈ ks, 0 ≤ k) → ∃ k1 k2 k3 k4 k5 k6 k7 k8 k9 k10, forL (gN 1) l_law_2 (ks.map D.int) [.val (.scr ns), e1, e2, e3, e4, e5, e6, e7, e8, e9, e10] = .ok .nx [.val (.scr ns), k1, k2, k3, k4, k5, k6, k7, k8, k9, k10]
  | [], e1, e2, e3, e4, e5, e6, e7, e8, e9, e10, _ => ⟨e1, e2, e3, e4, e5, e6, e7, e8, e9, e10, rfl⟩
  | k :: ks, e1, e2, e3, e4, e5, e6, e7, e8, e9, e10, h => by
    obtain ⟨k2, k3, k4, k5, k6, k7, k8, k9, k10, t⟩ := t_law2 ns k (h k (by simp)) e1 e2 e3 e4 e5 e6 e7 e8 e9 e10
    obtain ⟨q1, q2, q3, q4, q5, q6, q7, q8, q9, q10, ih⟩ := f_law2 ns ks (.val (.int k)) k2 k3 k4 k5 k6 k7 k8 k9 k10 (fun j hj => h j (List.mem_cons_of_mem _ hj))
    exact ⟨q1, q2, q3, q4, q5, q6, q7, q8, q9, q10, by rw [List.map_cons, forL_cons_nx t]; exact ih⟩
theorem rng_m (n : Nat) (hn : n ≤ 63) (c : Int) (hc : 0 ≤ c) (hc2 : c ≤ 63) : ∃ x m, gMin2 [.int ((n : Nat) : Int), .int c] = some (.int x) ∧ gMax2 [.int 1, .int x] = some (.int m) ∧ gRng [.int m] = some ((irng 0 m).map D.int) := by
  refine ⟨_, _, rfl, rfl, ?_⟩
  have h0 : okR (if (if c < ((n : Nat) : Int) then c else ((n : Nat) : Int)) > (1 : Int) then (if c < ((n : Nat) : Int) then c else ((n : Nat) : Int)) else 1) = true := by
    unfold okR
    split <;> (try split) <;> simp <;> omega
  simp only [gRng, h0, if_true, rngL_eq]
theorem law_holds (ns : List Int) (hl : ns.length ≤ 63) : f_law .non [.scr ns] = .ok (.bl true) .non := by
  have gl : gLen (.scr ns) = some (.int ((ns.length : Nat) : Int)) := by simp [gLen]
  obtain ⟨x, m, h1, h2, h3⟩ := rng_m ns.length hl 3 (by omega) (by omega)
  obtain ⟨k1, k2, k3, k4, k5, k6, k7, k8, k9, k10, hf⟩ := f_law2 ns (irng 0 m) .no .no .no .no .no .no .no .no .no .no (fun k hk => (irng_mem hk).1)
  have s1 : sFor (mRng (mCons (mCal gMax2 (mCons (ret (.int 1)) (mCons (mCal gMin2 (mCons (m1 gLen (mN 0)) (mCons (ret (.int 3)) mNil))) mNil))) mNil)) (gN 1) l_law_2 [.val (.scr ns), .no, .no, .no, .no, .no, .no, .no, .no, .no, .no] = .ok .nx [.val (.scr ns), k1, k2, k3, k4, k5, k6, k7, k8, k9, k10] :=
    ok_fr (ok_r1 (ok_c (ok_cl (ok_c (d := .int 1) rfl (ok_c (ok_cl (ok_c (ok_1 (a := .scr ns) rfl gl) (ok_c (d := .int 3) rfl ok_n)) h1) ok_n)) h2) ok_n) h3) hf
  exact ok_fn (nl := 11) (b := b_law) (ds := [.scr ns]) (ok_sq s1 (ok_rt (d := .bl true) rfl))
end Lw
open PySem PySem.W PySem.Calls PyProof.Rows
theorem PySem.Challenge.cw_statusrules_k12_operators_refuse_holds : PySem.Challenge.rw_statusrules_k12_operators_refuse.Holds := by
  w_on; o_law
  refine HandSHeadRun.head_any (r := OpenLaw.row PySem.Challenge.rw_statusrules_k12_operators_refuse) (q := view (OpenLaw.row PySem.Challenge.rw_statusrules_k12_operators_refuse).prog [71]) (H := Lw.hk) (ob := Lw.ob) (M := 20000) (loose := Lw.lo) (d := HandSHeadRun.topDef (OpenLaw.row PySem.Challenge.rw_statusrules_k12_operators_refuse).prog 71) (kwd := []) Lw.ob_eq
    (by kernel_rfl) (fun s => by kernel_rfl) Lw.run (by kernel_rfl) (by kernel_rfl) (by kernel_rfl) (by rfl) (by first | assumption | decide +kernel) (by decide +kernel) ⟨rfl, rfl, rfl, rfl, rfl, by decide +kernel⟩ ?hw ?hc
  case hw => w_witness2
  case hc =>
    refine Sr.walk_gT (l := PySem.Challenge.rw_statusrules_k12_operators_refuse) (n := 63) (k := 12) (x := "_law_script") rfl (by decide) (by kernel_rfl) ⟨rfl, by decide, by decide⟩ ?F
    intro w mg fa h Y G hm0
    obtain ⟨K, KX, c, t⟩ := Y
    letI : Sr.TabL := ⟨Sr.tlZ K Lw.tf, (PySem.Challenge.rw_statusrules_k12_operators_refuse).prog, w⟩
    have hm : mg ("law" : PySem.Str) = some (.ref fa) := by
      have e : (HandSHeadRun.topDef (OpenLaw.row PySem.Challenge.rw_statusrules_k12_operators_refuse).prog 71).name = ("law" : PySem.Str) := by kernel_rfl
      rw [← e]
      exact hm0
    obtain ⟨fd, hb, hF⟩ := Lw.all_mk (P := (PySem.Challenge.rw_statusrules_k12_operators_refuse).prog) (w := w) KX G hm c ⟨rfl, rfl⟩ t rfl
    refine ⟨K, Lw.tf, fd, _, KX, t, hb, fun H a ns hl hO hS => ?_, hF⟩
    exact Sr.law_trueT (Lw.law_holds ns hl) rfl hO hS
