import PyProof.Rows.All
import Wide.All
import OpenK.AllK
import Wide.FinOn
import HandS.ForMost
import HandS.ForExc
import HandS.Lambda
import HandS.ExcInit
import KE.KDictCopyH
import HandS.TupAny
import HandS.TupMul
import HandS.TupLe
import HandS.IsInst
import HandS.CallSlots
import HandS.Walk
import HandS.Deep
import KE.LtData
import HandS.Conv
import HandS.Sort
import KE.DataMinMax
import KE.SortData
import KE.GoesEnum
import KE.KRevSl
import HandS.Star
import HandS.Style
import HandS.Iter
import KE.GoesEnumKw
import HandS.Zip
import HandS.DictComp
import HandS.ExcField
import HandS.CallLocal
import HandS.EndTab
import HandS.Defaults
import KE.KNestM
import PySem.Challenge.RW_layerstand_k24_whole_swaps
section
set_option Elab.async false
set_option linter.all false
set_option maxRecDepth 100000
set_option maxHeartbeats 4000000
/-! FX: a functional layer over the hand layer. Trees of data, environments of slots, results; what it means that an expression, a statement, a def runs as a plain function says. -/
namespace FX
open PySem PySem.Spec PyProof.Rows L2

/-- {None: v} stands at a -/
def ndA (v : V) (a : Addr) (h : Heap) : Prop := (a == sysModules) = false ∧ ∃ u, RelV v u ∧ ∀ (P : Program) (w : World), h.DictOf (leafKind P w) a [(Leaf.none, u)]
/-- data, without the heap -/
inductive T where
  | non | bl (b : Bool) | int (i : Int) | str (x : Str) | tup (ts : List T) | lst (ts : List T) | seq (ts : List T) | tsq (ts : List T)
  | dK (kvs : List (Key × T)) | dT (kvs : List (List Key × T)) | ins (c : Str) (fs : List (Str × T)) | fn (f : Str) | ty (n : String) | dN (t : T)

section
variable (K : PySem.W.Frag) (mg : Str → Option Value) (F : Hp)
mutual
/-- in the still heap F the value tells the tree -/
inductive Rep : V → T → Prop
  | non : Rep .non .non
  | bl (b : Bool) : Rep (.bl b) (.bl b)
  | int (i : Int) : Rep (.int i) (.int i)
  | str (x : Str) : Rep (.str x) (.str x)
  | tup {a : Addr} {vs : List V} {ts : List T} (h : F a = some (.tup vs)) (r : Reps vs ts) : Rep (.ref a) (.tup ts)
  | tsq {a : Addr} {vs : List V} {ts : List T} (h : SqT K F a vs) (r : Reps vs ts) : Rep (.ref a) (.tsq ts)
  | lst {a : Addr} {vs : List V} {ts : List T} (h : F a = some (.lst vs)) (r : Reps vs ts) : Rep (.ref a) (.lst ts)
  | seq {a : Addr} {vs : List V} {ts : List T} (h : SqL K F a vs) (r : Reps vs ts) : Rep (.ref a) (.seq ts)
  | dK {a : Addr} {kvs : List (Key × V)} {ts : List (Key × T)} (h : Rd F a (.dK kvs)) (r : RepK kvs ts) : Rep (.ref a) (.dK ts)
  | dT {a : Addr} {kvs : List (List Key × V)} {ts : List (List Key × T)} (h : Rd F a (.dT kvs)) (r : RepT kvs ts) : Rep (.ref a) (.dT ts)
  | ins {c : Str} {C a dx : Addr} {fs : List (Str × V)} {ts : List (Str × T)} (hc : mg c = some (.ref C)) (h : F a = some (.ins C dx fs)) (r : RepF fs ts) : Rep (.ref a) (.ins c ts)
  | fn {f : Str} {a : Addr} (h : mg f = some (.ref a)) : Rep (.ref a) (.fn f)
  | ty (n : String) : Rep (.ty n) (.ty n)
  | dN {a : Addr} {v : V} {t : T} (h : Rd F a (.ext (ndA v a))) (r : Rep v t) : Rep (.ref a) (.dN t)
inductive Reps : List V → List T → Prop
  | nil : Reps [] []
  | cons {v : V} {t : T} {vs : List V} {ts : List T} (h : Rep v t) (r : Reps vs ts) : Reps (v :: vs) (t :: ts)
inductive RepK : List (Key × V) → List (Key × T) → Prop
  | nil : RepK [] []
  | cons {k : Key} {v : V} {t : T} {vs : List (Key × V)} {ts : List (Key × T)} (h : Rep v t) (r : RepK vs ts) : RepK ((k, v) :: vs) ((k, t) :: ts)
inductive RepT : List (List Key × V) → List (List Key × T) → Prop
  | nil : RepT [] []
  | cons {k : List Key} {v : V} {t : T} {vs : List (List Key × V)} {ts : List (List Key × T)} (h : Rep v t) (r : RepT vs ts) : RepT ((k, v) :: vs) ((k, t) :: ts)
inductive RepF : List (Str × V) → List (Str × T) → Prop
  | nil : RepF [] []
  | cons {k : Str} {v : V} {t : T} {vs : List (Str × V)} {ts : List (Str × T)} (h : Rep v t) (r : RepF vs ts) : RepF ((k, v) :: vs) ((k, t) :: ts)
end
end

theorem sqT_mono {K : PySem.W.Frag} {H H' : Hp} {a : Addr} {xs : List V} (e : Same H H') (h : SqT K H a xs) : SqT K H' a xs := by
  rcases h with (h | ⟨o, h⟩) | h
  · exact .inl (.inl (e _ _ h))
  · exact .inl (.inr ⟨o, e _ _ h⟩)
  · exact .inr h

theorem rd_mono {H H' : Hp} {a : Addr} {u : HO} (e : Same H H') (h : Rd H a u) : Rd H' a u := h.elim (fun q => .inl (e _ _ q)) (fun ⟨o, q⟩ => .inr ⟨o, e _ _ q⟩)
section
variable {K : PySem.W.Frag} {mg : Str → Option Value} {F F' : Hp}
mutual
theorem Rep.mono (s : Same F F') : ∀ {v : V} {t : T}, Rep K mg F v t → Rep K mg F' v t
  | _, _, .non => .non
  | _, _, .bl b => .bl b
  | _, _, .int b => .int b
  | _, _, .str b => .str b
  | _, _, .tup h r => .tup (s _ _ h) (Reps.mono s r)
  | _, _, .tsq h r => .tsq (sqT_mono s h) (Reps.mono s r)
  | _, _, .lst h r => .lst (s _ _ h) (Reps.mono s r)
  | _, _, .seq h r => .seq (s.seq h) (Reps.mono s r)
  | _, _, .dK h r => .dK (rd_mono s h) (RepK.mono s r)
  | _, _, .dT h r => .dT (rd_mono s h) (RepT.mono s r)
  | _, _, .ins hc h r => .ins hc (s _ _ h) (RepF.mono s r)
  | _, _, .fn h => .fn h
  | _, _, .ty n => .ty n
  | _, _, .dN h r => .dN (rd_mono s h) (Rep.mono s r)
theorem Reps.mono (s : Same F F') : ∀ {v : List V} {t : List T}, Reps K mg F v t → Reps K mg F' v t
  | _, _, .nil => .nil
  | _, _, .cons h r => .cons (Rep.mono s h) (Reps.mono s r)
theorem RepK.mono (s : Same F F') : ∀ {v : List (Key × V)} {t : List (Key × T)}, RepK K mg F v t → RepK K mg F' v t
  | _, _, .nil => .nil
  | _, _, .cons h r => .cons (Rep.mono s h) (RepK.mono s r)
theorem RepT.mono (s : Same F F') : ∀ {v : List (List Key × V)} {t : List (List Key × T)}, RepT K mg F v t → RepT K mg F' v t
  | _, _, .nil => .nil
  | _, _, .cons h r => .cons (Rep.mono s h) (RepT.mono s r)
theorem RepF.mono (s : Same F F') : ∀ {v : List (Str × V)} {t : List (Str × T)}, RepF K mg F v t → RepF K mg F' v t
  | _, _, .nil => .nil
  | _, _, .cons h r => .cons (Rep.mono s h) (RepF.mono s r)
end
end

/-- a slot: unassigned; holding what never changes; holding an object that it alone knows (of the caller's k-th argument, or made here) -/
inductive Sl where
  | un | fz (t : T) | own (k : Option Nat) (t : T)
abbrev Env := List Sl
/-- an expression's value: still; new and known to nobody else; the object of a slot -/
inductive Vl where
  | fz (t : T) | own (t : T) | bor (i : Nat)
/-- an exception of an own class, its fields -/
structure Ex where
  cls : Str
  fs : List (Str × T)
inductive R (α : Type) where
  | ok (a : α) (ρ : FX.Env) | err (e : Ex) (ρ : FX.Env) | stuck
def R.bind {α β : Type} (r : R α) (f : α → FX.Env → R β) : R β := match r with
  | .ok a ρ => f a ρ
  | .err e ρ => .err e ρ
  | .stuck => .stuck
inductive O where
  | nx (ρ : FX.Env) | rt (v : Vl) (ρ : FX.Env) | bk (ρ : FX.Env) | ct (ρ : FX.Env) | er (e : Ex) (ρ : FX.Env) | stuck

/-- what a body knows of its surroundings: the addresses of the objects handed in to be changed; which addresses are new since the entry; code tables -/
structure Au where
  as : Nat → Addr
  new : Addr → Prop
  tb : List (Addr × Str)

/-- at a: an object that may be changed, its parts still -/
inductive OwnAt (K : PySem.W.Frag) (mg : Str → Option Value) (F H : Hp) (a : Addr) : T → Prop
  | lst {vs : List V} {ts : List T} (h : H a = some (.lst vs)) (r : Reps K mg F vs ts) : OwnAt K mg F H a (.lst ts)
  | dK {kvs : List (Key × V)} {ts : List (Key × T)} (h : H a = some (.dK kvs)) (r : RepK K mg F kvs ts) : OwnAt K mg F H a (.dK ts)
  | dT {kvs : List (List Key × V)} {ts : List (List Key × T)} (h : H a = some (.dT kvs)) (r : RepT K mg F kvs ts) : OwnAt K mg F H a (.dT ts)
  | ins {c : Str} {C dx : Addr} {fs : List (Str × V)} {ts : List (Str × T)} (hc : mg c = some (.ref C)) (h : H a = some (.ins C dx fs)) (r : RepF K mg F fs ts) : OwnAt K mg F H a (.ins c ts)
def OwnId (au : Au) (k : Option Nat) (a : Addr) : Prop := match k with
  | some j => a = au.as j
  | none => au.new a
/-- a is the object of a slot that owns it -/
def OwnA (ρ : FX.Env) (σ : L2.St) (a : Addr) : Prop := ∃ (i : Nat) (k : Option Nat) (t : T), ρ[i]? = some (.own k t) ∧ σ[i]? = some (some (.ref a))

structure SRel (K : PySem.W.Frag) (mg : Str → Option Value) (au : Au) (ρ : FX.Env) (σ : L2.St) (F H : Hp) : Prop where
  sub : Same F H
  nw : ∀ b, H b = none → au.new b
  tabs : LamX.Tabs au.tb H
  len : ρ.length = σ.length
  fz : ∀ {i : Nat} {t : T}, ρ[i]? = some (.fz t) → ∃ v, σ[i]? = some (some v) ∧ Rep K mg F v t
  ow : ∀ {i : Nat} {k : Option Nat} {t : T}, ρ[i]? = some (.own k t) → ∃ a, σ[i]? = some (some (.ref a)) ∧ F a = none ∧ OwnAt K mg F H a t ∧ OwnId au k a
  ds : ∀ {i j : Nat} {k k' : Option Nat} {t t' : T} {a : Addr}, ρ[i]? = some (.own k t) → ρ[j]? = some (.own k' t') → σ[i]? = some (some (.ref a)) → σ[j]? = some (some (.ref a)) → i = j
  nt : au.tb ≠ [] → ∀ b ps, F b ≠ some (.tbl ps)

/-- from (F, H) to (F', H') nothing is touched but the objects of A; A' are the owned ones behind -/
structure Xt (lam : Prop) (A : Addr → Prop) (F H : Hp) (A' : Addr → Prop) (F' H' : Hp) : Prop where
  ff : Same F F'
  hh : ∀ b o, H b = some o → (lam → ∀ ps, o ≠ .tbl ps) → ¬ A b → H' b = some o
  nn : ∀ b, H' b = none → H b = none
  fn : ∀ b, F' b ≠ none → F b ≠ none ∨ H b = none ∨ A b
  ow : ∀ b, A' b → A b ∨ H b = none
theorem Xt.refl (lam : Prop) (A : Addr → Prop) (F H : Hp) : Xt lam A F H A F H := ⟨.refl _, fun _ _ h _ _ => h, fun _ h => h, fun _ h => .inl h, fun _ h => .inl h⟩
theorem Xt.trans {lam : Prop} {A A1 A2 : Addr → Prop} {F H F1 H1 F2 H2 : Hp} (x : Xt lam A F H A1 F1 H1) (y : Xt lam A1 F1 H1 A2 F2 H2) : Xt lam A F H A2 F2 H2 where
  ff := x.ff.trans y.ff
  hh := fun b o h n na => by
    refine y.hh b o (x.hh b o h n na) n fun z => ?_
    rcases x.ow b z with q | q
    · exact na q
    · rw [h] at q; cases q
  nn := fun b h => x.nn b (y.nn b h)
  fn := fun b h => by
    rcases y.fn b h with q | q | q
    · exact x.fn b q
    · exact .inr (.inl (x.nn b q))
    · rcases x.ow b q with z | z
      · exact .inr (.inr z)
      · exact .inr (.inl z)
  ow := fun b h => by
    rcases y.ow b h with q | q
    · exact x.ow b q
    · exact .inr (x.nn b q)
theorem Xt.imp {lam : Prop} {A A1 A2 : Addr → Prop} {F H F1 H1 : Hp} (x : Xt lam A F H A1 F1 H1) (h : ∀ b, A2 b → A1 b) : Xt lam A F H A2 F1 H1 := ⟨x.ff, x.hh, x.nn, x.fn, fun b q => x.ow b (h b q)⟩

/-- the value x tells v; H0: the heap at the start -/
def VRel (K : PySem.W.Frag) (mg : Str → Option Value) (ρ : FX.Env) (σ : L2.St) (F H H0 : Hp) (x : V) : Vl → Prop
  | .fz t => Rep K mg F x t
  | .own t => ∃ p, x = .ref p ∧ F p = none ∧ OwnAt K mg F H p t ∧ H0 p = none ∧ ¬ OwnA ρ σ p
  | .bor i => ∃ k t, ρ[i]? = some (.own k t) ∧ σ[i]? = some (some x)
/-- an exception -/
def ExR (K : PySem.W.Frag) (mg : Str → Option Value) (F H : Hp) (e : Ex) (cls : Value) (d : Option Addr) : Prop :=
  ∃ (C dx : Addr) (fs : List (Str × V)), mg e.cls = some (.ref C) ∧ cls = .ref C ∧ d = some dx ∧ H dx = some (.xd fs) ∧ RepF K mg F fs e.fs

section
variable (X : Cx) (au : Au) (W : WX)
abbrev Xtn (ρ : FX.Env) (σ : L2.St) (F H : Hp) (ρ' : FX.Env) (σ' : L2.St) (F' H' : Hp) : Prop := Xt (au.tb ≠ []) (OwnA ρ σ) F H (OwnA ρ' σ') F' H'
/-- what an evaluation with the outcome r is to reach; general in the shape of the answer -/
def Post {α β : Type} (VR : FX.Env → L2.St → Hp → Hp → Hp → β → α → Prop) (ρ : FX.Env) (σ : L2.St) (F H : Hp) (r : R α) (Q : β → Hp → Prop) : Prop := match r with
  | .ok v ρ' => ∀ x F' H', SRel X.K X.mg au ρ' σ F' H' → Xtn au ρ σ F H ρ' σ F' H' → VR ρ' σ F' H' H x v → Q x H'
  | .err e ρ' => ∀ cls d F' H', SRel X.K X.mg au ρ' σ F' H' → Xtn au ρ σ F H ρ' σ F' H' → ExR X.K X.mg F' H' e cls d → W cls d σ H'
  | .stuck => False
def PostS (ρ : FX.Env) (σ : L2.St) (F H : Hp) (o : O) (D : Ends) : Prop := match o with
  | .nx ρ' => ∀ σ' F' H', SRel X.K X.mg au ρ' σ' F' H' → Xtn au ρ σ F H ρ' σ' F' H' → D.nx σ' H'
  | .rt v ρ' => ∀ x σ' F' H', SRel X.K X.mg au ρ' σ' F' H' → Xtn au ρ σ F H ρ' σ' F' H' → VRel X.K X.mg ρ' σ' F' H' H x v → D.rt x H'
  | .bk ρ' => ∀ σ' F' H', SRel X.K X.mg au ρ' σ' F' H' → Xtn au ρ σ F H ρ' σ' F' H' → D.bk σ' H'
  | .ct ρ' => ∀ σ' F' H', SRel X.K X.mg au ρ' σ' F' H' → Xtn au ρ σ F H ρ' σ' F' H' → D.ct σ' H'
  | .er e ρ' => ∀ cls d σ' F' H', SRel X.K X.mg au ρ' σ' F' H' → Xtn au ρ σ F H ρ' σ' F' H' → ExR X.K X.mg F' H' e cls d → W cls d σ' H'
  | .stuck => False
abbrev VE : FX.Env → L2.St → Hp → Hp → Hp → V → Vl → Prop := VRel X.K X.mg
abbrev VB : FX.Env → L2.St → Hp → Hp → Hp → Bool → Bool → Prop := fun _ _ _ _ _ b c => b = c
/-- values held while others are found: still, or of a slot -/
def VRels (K : PySem.W.Frag) (mg : Str → Option Value) (σ : L2.St) (F : Hp) : List V → List Vl → Prop
  | [], [] => True
  | x :: xs, v :: vs => (match v with | .fz t => Rep K mg F x t | .bor i => σ[i]? = some (some x) | .own _ => False) ∧ VRels K mg σ F xs vs
  | _, _ => False
abbrev VA : FX.Env → L2.St → Hp → Hp → Hp → List V → List Vl → Prop := fun _ σ F _ _ xs vs => VRels X.K X.mg σ F xs vs

def tF {α β : Type} (VR : FX.Env → L2.St → Hp → Hp → Hp → β → α → Prop) (f : FX.Env → R α) (σ : L2.St) (H : Hp) (Q : β → Hp → Prop) : Prop := ∃ F ρ, SRel X.K X.mg au ρ σ F H ∧ Post X au W VR ρ σ F H (f ρ) Q
def tS (g : FX.Env → O) : TS := fun D σ H => ∃ F ρ, SRel X.K X.mg au ρ σ F H ∧ PostS X au W ρ σ F H (g ρ) D

/-- the expression runs as f says -/
structure RE (e : Expr) (f : FX.Env → R Vl) : Prop where
  pe : PE X e (tF X au W (VE X) f)
structure RT (e : Expr) (f : FX.Env → R Bool) : Prop where
  pt : PT X e (tF X au W VB f)
structure RA (es : List Expr) (f : FX.Env → R (List Vl)) : Prop where
  pa : PA X es (tF X au W (VA X) f)
structure RS (st : Stmt) (g : FX.Env → O) : Prop where
  ps : PS X st (tS X au W g)
structure RSs (st : List Stmt) (g : FX.Env → O) : Prop where
  pss : PSs X st (tS X au W g)
end

section
variable {X : Cx} {au : Au} {W : WX}
theorem PE.imp {e : Expr} {t t' : TE} (h : PE X e t) (i : ∀ σ H Q, t' σ H Q → t σ H Q) : PE X e t' := ⟨fun pins s σ H Q I q => h.run pins s σ H Q I (i σ H Q q)⟩
theorem PT.imp {e : Expr} {t t' : TT} (h : PT X e t) (i : ∀ σ H Q, t' σ H Q → t σ H Q) : PT X e t' := ⟨fun pins s σ H Q I q => h.run pins s σ H Q I (i σ H Q q)⟩
theorem PA.imp {e : List Expr} {t t' : TA} (h : PA X e t) (i : ∀ σ H Q, t' σ H Q → t σ H Q) : PA X e t' := ⟨fun pos pins s σ H Q I q => h.run pos pins s σ H Q I (i σ H Q q)⟩
theorem PS.imp {e : Stmt} {t t' : TS} (h : PS X e t) (i : ∀ D σ H, t' D σ H → t D σ H) : PS X e t' := ⟨fun pins s σ H D I q => h.run pins s σ H D I (i D σ H q)⟩
theorem PSs.imp {e : List Stmt} {t t' : TS} (h : PSs X e t) (i : ∀ D σ H, t' D σ H → t D σ H) : PSs X e t' := ⟨fun pins s σ H D I q => h.run pins s σ H D I (i D σ H q)⟩

/-- what is said of an answer holds for an earlier start, too -/
def Early {β α : Type} (VR : FX.Env → L2.St → Hp → Hp → Hp → β → α → Prop) : Prop := ∀ ρ σ F H H0 H00 x v, (∀ b, H0 b = none → H00 b = none) → VR ρ σ F H H0 x v → VR ρ σ F H H00 x v
/-- one behind another -/
theorem Post.bind {α β γ δ : Type} {VR : FX.Env → L2.St → Hp → Hp → Hp → β → α → Prop} {VR' : FX.Env → L2.St → Hp → Hp → Hp → δ → γ → Prop}
    (mono : Early VR') {ρ : FX.Env} {σ : L2.St} {F H : Hp} {r : R α} {k : α → FX.Env → R γ} {Q : δ → Hp → Prop} {Q1 : β → Hp → Prop}
    (h : Post X au W VR' ρ σ F H (r.bind k) Q)
    (hk : ∀ x v ρ1 F1 H1, r = .ok v ρ1 → SRel X.K X.mg au ρ1 σ F1 H1 → Xtn au ρ σ F H ρ1 σ F1 H1 → VR ρ1 σ F1 H1 H x v → Post X au W VR' ρ1 σ F1 H1 (k v ρ1) Q → Q1 x H1) :
    Post X au W VR ρ σ F H r Q1 := by
  cases r with
  | stuck => exact h
  | err e ρ1 => exact h
  | ok v ρ1 =>
    intro x F1 H1 S1 X1 V1
    refine hk x v ρ1 F1 H1 rfl S1 X1 V1 ?_
    have h : Post X au W VR' ρ σ F H (k v ρ1) Q := h
    revert h
    cases k v ρ1 with
    | stuck => exact fun h => h
    | err e ρ2 => exact fun h cls d F2 H2 S2 X2 E2 => h cls d F2 H2 S2 (X1.trans X2) E2
    | ok w ρ2 => exact fun h y F2 H2 S2 X2 V2 => h y F2 H2 S2 (X1.trans X2) (mono _ _ _ _ _ _ _ _ (fun b => X1.nn b) V2)
theorem VRel.start {K : PySem.W.Frag} {mg : Str → Option Value} {ρ : FX.Env} {σ : L2.St} {F H H0 H00 : Hp} {x : V} {v : Vl} (s : ∀ b, H0 b = none → H00 b = none) (h : VRel K mg ρ σ F H H0 x v) : VRel K mg ρ σ F H H00 x v := by
  cases v with
  | fz t => exact h
  | own t => obtain ⟨p, e, a, b, c, d⟩ := h; exact ⟨p, e, a, b, s _ c, d⟩
  | bor i => exact h
theorem early_VE {X : Cx} : Early (VE X) := fun _ _ _ _ _ _ _ _ s h => VRel.start s h
theorem early_VB : Early VB := fun _ _ _ _ _ _ _ _ s h => h
theorem early_VA {X : Cx} : Early (VA X) := fun _ _ _ _ _ _ _ _ s h => h
theorem Post.mono {α β : Type} {VR : FX.Env → L2.St → Hp → Hp → Hp → β → α → Prop} {ρ : FX.Env} {σ : L2.St} {F H : Hp} {r : R α} {Q Q' : β → Hp → Prop} (h : Post X au W VR ρ σ F H r Q) (i : ∀ x H, Q x H → Q' x H) : Post X au W VR ρ σ F H r Q' := by
  cases r with
  | stuck => exact h
  | err e ρ1 => exact h
  | ok v ρ1 => exact fun x F1 H1 S X V => i _ _ (h x F1 H1 S X V)
end
end FX
end

section
set_option Elab.async false
set_option linter.all false
set_option maxRecDepth 100000
set_option maxHeartbeats 4000000
namespace FX
open PySem PySem.Spec PyProof.Rows L2

/-! ### looking at a value: itself in H, its parts in F -/
inductive RepO (K : PySem.W.Frag) (mg : Str → Option Value) (F H : Hp) : V → T → Prop
  | non : RepO K mg F H .non .non
  | bl (b : Bool) : RepO K mg F H (.bl b) (.bl b)
  | int (i : Int) : RepO K mg F H (.int i) (.int i)
  | str (x : Str) : RepO K mg F H (.str x) (.str x)
  | tup {a : Addr} {vs : List V} {ts : List T} (h : F a = some (.tup vs)) (r : Reps K mg F vs ts) : RepO K mg F H (.ref a) (.tup ts)
  | tsq {a : Addr} {vs : List V} {ts : List T} (h : SqT K F a vs) (r : Reps K mg F vs ts) : RepO K mg F H (.ref a) (.tsq ts)
  | lst {a : Addr} {vs : List V} {ts : List T} (h : H a = some (.lst vs)) (r : Reps K mg F vs ts) : RepO K mg F H (.ref a) (.lst ts)
  | seq {a : Addr} {vs : List V} {ts : List T} (h : SqL K H a vs) (r : Reps K mg F vs ts) : RepO K mg F H (.ref a) (.seq ts)
  | dK {a : Addr} {kvs : List (Key × V)} {ts : List (Key × T)} (h : Rd H a (.dK kvs)) (r : RepK K mg F kvs ts) : RepO K mg F H (.ref a) (.dK ts)
  | dT {a : Addr} {kvs : List (List Key × V)} {ts : List (List Key × T)} (h : Rd H a (.dT kvs)) (r : RepT K mg F kvs ts) : RepO K mg F H (.ref a) (.dT ts)
  | ins {c : Str} {C a dx : Addr} {fs : List (Str × V)} {ts : List (Str × T)} (hc : mg c = some (.ref C)) (h : H a = some (.ins C dx fs)) (r : RepF K mg F fs ts) : RepO K mg F H (.ref a) (.ins c ts)
  | fn {f : Str} {a : Addr} (h : mg f = some (.ref a)) : RepO K mg F H (.ref a) (.fn f)
  | ty (n : String) : RepO K mg F H (.ty n) (.ty n)
  | dN {a : Addr} {v : V} {t : T} (h : Rd F a (.ext (ndA v a))) (r : Rep K mg F v t) : RepO K mg F H (.ref a) (.dN t)

section
variable {K : PySem.W.Frag} {mg : Str → Option Value} {F F' H H' : Hp}
theorem Rep.o (s : Same F H) {v : V} {t : T} (h : Rep K mg F v t) : RepO K mg F H v t := by
  cases h with
  | non => exact .non
  | bl b => exact .bl b
  | int b => exact .int b
  | str b => exact .str b
  | tup h r => exact .tup h r
  | tsq h r => exact .tsq h r
  | lst h r => exact .lst (s _ _ h) r
  | seq h r => exact .seq (s.seq h) r
  | dK h r => exact .dK (rd_mono s h) r
  | dT h r => exact .dT (rd_mono s h) r
  | ins hc h r => exact .ins hc (s _ _ h) r
  | fn h => exact .fn h
  | ty n => exact .ty n
  | dN h r => exact .dN h r
theorem OwnAt.o {a : Addr} {t : T} (h : OwnAt K mg F H a t) : RepO K mg F H (.ref a) t := by
  cases h with
  | lst h r => exact .lst h r
  | dK h r => exact .dK (.inl h) r
  | dT h r => exact .dT (.inl h) r
  | ins hc h r => exact .ins hc h r
theorem RepO.rep (s : Same F H) {v : V} {t : T} (h : RepO K mg F H v t) : Rep K mg H v t := by
  cases h with
  | non => exact .non
  | bl b => exact .bl b
  | int b => exact .int b
  | str b => exact .str b
  | tup h r => exact .tup (s _ _ h) (Reps.mono s r)
  | tsq h r => exact .tsq (sqT_mono s h) (Reps.mono s r)
  | lst h r => exact .lst h (Reps.mono s r)
  | seq h r => exact .seq h (Reps.mono s r)
  | dK h r => exact .dK h (RepK.mono s r)
  | dT h r => exact .dT h (RepT.mono s r)
  | ins hc h r => exact .ins hc h (RepF.mono s r)
  | fn h => exact .fn h
  | ty n => exact .ty n
  | dN h r => exact .dN (rd_mono s h) (r.mono s)
theorem OwnAt.mono {a : Addr} {t : T} (s : Same F F') (e : ∀ o, H a = some o → (∀ ps, o ≠ .tbl ps) → H' a = some o) (h : OwnAt K mg F H a t) : OwnAt K mg F' H' a t := by
  cases h with
  | lst h r => exact .lst (e _ h (fun ps z => by cases z)) (Reps.mono s r)
  | dK h r => exact .dK (e _ h (fun ps z => by cases z)) (RepK.mono s r)
  | dT h r => exact .dT (e _ h (fun ps z => by cases z)) (RepT.mono s r)
  | ins hc h r => exact .ins hc (e _ h (fun ps z => by cases z)) (RepF.mono s r)
theorem OwnAt.there {a : Addr} {t : T} (h : OwnAt K mg F H a t) : ∃ o, H a = some o ∧ (∀ ps, o ≠ .tbl ps) ∧ ∀ F', Same F F' → F' a = some o → Rep K mg F' (.ref a) t := by
  cases h with
  | lst h r => exact ⟨_, h, (fun ps z => by cases z), fun F' s e => .lst e (Reps.mono s r)⟩
  | dK h r => exact ⟨_, h, (fun ps z => by cases z), fun F' s e => .dK (.inl e) (RepK.mono s r)⟩
  | dT h r => exact ⟨_, h, (fun ps z => by cases z), fun F' s e => .dT (.inl e) (RepT.mono s r)⟩
  | ins hc h r => exact ⟨_, h, (fun ps z => by cases z), fun F' s e => .ins hc e (RepF.mono s r)⟩
end

theorem same_upd {F : Hp} {a : Addr} {o : HO} (h : F a = none) : Same F (upd F a o) := fun b u e => by rw [upd_ne (ne_of_none e h)]; exact e
theorem same_upd2 {F H : Hp} {a : Addr} {o : HO} (s : Same F H) (h : H a = some o) : Same (upd F a o) H := fun b u e => by
  by_cases hb : b = a
  · subst hb; rw [upd_same] at e; cases e; exact h
  · rw [upd_ne hb] at e; exact s _ _ e

/-! ### freezing -/
section
variable {K : PySem.W.Frag} {mg : Str → Option Value} {au : Au} {ρ : FX.Env} {σ : L2.St} {F F' H H' : Hp}
theorem set_get {α : Type} {l : List α} {i j : Nat} {x y : α} (h : (l.set i x)[j]? = some y) : (j = i ∧ y = x) ∨ (j ≠ i ∧ l[j]? = some y) := by
  by_cases e : i = j
  · subst e
    by_cases hl : i < l.length
    · rw [List.getElem?_set_self hl] at h; exact .inl ⟨rfl, (Option.some.inj h).symm⟩
    · rw [List.getElem?_eq_none (by simpa using hl)] at h; cases h
  · rw [List.getElem?_set_ne e] at h; exact .inr ⟨fun q => e q.symm, h⟩
/-- only F grows -/
theorem SRel.grow (S : SRel K mg au ρ σ F H) (s : Same F F') (s' : Same F' H) (no : ∀ a, OwnA ρ σ a → F' a = none) (nt : au.tb ≠ [] → ∀ b ps, F' b ≠ some (.tbl ps)) : SRel K mg au ρ σ F' H where
  nt := nt
  sub := s'
  nw := S.nw
  tabs := S.tabs
  len := S.len
  fz := fun h => by obtain ⟨v, a, b⟩ := S.fz h; exact ⟨v, a, b.mono s⟩
  ow := fun {i k t} h => by
    obtain ⟨a, e, n, o, d⟩ := S.ow h
    exact ⟨a, e, no a ⟨i, k, t, h, e⟩, o.mono s fun _ h _ => h, d⟩
  ds := S.ds
theorem nt_upd {F : Hp} {a : Addr} {o : HO} {p : Prop} (h : p → ∀ b ps, F b ≠ some (.tbl ps)) (n : ∀ ps, o ≠ .tbl ps) : p → ∀ b ps, upd F a o b ≠ some (.tbl ps) := fun q b ps e => by
  by_cases z : b = a
  · subst z; rw [upd_same] at e; exact n ps (Option.some.inj e)
  · rw [upd_ne z] at e; exact h q b ps e
theorem SRel.thaw_set {i : Nat} {k : Option Nat} {t : T} (S : SRel K mg au ρ σ F H) (h : ρ[i]? = some (.own k t)) :
    ∃ (a : Addr) (o : HO), σ[i]? = some (some (.ref a)) ∧ SRel K mg au (ρ.set i (.fz t)) σ (upd F a o) H ∧ Xt (au.tb ≠ []) (OwnA ρ σ) F H (OwnA (ρ.set i (.fz t)) σ) (upd F a o) H ∧ Rep K mg (upd F a o) (.ref a) t := by
  obtain ⟨a, e, n, ow, d⟩ := S.ow h
  obtain ⟨o, ho, nt, rp⟩ := ow.there
  have s1 : Same F (upd F a o) := same_upd n
  have s2 : Same (upd F a o) H := same_upd2 S.sub ho
  have rp' := rp _ s1 upd_same
  have own' : ∀ b, OwnA (ρ.set i (.fz t)) σ b → OwnA ρ σ b ∧ b ≠ a := fun b ⟨j, k', t', hj, ej⟩ => by
    rcases set_get hj with ⟨_, z⟩ | ⟨ne, hj⟩
    · cases z
    · exact ⟨⟨j, k', t', hj, ej⟩, fun q => ne (S.ds hj h (by rw [ej, q]) e)⟩
  refine ⟨a, o, e, ⟨s2, S.nw, S.tabs, by rw [List.length_set]; exact S.len, fun {j t'} hj => ?_, fun {j k' t'} hj => ?_, fun {j j' k1 k2 t1 t2 b} h1 h2 e1 e2 => ?_, nt_upd S.nt nt⟩, ⟨s1, fun _ _ h _ _ => h, fun _ h => h, fun b hb => ?_, fun b hb => .inl (own' b hb).1⟩, rp'⟩
  · rcases set_get hj with ⟨q, z⟩ | ⟨ne, hj⟩
    · cases z; exact ⟨_, by rw [q]; exact e, rp'⟩
    · obtain ⟨v, a1, b1⟩ := S.fz hj; exact ⟨v, a1, b1.mono s1⟩
  · rcases set_get hj with ⟨_, z⟩ | ⟨ne, hj⟩
    · cases z
    · obtain ⟨b, eb, nb, ob, db⟩ := S.ow hj
      exact ⟨b, eb, by rw [upd_ne (fun q => ne (S.ds hj h (by rw [eb, q]) e))]; exact nb, ob.mono s1 fun _ h _ => h, db⟩
  · rcases set_get h1 with ⟨_, z⟩ | ⟨_, h1⟩
    · cases z
    · rcases set_get h2 with ⟨_, z⟩ | ⟨_, h2⟩
      · cases z
      · exact S.ds h1 h2 e1 e2
  · by_cases q : b = a
    · subst q; exact .inr (.inr ⟨i, k, t, h, e⟩)
    · rw [upd_ne q] at hb; exact .inl hb
end

def Vl.norm : Vl → Vl
  | .own t => .fz t
  | v => v
def R.map {α β : Type} (f : α → β) (r : R α) : R β := match r with
  | .ok a ρ => .ok (f a) ρ
  | .err e ρ => .err e ρ
  | .stuck => .stuck
def R.norm (r : R Vl) : R Vl := r.map Vl.norm
def look (ρ : FX.Env) : Vl → Option T
  | .fz t => some t
  | .own t => some t
  | .bor i => match ρ[i]? with
    | some (.own _ t) => some t
    | some (.fz t) => some t
    | _ => none
/-- an operation's value -/
inductive Nv where
  | fz (t : T) | own (t : T)
def R.of (o : Option Nv) (ρ : FX.Env) : R Vl := match o with
  | some (.fz t) => .ok (.fz t) ρ
  | some (.own t) => .ok (.own t) ρ
  | none => .stuck
/-- held while other things are found -/
def Held (K : PySem.W.Frag) (mg : Str → Option Value) (σ : L2.St) (F : Hp) (x : V) (v : Vl) : Prop := match v with | .fz t => Rep K mg F x t | .bor i => σ[i]? = some (some x) | .own _ => False
theorem VRels.cons {K : PySem.W.Frag} {mg : Str → Option Value} {σ : L2.St} {F : Hp} {x : V} {v : Vl} {xs : List V} {vs : List Vl} (h : Held K mg σ F x v) (r : VRels K mg σ F xs vs) : VRels K mg σ F (x :: xs) (v :: vs) := ⟨h, r⟩
theorem VRels.nil {K : PySem.W.Frag} {mg : Str → Option Value} {σ : L2.St} {F : Hp} : VRels K mg σ F [] [] := trivial

section
variable {X : Cx} {au : Au} {W : WX} {ρ : FX.Env} {σ : L2.St} {F F' H H' H0 : Hp}
theorem Held.mono {x : V} {v : Vl} (s : Same F F') (h : Held X.K X.mg σ F x v) : Held X.K X.mg σ F' x v := by
  cases v with
  | fz t => exact Rep.mono s h
  | own t => exact h
  | bor i => exact h
theorem VRels.mono (s : Same F F') : ∀ {xs : List V} {vs : List Vl}, VRels X.K X.mg σ F xs vs → VRels X.K X.mg σ F' xs vs
  | [], [], _ => trivial
  | _ :: _, _ :: _, h => ⟨Held.mono (X := X) (v := _) s h.1, VRels.mono s h.2⟩
  | [], _ :: _, h => h.elim
  | _ :: _, [], h => h.elim
theorem look_o (S : SRel X.K X.mg au ρ σ F H) {x : V} {v : Vl} {t : T} (h : Held X.K X.mg σ F x v) (e : look ρ v = some t) : RepO X.K X.mg F H x t := by
  cases v with
  | fz u => cases e; exact Rep.o S.sub h
  | own u => exact h.elim
  | bor i =>
    have h : σ[i]? = some (some x) := h
    simp only [look] at e
    split at e
    · rename_i k u hu
      cases e
      obtain ⟨a, ea, _, o, _⟩ := S.ow hu
      rw [h] at ea; cases ea
      exact o.o
    · rename_i u hu
      cases e
      obtain ⟨v, ea, r⟩ := S.fz hu
      rw [h] at ea; cases ea
      exact Rep.o S.sub r
    · cases e
/-- a temporary is stilled -/
theorem norm_post {r : R Vl} {Q : VK} (h : Post X au W (VE X) ρ σ F H r.norm Q) : Post X au W (VE X) ρ σ F H r Q := by
  cases r with
  | stuck => exact h
  | err e ρ1 => exact h
  | ok v ρ1 =>
    cases v with
    | fz t => exact h
    | bor i => exact h
    | own t =>
      intro x F1 H1 S1 X1 V1
      obtain ⟨p, e, n, ow, n0, no⟩ := V1
      obtain ⟨o, ho, nt, rp⟩ := ow.there
      have s1 : Same F1 (upd F1 p o) := same_upd n
      have own : ∀ b, OwnA ρ1 σ b → b ≠ p := fun b hb q => no (by rw [← q]; exact hb)
      refine h x (upd F1 p o) H1 (S1.grow s1 (same_upd2 S1.sub ho) (fun a ha => ?_) (nt_upd S1.nt nt)) ⟨X1.ff.trans s1, X1.hh, X1.nn, fun b hb => ?_, X1.ow⟩ ?_
      · rw [upd_ne (own a ha)]
        obtain ⟨i, k, t', hi, ei⟩ := ha
        obtain ⟨a', ea, na, _⟩ := S1.ow hi
        rw [ei] at ea; cases ea
        exact na
      · by_cases q : b = p
        · subst q; exact .inr (.inl n0)
        · rw [upd_ne q] at hb; exact X1.fn b hb
      · rw [e]; exact rp _ s1 upd_same
theorem norm_held {r : R Vl} {x : V} {v : Vl} (hr : ∃ ρ', r.norm = .ok v ρ') (h : VRel X.K X.mg ρ σ F H H0 x v) : Held X.K X.mg σ F x v := by
  obtain ⟨ρ', hr⟩ := hr
  cases r with
  | stuck => cases hr
  | err e ρ1 => cases hr
  | ok w ρ1 =>
    cases w with
    | fz t => cases hr; exact h
    | own t => cases hr; exact h
    | bor i => cases hr; exact h.elim fun k h => h.elim fun t h => h.2
theorem RE.norm {e : Expr} {f : FX.Env → R Vl} (h : RE X au W e f) : RE X au W e fun ρ => (f ρ).norm := ⟨PE.imp h.pe fun σ H Q ⟨F, ρ, S, q⟩ => ⟨F, ρ, S, norm_post q⟩⟩
/-- found, then stilled; then the rest -/
theorem Post.bindN {γ δ : Type} {VR' : FX.Env → L2.St → Hp → Hp → Hp → δ → γ → Prop}
    (mono : Early VR') {r : R Vl} {k : Vl → FX.Env → R γ} {Q : δ → Hp → Prop} {Q1 : V → Hp → Prop}
    (h : Post X au W VR' ρ σ F H (r.norm.bind k) Q)
    (hk : ∀ x v ρ1 F1 H1, SRel X.K X.mg au ρ1 σ F1 H1 → Xtn au ρ σ F H ρ1 σ F1 H1 → Held X.K X.mg σ F1 x v → Post X au W VR' ρ1 σ F1 H1 (k v ρ1) Q → Q1 x H1) : Post X au W (VE X) ρ σ F H r Q1 :=
  norm_post (Post.bind mono h fun x v ρ1 F1 H1 e S X1 V q => hk x v ρ1 F1 H1 S X1 (norm_held ⟨_, e⟩ V) q)

/-- what an operation gives: a still value, or a new object -/
def ResP (K : PySem.W.Frag) (mg : Str → Option Value) (F H : Hp) (r : Option Nv) (Q : VK) : Prop := match r with
  | some (.fz w) => ∀ z F' H', Same F F' → Same H H' → Same F' H' → (∀ b, F' b ≠ none → F b ≠ none ∨ H b = none) → Rep K mg F' z w → Q z H'
  | some (.own w) => ∀ p F' H', Same F F' → Same H H' → Same F' H' → (∀ b, F' b ≠ none → F b ≠ none ∨ H b = none) → H p = none → F' p = none → OwnAt K mg F' H' p w → Q (.ref p) H'
  | none => False
theorem same_none {H H' : Hp} (s : Same H H') : ∀ b, H' b = none → H b = none := fun b h => s.free h
theorem tabs_same {T : List (Addr × Str)} {H H' : Hp} (s : Same H H') (t : LamX.Tabs T H) : LamX.Tabs T H' := t.ext s
/-- new objects alone -/
theorem SRel.new (S : SRel X.K X.mg au ρ σ F H) (s : Same F F') (s2 : Same H H') (s3 : Same F' H') (nw : ∀ b, F' b ≠ none → F b ≠ none ∨ H b = none) (nt : au.tb ≠ [] → ∀ b ps, F' b ≠ some (.tbl ps)) : SRel X.K X.mg au ρ σ F' H' where
  nt := nt
  sub := s3
  nw := fun b h => S.nw b (same_none s2 b h)
  tabs := tabs_same s2 S.tabs
  len := S.len
  fz := fun h => by obtain ⟨v, a, b⟩ := S.fz h; exact ⟨v, a, b.mono s⟩
  ow := fun h => by
    obtain ⟨a, e, n, o, d⟩ := S.ow h
    refine ⟨a, e, ?_, o.mono s fun _ h _ => s2 _ _ h, d⟩
    obtain ⟨o', ho, _⟩ := o.there
    cases q : F' a with
    | none => rfl
    | some u =>
      rcases nw a (by rw [q]; simp) with z | z
      · exact absurd n z
      · rw [ho] at z; cases z
  ds := S.ds
/-- the tables left out -/
def cl (F : Hp) : Hp := fun b => match F b with
  | some (.tbl _) => none
  | o => o
theorem cl_some {F : Hp} {b : Addr} {o : HO} (h : F b = some o) (n : ∀ ps, o ≠ .tbl ps) : cl F b = some o := by
  unfold cl
  rw [h]
  cases o with
  | tbl ps => exact absurd rfl (n ps)
  | _ => rfl
theorem cl_of {F : Hp} {b : Addr} {o : HO} (h : cl F b = some o) : F b = some o ∧ ∀ ps, o ≠ .tbl ps := by
  unfold cl at h
  split at h
  · cases h
  · rename_i q
    exact ⟨h, fun ps z => by subst z; exact q ps h⟩
theorem rd_cl {F : Hp} {a : Addr} {o : HO} (h : Rd F a o) (n : ∀ ps, o ≠ .tbl ps) : Rd (cl F) a o := h.elim (fun q => .inl (cl_some q n)) fun ⟨o', q⟩ => .inr ⟨o', cl_some q fun _ z => by cases z⟩
theorem sqT_cl {K : PySem.W.Frag} {F : Hp} {a : Addr} {xs : List V} (h : SqT K F a xs) : SqT K (cl F) a xs := h.elim (fun q => .inl (rd_cl q fun _ z => by cases z)) .inr
theorem sqL_cl {K : PySem.W.Frag} {F : Hp} {a : Addr} {xs : List V} (h : SqL K F a xs) : SqL K (cl F) a xs := h.elim (fun q => .inl (rd_cl q fun _ z => by cases z)) .inr
mutual
theorem Rep.cl {K : PySem.W.Frag} {mg : Str → Option Value} {F : Hp} : ∀ {v : V} {t : T}, Rep K mg F v t → Rep K mg (FX.cl F) v t
  | _, _, .non => .non
  | _, _, .bl b => .bl b
  | _, _, .int b => .int b
  | _, _, .str b => .str b
  | _, _, .tup h r => .tup (cl_some h fun _ z => by cases z) (Reps.cl r)
  | _, _, .tsq h r => .tsq (sqT_cl h) (Reps.cl r)
  | _, _, .lst h r => .lst (cl_some h fun _ z => by cases z) (Reps.cl r)
  | _, _, .seq h r => .seq (sqL_cl h) (Reps.cl r)
  | _, _, .dK h r => .dK (rd_cl h fun _ z => by cases z) (RepK.cl r)
  | _, _, .dT h r => .dT (rd_cl h fun _ z => by cases z) (RepT.cl r)
  | _, _, .ins hc h r => .ins hc (cl_some h fun _ z => by cases z) (RepF.cl r)
  | _, _, .fn h => .fn h
  | _, _, .ty n => .ty n
  | _, _, .dN h r => .dN (rd_cl h fun _ z => by cases z) (Rep.cl r)
theorem Reps.cl {K : PySem.W.Frag} {mg : Str → Option Value} {F : Hp} : ∀ {v : List V} {t : List T}, Reps K mg F v t → Reps K mg (FX.cl F) v t
  | _, _, .nil => .nil
  | _, _, .cons h r => .cons (Rep.cl h) (Reps.cl r)
theorem RepK.cl {K : PySem.W.Frag} {mg : Str → Option Value} {F : Hp} : ∀ {v : List (Key × V)} {t : List (Key × T)}, RepK K mg F v t → RepK K mg (FX.cl F) v t
  | _, _, .nil => .nil
  | _, _, .cons h r => .cons (Rep.cl h) (RepK.cl r)
theorem RepT.cl {K : PySem.W.Frag} {mg : Str → Option Value} {F : Hp} : ∀ {v : List (List Key × V)} {t : List (List Key × T)}, RepT K mg F v t → RepT K mg (FX.cl F) v t
  | _, _, .nil => .nil
  | _, _, .cons h r => .cons (Rep.cl h) (RepT.cl r)
theorem RepF.cl {K : PySem.W.Frag} {mg : Str → Option Value} {F : Hp} : ∀ {v : List (Str × V)} {t : List (Str × T)}, RepF K mg F v t → RepF K mg (FX.cl F) v t
  | _, _, .nil => .nil
  | _, _, .cons h r => .cons (Rep.cl h) (RepF.cl r)
end
theorem OwnAt.cl {K : PySem.W.Frag} {mg : Str → Option Value} {F H : Hp} {a : Addr} {t : T} (h : OwnAt K mg F H a t) : OwnAt K mg (FX.cl F) H a t := by
  cases h with
  | lst h r => exact .lst h r.cl
  | dK h r => exact .dK h r.cl
  | dT h r => exact .dT h r.cl
  | ins hc h r => exact .ins hc h r.cl
/-- what a callee leaves, without its tables -/
structure Cln (K : PySem.W.Frag) (mg : Str → Option Value) (au : Au) (F H F' H' F2 : Hp) : Prop where
  s : Same F F2
  s3 : Same F2 H'
  nw : ∀ b, F2 b ≠ none → F b ≠ none ∨ H b = none
  nt : au.tb ≠ [] → ∀ b ps, F2 b ≠ some (.tbl ps)
  le : Same F2 F'
  rep : ∀ {v : V} {t : T}, Rep K mg F' v t → Rep K mg F2 v t
  repF : ∀ {v : List (Str × V)} {t : List (Str × T)}, RepF K mg F' v t → RepF K mg F2 v t
  own : ∀ {H2 : Hp} {a : Addr} {t : T}, OwnAt K mg F' H2 a t → OwnAt K mg F2 H2 a t
theorem clean {K : PySem.W.Frag} {mg : Str → Option Value} (nt : au.tb ≠ [] → ∀ b ps, F b ≠ some (.tbl ps)) (s : Same F F') (s3 : Same F' H') (nw : ∀ b, F' b ≠ none → F b ≠ none ∨ H b = none) : ∃ F2, Cln K mg au F H F' H' F2 := by
  by_cases ht : au.tb = []
  · exact ⟨F', s, s3, nw, fun h => absurd ht h, .refl _, fun r => r, fun r => r, fun r => r⟩
  · refine ⟨FX.cl F', fun b o h => cl_some (s _ _ h) fun ps z => nt ht b ps (by rw [h, z]), fun b o h => s3 _ _ (cl_of h).1, fun b h => nw b fun z => ?_, fun _ b ps h => (cl_of h).2 ps rfl, fun b o h => (cl_of h).1, fun r => r.cl, fun r => r.cl, fun r => r.cl⟩
    cases q : FX.cl F' b with
    | none => exact h q
    | some o => rw [(cl_of q).1] at z; cases z
theorem Xt.new {lam : Prop} {A : Addr → Prop} (s : Same F F') (s2 : Same H H') (nw : ∀ b, F' b ≠ none → F b ≠ none ∨ H b = none) : Xt lam A F H A F' H' :=
  ⟨s, fun b o h _ _ => s2 b o h, same_none s2, fun b h => (nw b h).elim .inl (fun q => .inr (.inl q)), fun _ h => .inl h⟩
theorem res_post (S : SRel X.K X.mg au ρ σ F H) {r : Option Nv} {Q : VK} (h : Post X au W (VE X) ρ σ F H (R.of r ρ) Q) : ResP X.K X.mg F H r Q := by
  cases r with
  | none => exact h
  | some v =>
    cases v with
    | fz w =>
      intro z F' H' s1 s2 s3 nw r
      obtain ⟨F2, C⟩ := clean (K := X.K) (mg := X.mg) S.nt s1 s3 nw
      exact h z F2 H' (S.new C.s s2 C.s3 C.nw C.nt) (Xt.new C.s s2 C.nw) (C.rep r)
    | own w =>
      intro p F' H' s1 s2 s3 nw hp fp ow
      obtain ⟨F2, C⟩ := clean (K := X.K) (mg := X.mg) S.nt s1 s3 nw
      refine h (.ref p) F2 H' (S.new C.s s2 C.s3 C.nw C.nt) (Xt.new C.s s2 C.nw) ⟨p, rfl, C.le.free fp, C.own ow, hp, fun ⟨i, k, t, hi, ei⟩ => ?_⟩
      obtain ⟨a, ea, _, o, _⟩ := S.ow hi
      rw [ei] at ea; cases ea
      obtain ⟨_, ho, _⟩ := o.there
      rw [hp] at ho; cases ho
/-- nothing new -/
theorem ResP.flat {w : T} {Q : VK} {z : V} (h : ResP X.K X.mg F H (some (.fz w)) Q) (s : Same F H) (r : Rep X.K X.mg F z w) : Q z H := h z F H (.refl _) (.refl _) s (fun _ h => .inl h) r
/-- a new object that may be changed -/
theorem ResP.made {w : T} {Q : VK} {p : Addr} {o : HO} (h : ResP X.K X.mg F H (some (.own w)) Q) (s : Same F H) (hp : H p = none) (ow : OwnAt X.K X.mg F (upd H p o) p w) : Q (.ref p) (upd H p o) :=
  h p F _ (.refl _) (same_upd hp) (s.trans (same_upd hp)) (fun _ h => .inl h) hp (s.free hp) ow
/-- a new object that stays as it is -/
theorem ResP.laid {w : T} {Q : VK} {p : Addr} {o : HO} (h : ResP X.K X.mg F H (some (.fz w)) Q) (s : Same F H) (hp : H p = none) (r : Rep X.K X.mg (upd F p o) (.ref p) w) : Q (.ref p) (upd H p o) := by
  refine h _ (upd F p o) _ (same_upd (s.free hp)) (same_upd hp) (fun b u e => ?_) (fun b hb => ?_) r
  · by_cases q : b = p
    · subst q; rw [upd_same] at e ⊢; exact e
    · rw [upd_ne q] at e ⊢; exact s _ _ e
  · by_cases q : b = p
    · subst q; exact .inr hp
    · rw [upd_ne q] at hb; exact .inl hb
/-- the same outcome, told from a later state -/
theorem Post.step {γ δ : Type} {VR' : FX.Env → L2.St → Hp → Hp → Hp → δ → γ → Prop} (mono : Early VR') {ρ1 ρ2 : FX.Env} {F1 H1 F2 H2 : Hp} {r : R γ} {Q : δ → Hp → Prop} (h : Post X au W VR' ρ1 σ F1 H1 r Q)
    (X1 : Xtn au ρ1 σ F1 H1 ρ2 σ F2 H2) : Post X au W VR' ρ2 σ F2 H2 r Q := by
  cases r with
  | stuck => exact h
  | err e ρ3 => exact fun cls d F3 H3 S3 X3 E3 => h cls d F3 H3 S3 (X1.trans X3) E3
  | ok w ρ3 => exact fun y F3 H3 S3 X3 V3 => h y F3 H3 S3 (X1.trans X3) (mono _ _ _ _ _ _ _ _ (fun b => X1.nn b) V3)
/-- let out for good -/
def esc1 (v : Vl) (ρ : FX.Env) : Option (T × FX.Env) := match v with
  | .fz t => some (t, ρ)
  | .own _ => none
  | .bor i => match ρ[i]? with
    | some (.own _ t) => some (t, ρ.set i (.fz t))
    | some (.fz t) => some (t, ρ)
    | _ => none
def escs : List Vl → FX.Env → Option (List T × FX.Env)
  | [], ρ => some ([], ρ)
  | v :: vs, ρ => match esc1 v ρ with
    | some (t, ρ1) => match escs vs ρ1 with
      | some (ts, ρ2) => some (t :: ts, ρ2)
      | none => none
    | none => none
theorem esc1_ok (S : SRel X.K X.mg au ρ σ F H) {x : V} {v : Vl} {t : T} {ρ' : FX.Env} (h : Held X.K X.mg σ F x v) (e : esc1 v ρ = some (t, ρ')) :
    ∃ F', SRel X.K X.mg au ρ' σ F' H ∧ Xtn au ρ σ F H ρ' σ F' H ∧ Rep X.K X.mg F' x t := by
  cases v with
  | fz u => cases e; exact ⟨F, S, Xt.refl _ _ _ _, h⟩
  | own u => exact h.elim
  | bor i =>
    have h : σ[i]? = some (some x) := h
    simp only [esc1] at e
    split at e
    · rename_i k u hu
      cases e
      obtain ⟨a, o, ea, S', X', r⟩ := S.thaw_set hu
      rw [h] at ea; cases ea
      exact ⟨_, S', X', r⟩
    · rename_i u hu
      cases e
      obtain ⟨v, ea, r⟩ := S.fz hu
      rw [h] at ea; cases ea
      exact ⟨F, S, Xt.refl _ _ _ _, r⟩
    · cases e
theorem escs_ok : ∀ {vs : List Vl} {xs : List V} {ρ ρ' : FX.Env} {F : Hp} {ts : List T}, SRel X.K X.mg au ρ σ F H → VRels X.K X.mg σ F xs vs → escs vs ρ = some (ts, ρ') →
    ∃ F', SRel X.K X.mg au ρ' σ F' H ∧ Xtn au ρ σ F H ρ' σ F' H ∧ Reps X.K X.mg F' xs ts
  | [], [], _, _, F, _, S, _, e => by cases e; exact ⟨F, S, Xt.refl _ _ _ _, .nil⟩
  | v :: vs, x :: xs, ρ, ρ', F, ts, S, h, e => by
    simp only [escs] at e
    split at e
    · rename_i t ρ1 e1
      split at e
      · rename_i ts' ρ2 e2
        cases e
        obtain ⟨F1, S1, X1, r1⟩ := esc1_ok (v := v) S h.1 e1
        obtain ⟨F2, S2, X2, r2⟩ := escs_ok S1 (VRels.mono X1.ff h.2) e2
        exact ⟨F2, S2, X1.trans X2, .cons (r1.mono X2.ff) r2⟩
      · cases e
    · cases e
  | [], _ :: _, _, _, _, _, _, h, _ => h.elim
  | _ :: _, [], _, _, _, _, _, h, _ => h.elim
end
end FX
end

section
set_option Elab.async false
set_option linter.all false
set_option maxRecDepth 100000
set_option maxHeartbeats 4000000
namespace FX
open PySem PySem.Spec PyProof.Rows L2

/-! ### data -/
mutual
def T.toD : T → Option PyData
  | .non => some .none
  | .bl b => some (.bool b)
  | .int i => some (.int i)
  | .str x => some (.str x)
  | .tup ts => (toDs ts).map .tuple
  | .tsq ts => (toDs ts).map .tuple
  | .lst ts => (toDs ts).map .list
  | .seq ts => (toDs ts).map .list
  | .dK _ => none
  | .dT _ => none
  | .ins _ _ => none
  | .fn _ => none
  | .ty _ => none
  | .dN _ => none
def toDs : List T → Option (List PyData)
  | [] => some []
  | t :: ts => match t.toD, toDs ts with
    | some d, some ds => some (d :: ds)
    | _, _ => none
end
section
variable {K : PySem.W.Frag} {mg : Str → Option Value} {F : Hp}
mutual
theorem Rep.dp : ∀ {v : V} {t : T}, Rep K mg F v t → ∀ {d : PyData}, t.toD = some d → Dp K F v d
  | _, _, .non, _, e => by simp only [T.toD, Option.some.injEq] at e; subst e; exact .non
  | _, _, .bl b, _, e => by simp only [T.toD, Option.some.injEq] at e; subst e; exact .bl b
  | _, _, .int b, _, e => by simp only [T.toD, Option.some.injEq] at e; subst e; exact .int b
  | _, _, .str b, _, e => by simp only [T.toD, Option.some.injEq] at e; subst e; exact .str b
  | _, _, .tup h r, _, e => by
    simp only [T.toD, Option.map_eq_some_iff] at e
    obtain ⟨ds, e1, e2⟩ := e; subst e2
    exact .tup (.of h) (Reps.dp r e1)
  | _, _, .tsq h r, _, e => by
    simp only [T.toD, Option.map_eq_some_iff] at e
    obtain ⟨ds, e1, e2⟩ := e; subst e2
    exact .tup h (Reps.dp r e1)
  | _, _, .lst h r, _, e => by
    simp only [T.toD, Option.map_eq_some_iff] at e
    obtain ⟨ds, e1, e2⟩ := e; subst e2
    exact .lst (.of h) (Reps.dp r e1)
  | _, _, .seq h r, _, e => by
    simp only [T.toD, Option.map_eq_some_iff] at e
    obtain ⟨ds, e1, e2⟩ := e; subst e2
    exact .lst h (Reps.dp r e1)
  | _, _, .dK _ _, _, e => by simp [T.toD] at e
  | _, _, .dT _ _, _, e => by simp [T.toD] at e
  | _, _, .ins _ _ _, _, e => by simp [T.toD] at e
  | _, _, .fn _, _, e => by simp [T.toD] at e
  | _, _, .ty _, _, e => by simp [T.toD] at e
  | _, _, .dN _ _, _, e => by simp [T.toD] at e
theorem Reps.dp : ∀ {vs : List V} {ts : List T}, Reps K mg F vs ts → ∀ {ds : List PyData}, toDs ts = some ds → DpAll K F vs ds
  | _, _, .nil, _, e => by simp only [toDs, Option.some.injEq] at e; subst e; exact .nil
  | _, _, .cons (t := t) (ts := ts) h r, _, e => by
    simp only [toDs] at e
    split at e
    · rename_i d ds e1 e2
      cases e
      exact .cons (Rep.dp h e1) (Reps.dp r e2)
    · cases e
end
theorem Reps.length {vs : List V} {ts : List T} (r : Reps K mg F vs ts) : vs.length = ts.length := by
  induction ts generalizing vs with
  | nil => cases r; rfl
  | cons t ts ih => cases r with | cons h r => simp [ih r]
theorem Reps.get {vs : List V} {ts : List T} (r : Reps K mg F vs ts) : ∀ {i : Nat} {t : T}, ts[i]? = some t → ∃ v, vs[i]? = some v ∧ Rep K mg F v t := by
  induction ts generalizing vs with
  | nil => intro i t h; simp at h
  | cons t ts ih =>
    intro i u h
    cases r with
    | cons h1 r =>
      cases i with
      | zero => simp at h; subst h; exact ⟨_, rfl, h1⟩
      | succ i => simp at h; obtain ⟨v, a, b⟩ := ih r h; exact ⟨v, by simpa using a, b⟩
theorem Reps.get' {vs : List V} {ts : List T} (r : Reps K mg F vs ts) {i : Nat} {v : V} (h : vs[i]? = some v) : ∃ t, ts[i]? = some t ∧ Rep K mg F v t := by
  have hl := r.length
  have hi : i < vs.length := (List.getElem?_eq_some_iff.mp h).1
  obtain ⟨w, a, b⟩ := r.get (i := i) (t := ts[i]'(by omega)) (by simp)
  rw [h] at a; cases a
  exact ⟨_, by simp, b⟩
theorem Reps.append {vs us : List V} {ts ss : List T} (r : Reps K mg F vs ts) (r' : Reps K mg F us ss) : Reps K mg F (vs ++ us) (ts ++ ss) := by
  induction ts generalizing vs with
  | nil => cases r; exact r'
  | cons t ts ih => cases r with | cons h r => exact .cons h (ih r)
theorem Reps.drop {vs : List V} {ts : List T} (n : Nat) (r : Reps K mg F vs ts) : Reps K mg F (vs.drop n) (ts.drop n) := by
  induction n generalizing vs ts with
  | zero => exact r
  | succ n ih => cases r with
    | nil => exact .nil
    | cons h r => exact ih r
theorem Reps.take {vs : List V} {ts : List T} (n : Nat) (r : Reps K mg F vs ts) : Reps K mg F (vs.take n) (ts.take n) := by
  induction n generalizing vs ts with
  | zero => exact .nil
  | succ n ih => cases r with
    | nil => exact .nil
    | cons h r => exact .cons h (ih r)
theorem Reps.set {vs : List V} {ts : List T} {v : V} {t : T} (h : Rep K mg F v t) (n : Nat) (r : Reps K mg F vs ts) : Reps K mg F (vs.set n v) (ts.set n t) := by
  induction n generalizing vs ts with
  | zero => cases r with
    | nil => exact .nil
    | cons _ r => exact .cons h r
  | succ n ih => cases r with
    | nil => exact .nil
    | cons h' r => exact .cons h' (ih r)
theorem Reps.reverse {vs : List V} {ts : List T} (r : Reps K mg F vs ts) : Reps K mg F vs.reverse ts.reverse := by
  induction ts generalizing vs with
  | nil => cases r; exact .nil
  | cons t ts ih => cases r with | cons h r => simp only [List.reverse_cons]; exact (ih r).append (.cons h .nil)
theorem Reps.rep {vs : List V} {ts : List T} (r : Reps K mg F vs ts) : ∀ k : Nat, Reps K mg F (List.replicate k vs).flatten (List.replicate k ts).flatten
  | 0 => .nil
  | k + 1 => by simp only [List.replicate_succ, List.flatten_cons]; exact r.append (Reps.rep r k)
theorem Reps.one {v : V} {t : T} (h : Rep K mg F v t) : Reps K mg F [v] [t] := .cons h .nil
end

section
variable {X : Cx} {au : Au} {W : WX}
/-! ### names and constants -/
def fVar (i : Nat) : FX.Env → R Vl := fun ρ => match ρ[i]? with
  | some (.fz t) => .ok (.fz t) ρ
  | some (.own _ _) => .ok (.bor i) ρ
  | _ => .stuck
theorem re_var (i : Nat) {x : Str} {pos : Pos} (hN : X.N[i]? = some x := by rfl) (hv : Vis X.env.scope x := by first | exact Or.inl rfl | exact Or.inr (Or.inl rfl) | exact Or.inr (Or.inr rfl)) (hd : (x == ("__debug__" : Str)) = false := by decide)
    (hcd : (x == ("__classdict__" : Str)) = false := by decide) : RE X au W (.Name x pos) (fVar i) := by
  refine ⟨PE.imp (pe_var hN hv hd hcd) fun σ H Q ⟨F, ρ, S, h⟩ => ?_⟩
  unfold fVar at h
  split at h
  · rename_i t e
    obtain ⟨v, ev, r⟩ := S.fz e
    exact ⟨v, ev, h v F H S (Xt.refl _ _ _ _) r⟩
  · rename_i k t e
    obtain ⟨a, ea, _⟩ := S.ow e
    exact ⟨_, ea, h _ F H S (Xt.refl _ _ _ _) ⟨_, _, e, ea⟩⟩
  · exact h.elim
def fC (t : T) : FX.Env → R Vl := fun ρ => .ok (.fz t) ρ
theorem re_const {e : Expr} {v : V} {t : T} (h : PE X e (tC v)) (r : ∀ F, Rep X.K X.mg F v t) : RE X au W e (fC t) :=
  ⟨PE.imp h fun σ H Q ⟨F, ρ, S, q⟩ => q v F H S (Xt.refl _ _ _ _) (r F)⟩
theorem re_int {i j pos} : RE X au W (.Constant (.int i) j pos) (fC (.int i)) := re_const pe_int fun _ => .int _
theorem re_bl {b j pos} : RE X au W (.Constant (.bool b) j pos) (fC (.bl b)) := re_const pe_bl fun _ => .bl _
theorem re_non {j pos} : RE X au W (.Constant .none j pos) (fC .non) := re_const pe_non fun _ => .non
theorem re_str {x j pos} : RE X au W (.Constant (.str x) j pos) (fC (.str x)) := re_const pe_str fun _ => .str _
/-- a global: a constant of the module -/
theorem re_glob {x : Str} {v : V} {u : Value} {t : T} {pos : Pos} (hm : X.mg x = some u) (r : RelV v u) (rt : ∀ F, Rep X.K X.mg F v t) (hg : Gl X x := by rfl) (hd : (x == ("__debug__" : Str)) = false := by decide) : RE X au W (.Name x pos) (fC t) :=
  re_const (pe_glob hg hm r hd) rt
theorem re_globI {x : Str} {i : Int} {tk : Tok} {pos : Pos} (hm : X.mg x = some (.int i tk)) (hg : Gl X x := by rfl) (hd : (x == ("__debug__" : Str)) = false := by decide) : RE X au W (.Name x pos) (fC (.int i)) :=
  re_glob hm (v := .int i) ⟨_, rfl⟩ (fun _ => .int _) hg hd
theorem re_globF {x : Str} {f : Addr} {pos : Pos} (hm : X.mg x = some (.ref f)) (hg : Gl X x := by rfl) (hd : (x == ("__debug__" : Str)) = false := by decide) : RE X au W (.Name x pos) (fC (.fn x)) :=
  re_glob hm (v := .ref f) rfl (fun _ => .fn hm) hg hd

/-! ### two values -/
/-- the operation's reading r does what g says -/
def Op2 (X : Cx) (r : R2) (g : T → T → Option Nv) : Prop := ∀ F H x y t u Q, Same F H → RepO X.K X.mg F H x t → RepO X.K X.mg F H y u → ResP X.K X.mg F H (g t u) Q → r x y H Q
def Cm2 (X : Cx) (r : R2) (g : T → T → Option Bool) : Prop := ∀ F H x y t u Q b, Same F H → RepO X.K X.mg F H x t → RepO X.K X.mg F H y u → g t u = some b → Q (.bl b) H → r x y H Q
def look2 {α : Type} (ρ : FX.Env) (v u : Vl) (g : T → T → Option α) : Option α := match look ρ v, look ρ u with
  | some t, some s => g t s
  | _, _ => none
def fBin (g : T → T → Option Nv) (fa fb : FX.Env → R Vl) : FX.Env → R Vl := fun ρ => (fa ρ).norm.bind fun v ρ1 => (fb ρ1).norm.bind fun u ρ2 => R.of (look2 ρ2 v u g) ρ2
def gCm (g : T → T → Option Bool) : T → T → Option Nv := fun t u => (g t u).map fun b => .fz (.bl b)
def R.ofB (o : Option Bool) (ρ : FX.Env) : R Bool := match o with
  | some b => .ok b ρ
  | none => .stuck
def fCmpT (g : T → T → Option Bool) (fa fb : FX.Env → R Vl) : FX.Env → R Bool := fun ρ => (fa ρ).norm.bind fun v ρ1 => (fb ρ1).norm.bind fun u ρ2 => R.ofB (look2 ρ2 v u g) ρ2
theorem Cm2.op {r : R2} {g : T → T → Option Bool} (h : Cm2 X r g) : Op2 X r (gCm g) := fun F H x y t u Q s rx ry q => by
  unfold gCm at q
  cases e : g t u with
  | none => rw [e] at q; exact q.elim
  | some b => rw [e] at q; exact h F H x y t u Q b s rx ry e (q.flat s (.bl b))
theorem Op2.or {r r' : R2} {g g' : T → T → Option Nv} (h : Op2 X r g) (h' : Op2 X r' g') : Op2 X (fun x y H Q => r x y H Q ∨ r' x y H Q) (fun t u => match g t u with | some v => some v | none => g' t u) := fun F H x y t u Q s rx ry q => by
  dsimp only at q
  cases e : g t u with
  | none => rw [e] at q; exact .inr (h' F H x y t u Q s rx ry q)
  | some v => rw [e] at q; exact .inl (h F H x y t u Q s rx ry (by rw [e]; exact q))
theorem Cm2.or {r r' : R2} {g g' : T → T → Option Bool} (h : Cm2 X r g) (h' : Cm2 X r' g') : Cm2 X (fun x y H Q => r x y H Q ∨ r' x y H Q) (fun t u => match g t u with | some v => some v | none => g' t u) := fun F H x y t u Q b s rx ry e q => by
  dsimp only at e
  split at e
  · rename_i v e'
    exact .inl (h F H x y t u Q b s rx ry (e'.trans e) q)
  · exact .inr (h' F H x y t u Q b s rx ry e q)
theorem op2_post {ρ : FX.Env} {σ : L2.St} {F H : Hp} {r : R2} {g : T → T → Option Nv} (ho : Op2 X r g) (S : SRel X.K X.mg au ρ σ F H) {x y : V} {v u : Vl} (hx : Held X.K X.mg σ F x v) (hy : Held X.K X.mg σ F y u) {Q : VK}
    (h : Post X au W (VE X) ρ σ F H (R.of (look2 ρ v u g) ρ) Q) : r x y H Q := by
  have h' := res_post S h
  unfold look2 at h'
  split at h'
  · rename_i t s e1 e2
    exact ho F H x y t s Q S.sub (look_o S hx e1) (look_o S hy e2) h'
  · exact h'.elim
theorem cm2_post {ρ : FX.Env} {σ : L2.St} {F H : Hp} {r : R2} {g : T → T → Option Bool} (ho : Cm2 X r g) (S : SRel X.K X.mg au ρ σ F H) {x y : V} {v u : Vl} (hx : Held X.K X.mg σ F x v) (hy : Held X.K X.mg σ F y u) {Q : Bool → Hp → Prop}
    (h : Post X au W VB ρ σ F H (R.ofB (look2 ρ v u g) ρ) Q) : r x y H (fun z H' => ∃ k, z = .bl k ∧ Q k H') := by
  unfold look2 at h
  split at h
  · rename_i t s e1 e2
    cases e : g t s with
    | none => rw [e] at h; exact h.elim
    | some b =>
      rw [e] at h
      exact ho F H x y t s _ b S.sub (look_o S hx e1) (look_o S hy e2) e ⟨b, rfl, h b F H S (Xt.refl _ _ _ _) rfl⟩
  · exact h.elim
theorem cm2_postV {ρ : FX.Env} {σ : L2.St} {F H : Hp} {r : R2} {g : T → T → Option Bool} (ho : Cm2 X r g) (S : SRel X.K X.mg au ρ σ F H) {x y : V} {v u : Vl} (hx : Held X.K X.mg σ F x v) (hy : Held X.K X.mg σ F y u) {Q : VK}
    (h : Post X au W VB ρ σ F H (R.ofB (look2 ρ v u g) ρ) (fun b H => Q (.bl b) H)) : r x y H Q := by
  unfold look2 at h
  split at h
  · rename_i t s e1 e2
    cases e : g t s with
    | none => rw [e] at h; exact h.elim
    | some b =>
      rw [e] at h
      exact ho F H x y t s _ b S.sub (look_o S hx e1) (look_o S hy e2) e (h b F H S (Xt.refl _ _ _ _) rfl)
  · exact h.elim
theorem bin_of {r : R2} {g : T → T → Option Nv} {fa fb : FX.Env → R Vl} (ho : Op2 X r g) {σ : L2.St} {H : Hp} {Q : VK} (q : tF X au W (VE X) (fBin g fa fb) σ H Q) : tOp r (tF X au W (VE X) fa) (tF X au W (VE X) fb) σ H Q := by
  obtain ⟨F, ρ, S, h⟩ := q
  exact ⟨F, ρ, S, Post.bindN early_VE h fun x v ρ1 F1 H1 S1 X1 V1 h1 => ⟨F1, ρ1, S1, Post.bindN early_VE h1 fun y u ρ2 F2 H2 S2 X2 V2 h2 => op2_post ho S2 (V1.mono X2.ff) V2 h2⟩⟩
theorem re_bin {op : Operator} {r : R2} {g : T → T → Option Nv} {a b : Expr} {fa fb : FX.Env → R Vl} {pos : Pos} (ho : OpR X (binaryOp op) r) (hs : Op2 X r g) (ha : RE X au W a fa) (hb : RE X au W b fb) : RE X au W (.BinOp a op b pos) (fBin g fa fb) :=
  ⟨PE.imp (pe_op ho ha.pe hb.pe) fun σ H Q q => bin_of hs q⟩
theorem re_cmp {op : CmpOp} {r : R2} {g : T → T → Option Bool} {a b : Expr} {fa fb : FX.Env → R Vl} {pos : Pos} (ho : OpR X (compareOp op) r) (hs : Cm2 X r g) (ha : RE X au W a fa) (hb : RE X au W b fb) (hm : behindInMarks op b = false) :
    RE X au W (.Compare a [op] [b] pos) (fBin (gCm g) fa fb) :=
  ⟨PE.imp (pe_cmpR ho ha.pe hb.pe hm) fun σ H Q q => bin_of hs.op q⟩
theorem rt_cmp {op : CmpOp} {r : R2} {g : T → T → Option Bool} {a b : Expr} {fa fb : FX.Env → R Vl} {pos : Pos} (ho : OpR X (compareOp op) r) (hs : Cm2 X r g) (ha : RE X au W a fa) (hb : RE X au W b fb) (hm : behindInMarks op b = false) :
    RT X au W (.Compare a [op] [b] pos) (fCmpT g fa fb) := by
  refine ⟨PT.imp (pt_cmpR ho ha.pe hb.pe hm) fun σ H Q q => ?_⟩
  obtain ⟨F, ρ, S, h⟩ := q
  exact ⟨F, ρ, S, Post.bindN early_VB h fun x v ρ1 F1 H1 S1 X1 V1 h1 => ⟨F1, ρ1, S1, Post.bindN early_VB h1 fun y u ρ2 F2 H2 S2 X2 V2 h2 => cm2_post hs S2 (V1.mono X2.ff) V2 h2⟩⟩
/-- a op b op' c -/
def fChain (g g' : T → T → Option Bool) (fa fb fc : FX.Env → R Vl) : FX.Env → R Bool := fun ρ => (fa ρ).norm.bind fun v ρ1 => (fb ρ1).norm.bind fun u ρ2 => match look2 ρ2 v u g with
  | some true => (fc ρ2).norm.bind fun z ρ3 => R.ofB (look2 ρ3 u z g') ρ3
  | some false => .ok false ρ2
  | none => .stuck
theorem chain_of {r r' : R2} {g g' : T → T → Option Bool} {fa fb fc : FX.Env → R Vl} (hs : Cm2 X r g) (hs' : Cm2 X r' g') {σ : L2.St} {H : Hp} {Q : Bool → Hp → Prop} (q : tF X au W VB (fChain g g' fa fb fc) σ H Q) :
    tChain r r' (tF X au W (VE X) fa) (tF X au W (VE X) fb) (tF X au W (VE X) fc) σ H (fun z H' => ∃ k, z = .bl k ∧ Q k H') := by
  obtain ⟨F, ρ, S, h⟩ := q
  refine ⟨F, ρ, S, Post.bindN early_VB h fun x v ρ1 F1 H1 S1 X1 V1 h1 => ⟨F1, ρ1, S1, Post.bindN early_VB h1 fun y u ρ2 F2 H2 S2 X2 V2 h2 => ?_⟩⟩
  have hx := V1.mono X2.ff
  cases e : look2 ρ2 v u g with
  | none => rw [e] at h2; exact h2.elim
  | some b =>
    rw [e] at h2
    unfold look2 at e
    split at e
    · rename_i t s e1 e2
      refine hs F2 H2 x y t s _ b S2.sub (look_o S2 hx e1) (look_o S2 V2 e2) e ⟨b, rfl, ?_⟩
      cases b with
      | false => rw [if_neg Bool.false_ne_true]; exact ⟨false, rfl, h2 false F2 H2 S2 (Xt.refl _ _ _ _) rfl⟩
      | true =>
        rw [if_pos rfl]
        refine ⟨F2, ρ2, S2, Post.bindN early_VB h2 fun w' z ρ3 F3 H3 S3 X3 V3 h3 => ?_⟩
        exact cm2_post hs' S3 (V2.mono X3.ff) V3 h3
    · cases e
theorem rt_chain {op op' : CmpOp} {r r' : R2} {g g' : T → T → Option Bool} {a b c : Expr} {fa fb fc : FX.Env → R Vl} {pos : Pos} (ho : OpR X (compareOp op) r) (hs : Cm2 X r g) (ho' : OpR X (compareOp op') r') (hs' : Cm2 X r' g') (ha : RE X au W a fa) (hb : RE X au W b fb) (hc : RE X au W c fc)
    (hm : lastMarks [op, op'] [b, c] = false := by with_unfolding_all rfl) : RT X au W (.Compare a [op, op'] [b, c] pos) (fChain g g' fa fb fc) :=
  ⟨PT.imp (pt_chain ho ho' ha.pe hb.pe hc.pe hm) fun σ H Q q => chain_of hs hs' q⟩
/-- a truth value as a value -/
def fV (f : FX.Env → R Bool) : FX.Env → R Vl := fun ρ => (f ρ).map fun b => .fz (.bl b)
theorem fV_post {ρ : FX.Env} {σ : L2.St} {F H : Hp} {r : R Bool} {Q : VK} (h : Post X au W (VE X) ρ σ F H (r.map fun b => .fz (.bl b)) Q) : Post X au W VB ρ σ F H r (fun b H => ∃ k, V.bl b = .bl k ∧ Q (.bl k) H) := by
  cases r with
  | stuck => exact h
  | err e ρ1 => exact h
  | ok b ρ1 => exact fun x F1 H1 S1 X1 e => ⟨x, rfl, h (.bl x) F1 H1 S1 X1 (by rw [e]; exact .bl _)⟩
theorem tF_mono {α β : Type} {VR : FX.Env → L2.St → Hp → Hp → Hp → β → α → Prop} {f : FX.Env → R α} {σ : L2.St} {H : Hp} {Q Q' : β → Hp → Prop} (i : ∀ x H, Q x H → Q' x H) (h : tF X au W VR f σ H Q) : tF X au W VR f σ H Q' := by
  obtain ⟨F, ρ, S, q⟩ := h
  exact ⟨F, ρ, S, q.mono i⟩
theorem re_chain {op op' : CmpOp} {r r' : R2} {g g' : T → T → Option Bool} {a b c : Expr} {fa fb fc : FX.Env → R Vl} {pos : Pos} (ho : OpR X (compareOp op) r) (hs : Cm2 X r g) (ho' : OpR X (compareOp op') r') (hs' : Cm2 X r' g') (ha : RE X au W a fa) (hb : RE X au W b fb) (hc : RE X au W c fc)
    (hm : lastMarks [op, op'] [b, c] = false := by with_unfolding_all rfl) : RE X au W (.Compare a [op, op'] [b, c] pos) (fV (fChain g g' fa fb fc)) := by
  refine ⟨PE.imp (pe_chain ho ho' ha.pe hb.pe hc.pe hm) fun σ H Q ⟨F, ρ, S, q⟩ => ?_⟩
  have q' : tF X au W VB (fChain g g' fa fb fc) σ H (fun b H => Q (.bl b) H) := ⟨F, ρ, S, (fV_post q).mono fun b H z => by obtain ⟨k, e, z⟩ := z; cases e; exact z⟩
  obtain ⟨F, ρ, S, h⟩ := q'
  refine ⟨F, ρ, S, Post.bindN early_VB h fun x v ρ1 F1 H1 S1 X1 V1 h1 => ⟨F1, ρ1, S1, Post.bindN early_VB h1 fun y u ρ2 F2 H2 S2 X2 V2 h2 => ?_⟩⟩
  have hx := V1.mono X2.ff
  cases e : look2 ρ2 v u g with
  | none => rw [e] at h2; exact h2.elim
  | some b =>
    rw [e] at h2
    unfold look2 at e
    split at e
    · rename_i t s e1 e2
      refine hs F2 H2 x y t s _ b S2.sub (look_o S2 hx e1) (look_o S2 V2 e2) e ⟨b, rfl, ?_⟩
      cases b with
      | false => rw [if_neg Bool.false_ne_true]; exact h2 false F2 H2 S2 (Xt.refl _ _ _ _) rfl
      | true =>
        rw [if_pos rfl]
        refine ⟨F2, ρ2, S2, Post.bindN early_VB h2 fun w' z ρ3 F3 H3 S3 X3 V3 h3 => ?_⟩
        exact cm2_postV hs' S3 (V2.mono X3.ff) V3 h3
    · cases e

/-! ### tests, truth -/
/-- the truth of a datum -/
def T.tru : T → Option Bool
  | .non => some false
  | .bl b => some b
  | .int i => some (i != 0)
  | .str x => if x.length ≤ sizeLine then some ((x.length : Int) != 0) else none
  | .tup ts => some (!ts.isEmpty)
  | .lst ts => some (!ts.isEmpty)
  | .seq ts => some (!ts.isEmpty)
  | .tsq ts => some (!ts.isEmpty)
  | _ => none
def fTru (f : FX.Env → R Vl) : FX.Env → R Bool := fun ρ => (f ρ).norm.bind fun v ρ1 => R.ofB ((look ρ1 v).bind T.tru) ρ1
theorem isEmpty_len {α β : Type} {l : List α} {m : List β} (h : l.length = m.length) : l.isEmpty = m.isEmpty := by
  cases l <;> cases m <;> simp_all
theorem RepK.length {K : PySem.W.Frag} {mg : Str → Option Value} {F : Hp} : ∀ {vs : List (Key × V)} {ts : List (Key × T)}, RepK K mg F vs ts → vs.length = ts.length
  | _, _, .nil => rfl
  | _, _, .cons _ r => by simp [RepK.length r]
theorem RepT.length {K : PySem.W.Frag} {mg : Str → Option Value} {F : Hp} : ∀ {vs : List (List Key × V)} {ts : List (List Key × T)}, RepT K mg F vs ts → vs.length = ts.length
  | _, _, .nil => rfl
  | _, _, .cons _ r => by simp [RepT.length r]
theorem tru_v {F H : Hp} {x : V} {t : T} {b : Bool} (s : Same F H) (r : RepO X.K X.mg F H x t) (e : t.tru = some b) : TruV X.K x H b := by
  cases r with
  | non => cases e; rfl
  | bl c => cases e; rfl
  | int i => cases e; rfl
  | str z =>
    simp only [T.tru] at e
    split at e
    · rename_i hz; cases e; exact ⟨hz, rfl⟩
    · cases e
  | tup h r => cases e; exact .inr (.inl ⟨_, .of (s _ _ h), by rw [isEmpty_len r.length]⟩)
  | tsq h r => cases e; exact .inr (.inl ⟨_, sqT_mono s h, by rw [isEmpty_len r.length]⟩)
  | lst h r => cases e; exact .inl ⟨_, .of h, by rw [isEmpty_len r.length]⟩
  | seq h r => cases e; exact .inl ⟨_, h, by rw [isEmpty_len r.length]⟩
  | dK h r => cases e
  | dT h r => cases e
  | ins hc h r => cases e
  | fn h => cases e
  | ty n => cases e
  | dN h r => cases e
theorem rt_tru {a : Expr} {fa : FX.Env → R Vl} (ha : RE X au W a fa) (he : ∀ whole, isTrue a X.env whole = (do let v ← whole; standAt a.pos; holding [v] (truthy v)) := by intro _; rfl) : RT X au W a (fTru fa) := by
  refine ⟨PT.imp (pt_truth ha.pe he) fun σ H Q q => ?_⟩
  obtain ⟨F, ρ, S, h⟩ := q
  refine ⟨F, ρ, S, Post.bindN early_VB h fun x v ρ1 F1 H1 S1 X1 V1 h1 => ?_⟩
  cases e : look ρ1 v with
  | none => rw [e] at h1; exact h1.elim
  | some t =>
    rw [e] at h1
    cases e2 : t.tru with
    | none => simp only [Option.bind_some, e2] at h1; exact h1.elim
    | some b =>
      simp only [Option.bind_some, e2] at h1
      exact ⟨b, tru_v S1.sub (look_o S1 V1 e) e2, h1 b F1 H1 S1 (Xt.refl _ _ _ _) rfl⟩
/-- a test that gives True or False -/
def fTest (f : FX.Env → R Vl) : FX.Env → R Bool := fun ρ => (f ρ).norm.bind fun v ρ1 => match v with
  | .fz (.bl b) => .ok b ρ1
  | _ => .stuck
theorem rt_val {a : Expr} {fa : FX.Env → R Vl} (ha : RE X au W a fa) (he : ∀ whole, isTrue a X.env whole = (do let v ← whole; standAt a.pos; holding [v] (truthy v)) := by intro _; rfl) : RT X au W a (fTest fa) := by
  refine ⟨PT.imp (pt_val ha.pe he) fun σ H Q q => ?_⟩
  obtain ⟨F, ρ, S, h⟩ := q
  refine ⟨F, ρ, S, Post.bindN early_VB h fun x v ρ1 F1 H1 S1 X1 V1 h1 => ?_⟩
  split at h1
  · rename_i b
    cases (show Rep X.K X.mg F1 x (.bl b) from V1)
    exact ⟨b, rfl, h1 b F1 H1 S1 (Xt.refl _ _ _ _) rfl⟩
  · exact h1.elim
def fAnd (f g : FX.Env → R Bool) : FX.Env → R Bool := fun ρ => (f ρ).bind fun b ρ1 => if b = true then g ρ1 else .ok false ρ1
def fOr (f g : FX.Env → R Bool) : FX.Env → R Bool := fun ρ => (f ρ).bind fun b ρ1 => if b = true then .ok true ρ1 else g ρ1
def fNot (f : FX.Env → R Bool) : FX.Env → R Bool := fun ρ => (f ρ).map fun b => !b
structure RW (X : Cx) (au : Au) (W : WX) (e : Expr) (f : FX.Env → R Bool) : Prop where
  pw : PW X e (tF X au W VB f)
theorem PW.imp {e : Expr} {t t' : TT} (h : PW X e t) (i : ∀ σ H Q, t' σ H Q → t σ H Q) : PW X e t' := ⟨fun wh pins s σ H Q I q => h.run wh pins s σ H Q I (i σ H Q q)⟩
theorem RW.rt {e : Expr} {f : FX.Env → R Bool} (h : RW X au W e f) : RT X au W e f := ⟨h.pw.pt⟩
theorem and_of {f g : FX.Env → R Bool} {σ : L2.St} {H : Hp} {Q : Bool → Hp → Prop} (q : tF X au W VB (fAnd f g) σ H Q) : tAnd (tF X au W VB f) (tF X au W VB g) σ H Q := by
  obtain ⟨F, ρ, S, h⟩ := q
  refine ⟨F, ρ, S, Post.bind early_VB h fun b c ρ1 F1 H1 e S1 X1 V1 h1 => ?_⟩
  subst V1
  split at h1
  · rename_i hb; rw [if_pos hb]; exact ⟨F1, ρ1, S1, h1⟩
  · rename_i hb; rw [if_neg hb]; exact h1 false F1 H1 S1 (Xt.refl _ _ _ _) rfl
theorem or_of {f g : FX.Env → R Bool} {σ : L2.St} {H : Hp} {Q : Bool → Hp → Prop} (q : tF X au W VB (fOr f g) σ H Q) : tOr (tF X au W VB f) (tF X au W VB g) σ H Q := by
  obtain ⟨F, ρ, S, h⟩ := q
  refine ⟨F, ρ, S, Post.bind early_VB h fun b c ρ1 F1 H1 e S1 X1 V1 h1 => ?_⟩
  subst V1
  split at h1
  · rename_i hb; rw [if_pos hb]; exact h1 true F1 H1 S1 (Xt.refl _ _ _ _) rfl
  · rename_i hb; rw [if_neg hb]; exact ⟨F1, ρ1, S1, h1⟩
variable {a b c : Expr} {rest : List Expr} {fa fb fc : FX.Env → R Bool} {pos : Pos}
theorem rw_and1 (ha : RT X au W a fa) : RW X au W (.BoolOp .And [a] pos) fa := ⟨pw_and1 ha.pt⟩
theorem rw_or1 (ha : RT X au W a fa) : RW X au W (.BoolOp .Or [a] pos) fa := ⟨pw_or1 ha.pt⟩
theorem rw_and (ha : RT X au W a fa) (hb : RW X au W (.BoolOp .And (b :: rest) pos) fb) : RW X au W (.BoolOp .And (a :: b :: rest) pos) (fAnd fa fb) := ⟨PW.imp (pw_and ha.pt hb.pw) fun σ H Q q => and_of q⟩
theorem rw_or (ha : RT X au W a fa) (hb : RW X au W (.BoolOp .Or (b :: rest) pos) fb) : RW X au W (.BoolOp .Or (a :: b :: rest) pos) (fOr fa fb) := ⟨PW.imp (pw_or ha.pt hb.pw) fun σ H Q q => or_of q⟩
theorem not_of {f : FX.Env → R Bool} {σ : L2.St} {H : Hp} {Q : Bool → Hp → Prop} (q : tF X au W VB (fNot f) σ H Q) : tNot (tF X au W VB f) σ H Q := by
  obtain ⟨F, ρ, S, h⟩ := q
  refine ⟨F, ρ, S, ?_⟩
  unfold fNot at h
  cases e : f ρ with
  | stuck => rw [e] at h; exact h
  | err e' ρ1 => rw [e] at h; exact h
  | ok b ρ1 =>
    rw [e] at h
    exact fun x F1 H1 S1 X1 V1 => by
      have V1 : x = b := V1
      subst V1
      exact h (!x) F1 H1 S1 X1 rfl
theorem rt_not (ha : RT X au W a fa) : RT X au W (.UnaryOp .Not a pos) (fNot fa) := ⟨PT.imp (pt_not ha.pt) fun σ H Q q => not_of q⟩
/-! the same as values -/
def fAndV (f g : FX.Env → R Vl) : FX.Env → R Vl := fun ρ => (f ρ).norm.bind fun v ρ1 => match v with
  | .fz (.bl true) => g ρ1
  | .fz (.bl false) => .ok (.fz (.bl false)) ρ1
  | _ => .stuck
def fOrV (f g : FX.Env → R Vl) : FX.Env → R Vl := fun ρ => (f ρ).norm.bind fun v ρ1 => match v with
  | .fz (.bl true) => .ok (.fz (.bl true)) ρ1
  | .fz (.bl false) => g ρ1
  | _ => .stuck
def fNotV (f : FX.Env → R Vl) : FX.Env → R Vl := fun ρ => (f ρ).norm.bind fun v ρ1 => match v with
  | .fz (.bl b) => .ok (.fz (.bl (!b))) ρ1
  | _ => .stuck
variable {ea eb : FX.Env → R Vl}
theorem re_one {op} (h : RE X au W a ea) : RE X au W (.BoolOp op [a] pos) ea := ⟨pe_one h.pe⟩
theorem re_and (ha : RE X au W a ea) (hb : RE X au W (.BoolOp .And (b :: rest) pos) eb) : RE X au W (.BoolOp .And (a :: b :: rest) pos) (fAndV ea eb) := by
  refine ⟨PE.imp (pe_and ha.pe hb.pe) fun σ H Q q => ?_⟩
  obtain ⟨F, ρ, S, h⟩ := q
  refine ⟨F, ρ, S, Post.bindN early_VE h fun x v ρ1 F1 H1 S1 X1 V1 h1 => ?_⟩
  split at h1
  · cases (show Rep X.K X.mg F1 x (.bl true) from V1)
    exact ⟨true, rfl, by rw [if_pos rfl]; exact ⟨F1, ρ1, S1, h1⟩⟩
  · cases (show Rep X.K X.mg F1 x (.bl false) from V1)
    exact ⟨false, rfl, by rw [if_neg Bool.false_ne_true]; exact h1 _ F1 H1 S1 (Xt.refl _ _ _ _) (.bl _)⟩
  · exact h1.elim
theorem re_or (ha : RE X au W a ea) (hb : RE X au W (.BoolOp .Or (b :: rest) pos) eb) : RE X au W (.BoolOp .Or (a :: b :: rest) pos) (fOrV ea eb) := by
  refine ⟨PE.imp (pe_or ha.pe hb.pe) fun σ H Q q => ?_⟩
  obtain ⟨F, ρ, S, h⟩ := q
  refine ⟨F, ρ, S, Post.bindN early_VE h fun x v ρ1 F1 H1 S1 X1 V1 h1 => ?_⟩
  split at h1
  · cases (show Rep X.K X.mg F1 x (.bl true) from V1)
    exact ⟨true, rfl, by rw [if_pos rfl]; exact h1 _ F1 H1 S1 (Xt.refl _ _ _ _) (.bl _)⟩
  · cases (show Rep X.K X.mg F1 x (.bl false) from V1)
    exact ⟨false, rfl, by rw [if_neg Bool.false_ne_true]; exact ⟨F1, ρ1, S1, h1⟩⟩
  · exact h1.elim
theorem re_not (ha : RE X au W a ea) : RE X au W (.UnaryOp .Not a pos) (fNotV ea) := by
  refine ⟨PE.imp (pe_not ha.pe) fun σ H Q q => ?_⟩
  obtain ⟨F, ρ, S, h⟩ := q
  refine ⟨F, ρ, S, Post.bindN early_VE h fun x v ρ1 F1 H1 S1 X1 V1 h1 => ?_⟩
  split at h1
  · rename_i k
    cases (show Rep X.K X.mg F1 x (.bl k) from V1)
    exact ⟨k, rfl, h1 _ F1 H1 S1 (Xt.refl _ _ _ _) (.bl _)⟩
  · exact h1.elim
def fIf (f : FX.Env → R Bool) (g h : FX.Env → R Vl) : FX.Env → R Vl := fun ρ => (f ρ).bind fun b ρ1 => if b = true then g ρ1 else h ρ1
theorem re_if (hc : RT X au W c fc) (ha : RE X au W a ea) (hb : RE X au W b eb) : RE X au W (.IfExp c a b pos) (fIf fc ea eb) := by
  refine ⟨PE.imp (pe_ifExp hc.pt ha.pe hb.pe) fun σ H Q q => ?_⟩
  obtain ⟨F, ρ, S, h⟩ := q
  refine ⟨F, ρ, S, Post.bind early_VE h fun b c ρ1 F1 H1 e S1 X1 V1 h1 => ?_⟩
  subst V1
  split at h1
  · rename_i hb; rw [if_pos hb]; exact ⟨F1, ρ1, S1, h1⟩
  · rename_i hb; rw [if_neg hb]; exact ⟨F1, ρ1, S1, h1⟩
end
end FX
end

section
set_option Elab.async false
set_option linter.all false
set_option maxRecDepth 100000
set_option maxHeartbeats 4000000
namespace FX
open PySem PySem.Spec PyProof.Rows L2

section
variable {X : Cx} {au : Au} {W : WX}
/-! ### argument lists, displays -/
def fANil : FX.Env → R (List Vl) := fun ρ => .ok [] ρ
def fACons (f : FX.Env → R Vl) (g : FX.Env → R (List Vl)) : FX.Env → R (List Vl) := fun ρ => (f ρ).norm.bind fun v ρ1 => (g ρ1).bind fun vs ρ2 => .ok (v :: vs) ρ2
theorem ra_nil : RA X au W [] fANil := ⟨PA.imp pa_nil fun σ H Q ⟨F, ρ, S, h⟩ => h [] F H S (Xt.refl _ _ _ _) trivial⟩
theorem ra_cons {e : Expr} {es : List Expr} {f : FX.Env → R Vl} {g : FX.Env → R (List Vl)} (ha : RE X au W e f) (hr : RA X au W es g) (hs : starEach (e :: es) X.env = (false, eval e X.env) :: starEach es X.env := by rfl) : RA X au W (e :: es) (fACons f g) := by
  refine ⟨PA.imp (pa_cons ha.pe hr.pa hs) fun σ H Q ⟨F, ρ, S, h⟩ => ?_⟩
  exact ⟨F, ρ, S, Post.bindN early_VA h fun x v ρ1 F1 H1 S1 X1 V1 h1 => ⟨F1, ρ1, S1, Post.bind early_VA h1 fun xs vs ρ2 F2 H2 e S2 X2 V2 h2 => h2 (x :: xs) F2 H2 S2 (Xt.refl _ _ _ _) ⟨V1.mono X2.ff, V2⟩⟩⟩
/-- the arguments let out, then k -/
def fEsc {α : Type} (g : FX.Env → R (List Vl)) (k : List T → FX.Env → R α) : FX.Env → R α := fun ρ => (g ρ).bind fun vs ρ1 => match escs vs ρ1 with
  | some (ts, ρ2) => k ts ρ2
  | none => .stuck
theorem esc_post {γ δ : Type} {VR' : FX.Env → L2.St → Hp → Hp → Hp → δ → γ → Prop} (mono : Early VR') {g : FX.Env → R (List Vl)} {k : List T → FX.Env → R γ} {ρ : FX.Env} {σ : L2.St} {F H : Hp} {Q : δ → Hp → Prop} {Q1 : List V → Hp → Prop}
    (h : Post X au W VR' ρ σ F H (fEsc g k ρ) Q)
    (hk : ∀ xs ts ρ1 F1 H1, SRel X.K X.mg au ρ1 σ F1 H1 → Reps X.K X.mg F1 xs ts → Post X au W VR' ρ1 σ F1 H1 (k ts ρ1) Q → Q1 xs H1) : Post X au W (VA X) ρ σ F H (g ρ) Q1 := by
  refine Post.bind mono h fun xs vs ρ1 F1 H1 e S1 X1 V1 h1 => ?_
  cases e2 : escs vs ρ1 with
  | none => rw [e2] at h1; exact h1.elim
  | some p =>
    obtain ⟨ts, ρ2⟩ := p
    rw [e2] at h1
    obtain ⟨F2, S2, X2, r⟩ := escs_ok S1 V1 e2
    exact hk xs ts ρ2 F2 H1 S2 r (Post.step mono h1 X2)
def lim (n : Nat) (v : Nv) : Option Nv := if n ≤ 1000 then some v else none
def fTup (g : FX.Env → R (List Vl)) : FX.Env → R Vl := fEsc g fun ts ρ => R.of (lim ts.length (.fz (.tup ts))) ρ
def fLst (g : FX.Env → R (List Vl)) : FX.Env → R Vl := fEsc g fun ts ρ => R.of (lim ts.length (.own (.lst ts))) ρ
theorem lim_of {K : PySem.W.Frag} {mg : Str → Option Value} {F H : Hp} {n : Nat} {v : Nv} {Q : VK} (h : ResP K mg F H (lim n v) Q) : n ≤ 1000 ∧ ResP K mg F H (some v) Q := by
  unfold lim at h
  split at h
  · rename_i z; exact ⟨z, h⟩
  · exact h.elim
theorem le_line {n : Nat} (h : n ≤ 1000) : n ≤ sizeLine := by rw [sizeLine_eq]; omega
theorem re_tup {es : List Expr} {g : FX.Env → R (List Vl)} {x1 pos} (h : RA X au W es g) : RE X au W (.Tuple es x1 pos) (fTup g) := by
  refine ⟨PE.imp (pe_tup h.pa) fun σ H Q ⟨F, ρ, S, q⟩ => ?_⟩
  refine ⟨F, ρ, S, esc_post early_VE q fun xs ts ρ1 F1 H1 S1 r q1 => ?_⟩
  obtain ⟨hl, q2⟩ := lim_of (res_post S1 q1)
  exact ⟨le_line (by rw [r.length]; exact hl), fun p hp => q2.laid S1.sub hp (.tup upd_same (Reps.mono (same_upd (S1.sub.free hp)) r))⟩
theorem re_lst {es : List Expr} {g : FX.Env → R (List Vl)} {pos} (h : RA X au W es g) : RE X au W (.List es pos) (fLst g) := by
  refine ⟨PE.imp (pe_lst h.pa) fun σ H Q ⟨F, ρ, S, q⟩ => ?_⟩
  refine ⟨F, ρ, S, esc_post early_VE q fun xs ts ρ1 F1 H1 S1 r q1 => ?_⟩
  obtain ⟨hl, q2⟩ := lim_of (res_post S1 q1)
  exact ⟨le_line (by rw [r.length]; exact hl), fun p hp => q2.made S1.sub hp (.lst upd_same r)⟩
def fDK : FX.Env → R Vl := fun ρ => .ok (.own (.dK [])) ρ
def fDT : FX.Env → R Vl := fun ρ => .ok (.own (.dT [])) ρ
theorem re_dK {pos} : RE X au W (.Dict [] [] pos) fDK := by
  refine ⟨PE.imp pe_dnewK fun σ H Q ⟨F, ρ, S, q⟩ p hp => ?_⟩
  exact (res_post (r := some (.own (.dK []))) S q).made S.sub hp (.dK upd_same .nil)
theorem re_dT {pos} : RE X au W (.Dict [] [] pos) fDT := by
  refine ⟨PE.imp pe_dnewT fun σ H Q ⟨F, ρ, S, q⟩ p hp => ?_⟩
  exact (res_post (r := some (.own (.dT []))) S q).made S.sub hp (.dT upd_same .nil)

/-! ### operations -/
section
variable {F H : Hp} {x y : V} {t u : T}
def aAdd : T → T → Option Nv
  | .int i, .int j => some (.fz (.int (i + j)))
  | .str a, .str b => if a.length + b.length ≤ sizeLine then some (.fz (.str (a ++ b))) else none
  | .lst a, .lst b => if a.length + b.length ≤ sizeLine then some (.own (.lst (a ++ b))) else none
  | .tup a, .tup b => if a.length + b.length ≤ sizeLine then some (.fz (.tup (a ++ b))) else none
  | _, _ => none
def rAddA (K : PySem.W.Frag) : R2 := fun x y H Q => (rI0 fun i j => .int (i + j)) x y H Q ∨ (∃ i j, x = .str i ∧ y = .str j ∧ i.length + j.length ≤ sizeLine ∧ Q (.str (i ++ j)) H) ∨ rCat x y H Q ∨ rCatA K x y H Q
theorem op_addA : OpR X (binaryOp .Add) (rAddA X.K) := op_add.or (op_add_str.or (op_cat.or op_catA))
theorem o2_add : Op2 X (rAddA X.K) aAdd := by
  intro F H x y t u Q s rx ry q
  cases rx with
  | int i => cases ry with
    | int j => exact .inl ⟨i, j, rfl, rfl, q.flat s (.int _)⟩
    | _ => exact q.elim
  | str a => cases ry with
    | str b =>
      simp only [aAdd] at q
      split at q
      · rename_i h; exact .inr (.inl ⟨a, b, rfl, rfl, h, q.flat s (.str _)⟩)
      · exact q.elim
    | _ => exact q.elim
  | lst hx r => cases ry with
    | lst hy r' =>
      simp only [aAdd] at q
      split at q
      · rename_i h
        exact .inr (.inr (.inl ⟨_, _, _, _, rfl, rfl, hx, hy, by rw [r.length, r'.length]; exact h, fun p hp => q.made s hp (.lst upd_same (r.append r'))⟩))
      · exact q.elim
    | _ => exact q.elim
  | @tup a vs ts hx r => cases ry with
    | @tup b us ss hy r' =>
      simp only [aAdd] at q
      split at q
      · rename_i h
        refine .inr (.inr (.inr ⟨_, _, vs, us, rfl, rfl, .of (s _ _ hx), .of (s _ _ hy), by rw [r.length, r'.length]; exact h, fun e => ?_, fun _ e => ?_, fun _ _ p hp => ?_⟩))
        · subst e
          have e2 : ts = [] := List.length_eq_zero_iff.mp r.length.symm
          subst e2
          exact q.flat s (.tup hy r')
        · subst e
          have e2 : ss = [] := List.length_eq_zero_iff.mp r'.length.symm
          subst e2
          rw [List.append_nil] at q
          exact q.flat s (.tup hx r)
        · exact q.laid s hp (.tup upd_same (Reps.mono (same_upd (s.free hp)) (r.append r')))
      · exact q.elim
    | _ => exact q.elim
  | _ => exact q.elim
def aSub : T → T → Option Nv
  | .int i, .int j => some (.fz (.int (i - j)))
  | _, _ => none
theorem o2_sub : Op2 X (rI0 fun i j => .int (i - j)) aSub := by
  intro F H x y t u Q s rx ry q
  cases rx with
  | int i => cases ry with
    | int j => exact ⟨i, j, rfl, rfl, q.flat s (.int _)⟩
    | _ => exact q.elim
  | _ => exact q.elim
instance (i j : Int) : Decidable (CMul i j) := by unfold CMul; infer_instance
instance (i j : Int) : Decidable (CDiv i j) := by unfold CDiv; infer_instance
instance (i j : Int) : Decidable (CDivN i j) := by unfold CDivN; infer_instance
instance (i j : Int) : Decidable (CPow i j) := by unfold CPow; infer_instance
def aMul : T → T → Option Nv
  | .int i, .int j => if CMul i j then some (.fz (.int (i * j))) else none
  | .lst a, .int k => if 0 ≤ k ∧ k ≤ 100000 ∧ a.length * k.toNat ≤ sizeLine then some (.own (.lst (List.replicate k.toNat a).flatten)) else none
  | .tup a, .int k => if a ≠ [] ∧ 2 ≤ k ∧ k ≤ 1000 ∧ a.length ≤ 1000 then some (.fz (.tup (List.replicate k.toNat a).flatten)) else none
  | _, _ => none
def rMulA (K : PySem.W.Frag) : R2 := fun x y H Q => rI CMul (fun i j => .int (i * j)) x y H Q ∨ rRep x y H Q ∨ rRepT K x y H Q
theorem op_mulA : OpR X (binaryOp .Mult) (rMulA X.K) := op_mul.or (op_rep.or op_repT)
theorem o2_mul : Op2 X (rMulA X.K) aMul := by
  intro F H x y t u Q s rx ry q
  cases rx with
  | int i => cases ry with
    | int j =>
      simp only [aMul] at q
      split at q
      · rename_i h; exact .inl ⟨i, j, rfl, rfl, h, q.flat s (.int _)⟩
      · exact q.elim
    | _ => exact q.elim
  | lst hx r => cases ry with
    | int k =>
      simp only [aMul] at q
      split at q
      · rename_i h
        exact .inr (.inl ⟨_, k, _, rfl, rfl, hx, by omega, by omega, by rw [r.length]; exact h.2.2, fun p hp => q.made s hp (.lst upd_same (r.rep _))⟩)
      · exact q.elim
    | _ => exact q.elim
  | tup hx r => cases ry with
    | int k =>
      simp only [aMul] at q
      split at q
      · rename_i h
        refine .inr (.inr ⟨_, k, _, rfl, rfl, .of (s _ _ hx), fun e => h.1 ?_, h.2.1, h.2.2.1, by rw [r.length]; exact h.2.2.2, fun p hp => q.laid s hp (.tup upd_same (Reps.mono (same_upd (s.free hp)) (r.rep _)))⟩)
        subst e
        exact List.length_eq_zero_iff.mp r.length.symm
      · exact q.elim
    | _ => exact q.elim
  | _ => exact q.elim
/-- whole numbers alone, under a condition -/
def aI (C : Int → Int → Prop) [∀ i j, Decidable (C i j)] (g : Int → Int → Int) : T → T → Option Nv
  | .int i, .int j => if C i j then some (.fz (.int (g i j))) else none
  | _, _ => none
theorem o2_I (C : Int → Int → Prop) [∀ i j, Decidable (C i j)] (g : Int → Int → Int) : Op2 X (rI C fun i j => .int (g i j)) (aI C g) := by
  intro F H x y t u Q s rx ry q
  cases rx with
  | int i => cases ry with
    | int j =>
      simp only [aI] at q
      split at q
      · rename_i h; exact ⟨i, j, rfl, rfl, h, q.flat s (.int _)⟩
      · exact q.elim
    | _ => exact q.elim
  | _ => exact q.elim
abbrev aDiv := aI CDiv fun i j => i / j
abbrev aMod := aI (fun _ j => 0 < j) fun i j => i % j
abbrev aPow := aI CPow fun i j => i ^ j.toNat
end
section
variable {a b : Expr} {fa fb : FX.Env → R Vl} {pos : Pos}
theorem re_add (ha : RE X au W a fa) (hb : RE X au W b fb) : RE X au W (.BinOp a .Add b pos) (fBin aAdd fa fb) := re_bin op_addA o2_add ha hb
theorem re_sub (ha : RE X au W a fa) (hb : RE X au W b fb) : RE X au W (.BinOp a .Sub b pos) (fBin aSub fa fb) := re_bin op_sub o2_sub ha hb
theorem re_mul (ha : RE X au W a fa) (hb : RE X au W b fb) : RE X au W (.BinOp a .Mult b pos) (fBin aMul fa fb) := re_bin op_mulA o2_mul ha hb
theorem re_div (ha : RE X au W a fa) (hb : RE X au W b fb) : RE X au W (.BinOp a .FloorDiv b pos) (fBin aDiv fa fb) := re_bin op_fdiv (o2_I _ _) ha hb
theorem re_mod (ha : RE X au W a fa) (hb : RE X au W b fb) : RE X au W (.BinOp a .Mod b pos) (fBin aMod fa fb) := re_bin op_mod (o2_I _ _) ha hb
theorem re_pow (ha : RE X au W a fa) (hb : RE X au W b fb) : RE X au W (.BinOp a .Pow b pos) (fBin aPow fa fb) := re_bin op_pow (o2_I _ _) ha hb
def fNeg (f : FX.Env → R Vl) : FX.Env → R Vl := fun ρ => (f ρ).norm.bind fun v ρ1 => match v with
  | .fz (.int i) => .ok (.fz (.int (-i))) ρ1
  | _ => .stuck
theorem re_neg (ha : RE X au W a fa) : RE X au W (.UnaryOp .USub a pos) (fNeg fa) := by
  refine ⟨PE.imp (pe_un un_neg ha.pe) fun σ H Q q => ?_⟩
  obtain ⟨F, ρ, S, h⟩ := q
  refine ⟨F, ρ, S, Post.bindN early_VE h fun x v ρ1 F1 H1 S1 X1 V1 h1 => ?_⟩
  split at h1
  · rename_i i
    cases (show Rep X.K X.mg F1 x (.int i) from V1)
    exact ⟨i, rfl, h1 _ F1 H1 S1 (Xt.refl _ _ _ _) (.int _)⟩
  · exact h1.elim
end

/-! ### comparisons -/
section
def cI (p : Int → Int → Bool) : T → T → Option Bool
  | .int i, .int j => some (p i j)
  | _, _ => none
theorem c2_I (p : Int → Int → Bool) : Cm2 X (rI0 fun i j => .bl (p i j)) (cI p) := by
  intro F H x y t u Q b s rx ry e q
  cases rx with
  | int i => cases ry with
    | int j => cases e; exact ⟨i, j, rfl, rfl, q⟩
    | _ => cases e
  | _ => cases e
def cEq (t u : T) : Option Bool := match t.toD, u.toD with
  | some d, some e => if SeqAt.shaped d = true ∧ SeqAt.shaped e = true then some (PyData.eqv d e) else none
  | _, _ => none
theorem c2_eq : Cm2 X (rEqD X.K) cEq := by
  intro F H x y t u Q b s rx ry e q
  unfold cEq at e
  split at e
  · rename_i d1 d2 e1 e2
    split at e
    · rename_i h; cases e
      exact ⟨d1, d2, (rx.rep s).dp e1, (ry.rep s).dp e2, h.1, h.2, q⟩
    · cases e
  · cases e
def cNe (t u : T) : Option Bool := (cEq t u).map fun b => !b
theorem c2_ne : Cm2 X (rNeD X.K) cNe := by
  intro F H x y t u Q b s rx ry e q
  unfold cNe cEq at e
  split at e
  · rename_i d1 d2 e1 e2
    split at e
    · rename_i h; cases e
      exact ⟨d1, d2, (rx.rep s).dp e1, (ry.rep s).dp e2, h.1, h.2, q⟩
    · cases e
  · cases e
/-- is None -/
def cIsN (t u : T) : Option Bool := match u with
  | .non => match t with
    | .non => some true
    | _ => some false
  | _ => none
theorem isN_v {F H : Hp} {x : V} {t : T} {b : Bool} (r : RepO X.K X.mg F H x t) (e : cIsN t .non = some b) : decide (x = .non) = b := by
  cases r <;> cases e <;> simp
theorem c2_isN : Cm2 X (fun x y H Q => y = .non ∧ Q (.bl (decide (x = .non))) H) cIsN := by
  intro F H x y t u Q b s rx ry e q
  cases ry with
  | non => exact ⟨rfl, by rw [isN_v rx e]; exact q⟩
  | _ => cases e
def cNotN (t u : T) : Option Bool := (cIsN t u).map fun b => !b
theorem c2_notN : Cm2 X (fun x y H Q => y = .non ∧ Q (.bl (!decide (x = .non))) H) cNotN := by
  intro F H x y t u Q b s rx ry e q
  unfold cNotN at e
  rw [Option.map_eq_some_iff] at e
  obtain ⟨c, e1, e2⟩ := e
  cases ry with
  | non => exact ⟨rfl, by rw [isN_v rx e1, e2]; exact q⟩
  | _ => cases e1
end
end
end FX
end

section
set_option Elab.async false
set_option linter.all false
set_option maxRecDepth 100000
set_option maxHeartbeats 4000000
namespace FX
open PySem PySem.Spec PyProof.Rows L2

/-! ### keys -/
def T.key : T → Option Key
  | .int i => some (.inl i)
  | .str x => some (.inr x)
  | _ => none
def keysT : List T → Option (List Key)
  | [] => some []
  | t :: ts => match t.key, keysT ts with
    | some k, some ks => some (k :: ks)
    | _, _ => none
/-- the key of a dict whose keys are tuples -/
def T.keyT : T → Option (List Key)
  | .tup ts => keysT ts
  | _ => none
def keyT : Key → T
  | .inl i => .int i
  | .inr x => .str x
def valT {κ : Type} [DecidableEq κ] (kvs : List (κ × T)) (k : κ) : Option T := (kvs.find? fun kv => decide (kv.1 = k)).map (·.2)
def putT {κ : Type} [DecidableEq κ] (kvs : List (κ × T)) (k : κ) (v : T) : List (κ × T) :=
  if kvs.any fun kv => decide (kv.1 = k) then kvs.map fun kv => if kv.1 = k then (kv.1, v) else kv else kvs ++ [(k, v)]
section
variable {K : PySem.W.Frag} {mg : Str → Option Value} {F H : Hp}
theorem key_v {v : V} {t : T} {k : Key} (r : Rep K mg F v t) (e : t.key = some k) : v = kV k := by
  cases r <;> cases e <;> rfl
theorem keys_v : ∀ {vs : List V} {ts : List T} {ks : List Key}, Reps K mg F vs ts → keysT ts = some ks → vs = ks.map kV
  | _, _, _, .nil, e => by cases e; rfl
  | _, _, _, .cons h r, e => by
    simp only [keysT] at e
    split at e
    · rename_i k ks e1 e2
      cases e
      rw [key_v h e1, keys_v r e2]
      rfl
    · cases e
theorem keyT_rep (k : Key) : Rep K mg F (kV k) (keyT k) := by
  cases k with
  | inl i => exact .int i
  | inr x => exact .str x
theorem RepK.val {k : Key} : ∀ {vs : List (Key × V)} {ts : List (Key × T)}, RepK K mg F vs ts → (valT ts k = none → valV vs k = none) ∧ ∀ t, valT ts k = some t → ∃ v, valV vs k = some v ∧ Rep K mg F v t
  | _, _, .nil => ⟨fun _ => rfl, fun t h => by simp [valT] at h⟩
  | _, _, .cons (k := k') (v := v') (t := t') (vs := vs) (ts := ts) h r => by
    by_cases e : k' = k
    · subst e
      refine ⟨fun z => by simp [valT, List.find?_cons] at z, fun t z => ?_⟩
      have z' : t' = t := by simpa [valT, List.find?_cons] using z
      subst z'
      exact ⟨v', valV_pos rfl, h⟩
    · have e1 : valT ((k', t') :: ts) k = valT ts k := by simp [valT, List.find?_cons, e]
      have e2 : valV ((k', v') :: vs) k = valV vs k := valV_neg e
      rw [e1, e2]
      exact RepK.val r
theorem RepT.val {k : List Key} : ∀ {vs : List (List Key × V)} {ts : List (List Key × T)}, RepT K mg F vs ts → (valT ts k = none → valV vs k = none) ∧ ∀ t, valT ts k = some t → ∃ v, valV vs k = some v ∧ Rep K mg F v t
  | _, _, .nil => ⟨fun _ => rfl, fun t h => by simp [valT] at h⟩
  | _, _, .cons (k := k') (v := v') (t := t') (vs := vs) (ts := ts) h r => by
    by_cases e : k' = k
    · subst e
      refine ⟨fun z => by simp [valT, List.find?_cons] at z, fun t z => ?_⟩
      have z' : t' = t := by simpa [valT, List.find?_cons] using z
      subst z'
      exact ⟨v', valV_pos rfl, h⟩
    · have e1 : valT ((k', t') :: ts) k = valT ts k := by simp [valT, List.find?_cons, e]
      have e2 : valV ((k', v') :: vs) k = valV vs k := valV_neg e
      rw [e1, e2]
      exact RepT.val r
theorem RepK.any {k : Key} : ∀ {vs : List (Key × V)} {ts : List (Key × T)}, RepK K mg F vs ts → (vs.any fun kv => decide (kv.1 = k)) = ts.any fun kv => decide (kv.1 = k)
  | _, _, .nil => rfl
  | _, _, .cons h r => by simp [List.any_cons, RepK.any r]
theorem RepT.any {k : List Key} : ∀ {vs : List (List Key × V)} {ts : List (List Key × T)}, RepT K mg F vs ts → (vs.any fun kv => decide (kv.1 = k)) = ts.any fun kv => decide (kv.1 = k)
  | _, _, .nil => rfl
  | _, _, .cons h r => by simp [List.any_cons, RepT.any r]
theorem RepK.repl {k : Key} {v : V} {t : T} (hv : Rep K mg F v t) : ∀ {vs : List (Key × V)} {ts : List (Key × T)}, RepK K mg F vs ts → RepK K mg F (vs.map fun kv => if kv.1 = k then (kv.1, v) else kv) (ts.map fun kv => if kv.1 = k then (kv.1, t) else kv)
  | _, _, .nil => .nil
  | _, _, .cons (k := k') h r => by
    simp only [List.map_cons]
    by_cases e : k' = k
    · rw [if_pos e, if_pos e]; exact .cons hv (RepK.repl hv r)
    · rw [if_neg e, if_neg e]; exact .cons h (RepK.repl hv r)
theorem RepT.repl {k : List Key} {v : V} {t : T} (hv : Rep K mg F v t) : ∀ {vs : List (List Key × V)} {ts : List (List Key × T)}, RepT K mg F vs ts → RepT K mg F (vs.map fun kv => if kv.1 = k then (kv.1, v) else kv) (ts.map fun kv => if kv.1 = k then (kv.1, t) else kv)
  | _, _, .nil => .nil
  | _, _, .cons (k := k') h r => by
    simp only [List.map_cons]
    by_cases e : k' = k
    · rw [if_pos e, if_pos e]; exact .cons hv (RepT.repl hv r)
    · rw [if_neg e, if_neg e]; exact .cons h (RepT.repl hv r)
theorem RepK.snoc {k : Key} {v : V} {t : T} (hv : Rep K mg F v t) : ∀ {vs : List (Key × V)} {ts : List (Key × T)}, RepK K mg F vs ts → RepK K mg F (vs ++ [(k, v)]) (ts ++ [(k, t)])
  | _, _, .nil => .cons hv .nil
  | _, _, .cons h r => .cons h (RepK.snoc hv r)
theorem RepT.snoc {k : List Key} {v : V} {t : T} (hv : Rep K mg F v t) : ∀ {vs : List (List Key × V)} {ts : List (List Key × T)}, RepT K mg F vs ts → RepT K mg F (vs ++ [(k, v)]) (ts ++ [(k, t)])
  | _, _, .nil => .cons hv .nil
  | _, _, .cons h r => .cons h (RepT.snoc hv r)
theorem RepK.put {k : Key} {v : V} {t : T} (hv : Rep K mg F v t) {vs : List (Key × V)} {ts : List (Key × T)} (r : RepK K mg F vs ts) : RepK K mg F (putK vs k v) (putT ts k t) := by
  unfold putK putT
  rw [r.any]
  split
  · exact r.repl hv
  · exact r.snoc hv
theorem RepT.put {k : List Key} {v : V} {t : T} (hv : Rep K mg F v t) {vs : List (List Key × V)} {ts : List (List Key × T)} (r : RepT K mg F vs ts) : RepT K mg F (putK vs k v) (putT ts k t) := by
  unfold putK putT
  rw [r.any]
  split
  · exact r.repl hv
  · exact r.snoc hv
end

section
variable {X : Cx} {au : Au} {W : WX}
/-! ### order of data -/
def isNone : PyData → Bool
  | .none => true
  | _ => false
def rLtD (K : PySem.W.Frag) : R2 := fun x y H Q => ∃ d e, Dp K H x d ∧ Dp K H y e ∧ PySem.W.alike d e = true ∧ isNone d = false ∧ PyData.depth d ≤ 64 ∧ Q (.bl (PySem.W.dataLt d e)) H
theorem op_ltD (hu : X.A.units + 64 < cLine) : OpR X (compareOp .Lt) (rLtD X.K) := by
  intro pins s σ H x y v u Q I rx ry h
  obtain ⟨d, e, hd, he, al, hn, dp, q⟩ := h
  obtain ⟨as, r1⟩ := Dp.reads I d x v hd rx
  obtain ⟨bs, r2⟩ := Dp.reads I e y u he ry
  refine PySem.W.rcLt_alike d e X.A s v u as bs r1 r2 al (fun z => by rw [z] at hn; cases hn) ?_ X.prog X.w X.xe _ ⟨.bl _, H, I, rfl, q⟩
  have := Nat.min_le_left d.depth e.depth
  omega
def cLtD (t u : T) : Option Bool := match t.toD, u.toD with
  | some d, some e => if PySem.W.alike d e = true ∧ isNone d = false ∧ PyData.depth d ≤ 64 then some (PySem.W.dataLt d e) else none
  | _, _ => none
theorem c2_ltD : Cm2 X (rLtD X.K) cLtD := by
  intro F H x y t u Q b s rx ry e q
  unfold cLtD at e
  split at e
  · rename_i d1 d2 e1 e2
    split at e
    · rename_i h; cases e
      exact ⟨d1, d2, (rx.rep s).dp e1, (ry.rep s).dp e2, h.1, h.2.1, h.2.2, q⟩
    · cases e
  · cases e
/-! ### in -/
def T.fl : T → Option V
  | .non => some .non
  | .bl b => some (.bl b)
  | .int i => some (.int i)
  | .str x => some (.str x)
  | _ => none
def fls : List T → Option (List V)
  | [] => some []
  | t :: ts => match t.fl, fls ts with
    | some v, some vs => some (v :: vs)
    | _, _ => none
theorem fl_v {K : PySem.W.Frag} {mg : Str → Option Value} {F : Hp} {v w : V} {t : T} (r : Rep K mg F v t) (e : t.fl = some w) : v = w ∧ flatV w = true := by
  cases r <;> cases e <;> exact ⟨rfl, rfl⟩
theorem fls_v {K : PySem.W.Frag} {mg : Str → Option Value} {F : Hp} : ∀ {vs ws : List V} {ts : List T}, Reps K mg F vs ts → fls ts = some ws → vs = ws ∧ ws.all flatV = true
  | _, _, _, .nil, e => by cases e; exact ⟨rfl, rfl⟩
  | _, _, _, .cons h r, e => by
    simp only [fls] at e
    split at e
    · rename_i k ks e1 e2
      cases e
      obtain ⟨a, b⟩ := fl_v h e1
      obtain ⟨c, d⟩ := fls_v r e2
      subst a; subst c
      exact ⟨rfl, by rw [List.all_cons, b, d]; rfl⟩
    · cases e
theorem o_rep {F H : Hp} {x : V} {t : T} (s : Same F H) (r : RepO X.K X.mg F H x t) : Rep X.K X.mg H x t := r.rep s
def T.items : T → Option (List T)
  | .tup ts => some ts
  | .lst ts => some ts
  | .seq ts => some ts
  | .tsq ts => some ts
  | _ => none
def cInF (neg : Bool) (t u : T) : Option Bool := match t.fl, u.items with
  | some x, some ts => match fls ts with
    | some xs => some (if neg then !inV x xs else inV x xs)
    | none => none
  | _, _ => none
theorem items_sq {F H : Hp} {x : V} {t : T} {ts : List T} (s : Same F H) (r : RepO X.K X.mg F H x t) (e : t.items = some ts) : ∃ p vs, x = .ref p ∧ (SqL X.K H p vs ∨ SqT X.K H p vs) ∧ Reps X.K X.mg F vs ts := by
  cases r <;> cases e
  · rename_i a vs h r; exact ⟨a, vs, rfl, .inr (.of (s _ _ h)), r⟩
  · rename_i a vs h r; exact ⟨a, vs, rfl, .inr (sqT_mono s h), r⟩
  · rename_i a vs h r; exact ⟨a, vs, rfl, .inl (.of h), r⟩
  · rename_i a vs h r; exact ⟨a, vs, rfl, .inl h, r⟩
theorem c2_inF (neg : Bool) : Cm2 X (rIn X.K neg) (cInF neg) := by
  intro F H x y t u Q b s rx ry e q
  unfold cInF at e
  split at e
  · rename_i x' ts e1 e2
    split at e
    · rename_i xs e3
      cases e
      obtain ⟨a, fx⟩ := fl_v (rx.rep s) e1
      obtain ⟨p, vs, ey, sq, r⟩ := items_sq s ry e2
      obtain ⟨c, fa⟩ := fls_v r e3
      subst a; subst c
      exact ⟨p, vs, ey, sq, fx, fa, q⟩
    · cases e
  · cases e
def cInD (neg : Bool) (t u : T) : Option Bool := match t.toD, u.toD with
  | some d, some (.list ds) => if SeqAt.shaped d = true ∧ SeqAt.shaped (.list ds) = true then some (if neg then !(ds.any fun z => PyData.eqv z d) else ds.any fun z => PyData.eqv z d) else none
  | _, _ => none
theorem c2_inD : Cm2 X (rInD X.K) (cInD false) := by
  intro F H x y t u Q b s rx ry e q
  unfold cInD at e
  split at e
  · rename_i d ds e1 e2
    split at e
    · rename_i h; cases e
      exact ⟨d, ds, (rx.rep s).dp e1, (ry.rep s).dp e2, h.1, h.2, q⟩
    · cases e
  · cases e
theorem c2_notInD : Cm2 X (rNotInD X.K) (cInD true) := by
  intro F H x y t u Q b s rx ry e q
  unfold cInD at e
  split at e
  · rename_i d ds e1 e2
    split at e
    · rename_i h; cases e
      exact ⟨d, ds, (rx.rep s).dp e1, (ry.rep s).dp e2, h.1, h.2, q⟩
    · cases e
  · cases e
def cInS (neg : Bool) (t u : T) : Option Bool := match t, u with
  | .str i, .str j => some (if neg then !(!(Builtin.Str.occurrences j i 0 j.length 1).isEmpty) else !(Builtin.Str.occurrences j i 0 j.length 1).isEmpty)
  | _, _ => none
/-- what a dict holds at a key -/
def dGet (d k : T) : Option (Option T) := match d with
  | .dK kvs => k.key.map (valT kvs)
  | .dT kvs => k.keyT.map (valT kvs)
  | _ => none
def ValR (K : PySem.W.Frag) (mg : Str → Option Value) (F : Hp) (o : Option T) (w : Option V) : Prop := (o = none → w = none) ∧ ∀ t, o = some t → ∃ v, w = some v ∧ Rep K mg F v t
theorem dGet_v {F H : Hp} {x y : V} {d k : T} {o : Option T} (s : Same F H) (rx : RepO X.K X.mg F H x d) (ry : RepO X.K X.mg F H y k) (e : dGet d k = some o) :
    ∃ a w, x = .ref a ∧ DGet H a y w ∧ ValR X.K X.mg F o w := by
  unfold dGet at e
  split at e
  · rename_i kvs
    obtain ⟨k', e1, e2⟩ := Option.map_eq_some_iff.mp e
    cases rx with
    | dK h r =>
      have ey := key_v (ry.rep s) e1
      refine ⟨_, _, rfl, .inl ⟨_, k', h, ey, rfl⟩, ?_⟩
      subst e2
      exact r.val
  · rename_i kvs
    obtain ⟨k', e1, e2⟩ := Option.map_eq_some_iff.mp e
    cases rx with
    | dT h r =>
      cases ry with
      | tup hy ry =>
        have ey := keys_v ry e1
        subst ey
        refine ⟨_, _, rfl, .inr ⟨_, k', _, h, rfl, s _ _ hy, rfl⟩, ?_⟩
        subst e2
        exact r.val
      | _ => cases e1
  · cases e
def rInDict (neg : Bool) : R2 := fun y x H Q => ∃ a o, x = .ref a ∧ DGet H a y o ∧ Q (.bl (if neg then !o.isSome else o.isSome)) H
theorem op_inDict (hu : X.A.units + 1 < cLine) : OpR X (compareOp .In) (rInDict false) := by
  intro pins s σ H y x u v Q I ry rx h
  obtain ⟨a, o, rfl, g, q⟩ := h
  cases rx
  exact d_in hu I g ry fun s3 I3 => ⟨.bl o.isSome, H, I3, rfl, q⟩
theorem op_notInDict (hu : X.A.units + 1 < cLine) : OpR X (compareOp .NotIn) (rInDict true) := by
  intro pins s σ H y x u v Q I ry rx h
  obtain ⟨a, o, rfl, g, q⟩ := h
  cases rx
  exact d_notIn hu I g ry fun s3 I3 => ⟨.bl (!o.isSome), H, I3, rfl, q⟩
def cInK (neg : Bool) (k d : T) : Option Bool := (dGet d k).map fun o => if neg then !o.isSome else o.isSome
theorem c2_inK (neg : Bool) : Cm2 X (rInDict neg) (cInK neg) := by
  intro F H y x k d Q b s ry rx e q
  unfold cInK at e
  obtain ⟨o, e1, e2⟩ := Option.map_eq_some_iff.mp e
  obtain ⟨a, w, ex, g, h⟩ := dGet_v s rx ry e1
  refine ⟨a, w, ex, g, ?_⟩
  subst e2
  cases o with
  | none => rw [h.1 rfl]; exact q
  | some t =>
    obtain ⟨v, ev, _⟩ := h.2 t rfl
    rw [ev]; exact q
def orB (g g' : T → T → Option Bool) : T → T → Option Bool := fun t u => match g t u with | some v => some v | none => g' t u
theorem Cm2.orB {r r' : R2} {g g' : T → T → Option Bool} (h : Cm2 X r g) (h' : Cm2 X r' g') : Cm2 X (fun x y H Q => r x y H Q ∨ r' x y H Q) (orB g g') := h.or h'
theorem c2_inS : Cm2 X (fun x y H Q => ∃ i j, x = .str i ∧ y = .str j ∧ Q (.bl (!(Builtin.Str.occurrences j i 0 j.length 1).isEmpty)) H) (cInS false) := by
  intro F H x y t u Q b s rx ry e q
  cases rx with
  | str i => cases ry with
    | str j => cases e; exact ⟨i, j, rfl, rfl, q⟩
    | _ => cases e
  | _ => cases e
theorem c2_notInS : Cm2 X (fun x y H Q => ∃ i j, x = .str i ∧ y = .str j ∧ Q (.bl (!(!(Builtin.Str.occurrences j i 0 j.length 1).isEmpty))) H) (cInS true) := by
  intro F H x y t u Q b s rx ry e q
  cases rx with
  | str i => cases ry with
    | str j => cases e; exact ⟨i, j, rfl, rfl, q⟩
    | _ => cases e
  | _ => cases e
abbrev cIn : T → T → Option Bool := orB (cInF false) (orB (cInK false) (orB (cInD false) (cInS false)))
abbrev cNotIn : T → T → Option Bool := orB (cInF true) (orB (cInK true) (orB (cInD true) (cInS true)))
abbrev cLt : T → T → Option Bool := orB (cI fun i j => decide (i < j)) cLtD
section
variable {a b c : Expr} {fa fb fc : FX.Env → R Vl} {pos : Pos} {k : Nat}
theorem op_inA (hr : Room k X.A) (hu : X.A.units + 65 < cLine) : OpR X (compareOp .In) (fun x y H Q => rIn X.K false x y H Q ∨ rInDict false x y H Q ∨ rInD X.K x y H Q ∨ ∃ i j, x = .str i ∧ y = .str j ∧ Q (.bl (!(Builtin.Str.occurrences j i 0 j.length 1).isEmpty)) H) :=
  op_in_seq.or ((op_inDict (hu_of hr)).or ((op_inD hu).or op_in_str))
theorem op_notInA (hr : Room k X.A) (hu : X.A.units + 65 < cLine) : OpR X (compareOp .NotIn) (fun x y H Q => rIn X.K true x y H Q ∨ rInDict true x y H Q ∨ rNotInD X.K x y H Q ∨ ∃ i j, x = .str i ∧ y = .str j ∧ Q (.bl (!(!(Builtin.Str.occurrences j i 0 j.length 1).isEmpty))) H) :=
  op_notIn_seq.or ((op_notInDict (hu_of hr)).or ((op_notInD hu).or op_notin_str))
theorem c2_in : Cm2 X (fun x y H Q => rIn X.K false x y H Q ∨ rInDict false x y H Q ∨ rInD X.K x y H Q ∨ ∃ i j, x = .str i ∧ y = .str j ∧ Q (.bl (!(Builtin.Str.occurrences j i 0 j.length 1).isEmpty)) H) cIn := (c2_inF false).orB ((c2_inK false).orB (c2_inD.orB c2_inS))
theorem c2_notIn : Cm2 X (fun x y H Q => rIn X.K true x y H Q ∨ rInDict true x y H Q ∨ rNotInD X.K x y H Q ∨ ∃ i j, x = .str i ∧ y = .str j ∧ Q (.bl (!(!(Builtin.Str.occurrences j i 0 j.length 1).isEmpty))) H) cNotIn := (c2_inF true).orB ((c2_inK true).orB (c2_notInD.orB c2_notInS))
theorem Room.u65 (hr : Room k X.A) : X.A.units + 65 < cLine := by have := hr.un; omega
theorem op_ltA (hr : Room k X.A) : OpR X (compareOp .Lt) (fun x y H Q => rI0 (fun i j => .bl (decide (i < j))) x y H Q ∨ rLtD X.K x y H Q) := op_lt.or (op_ltD hr.units)
theorem c2_lt : Cm2 X (fun x y H Q => rI0 (fun i j => .bl (decide (i < j))) x y H Q ∨ rLtD X.K x y H Q) cLt := (c2_I _).orB c2_ltD

/-! ### subscripts -/
def rIxD : R2 := fun x y H Q => ∃ a v, x = .ref a ∧ DGet H a y (some v) ∧ Q v H
theorem ix_dict (hu : X.A.units + 1 < cLine) : IxR X rIxD := by
  intro value slice pins s σ H x y v u Q I rx ry h hs
  obtain ⟨a, z, rfl, g, q⟩ := h
  cases rx
  exact tail_any (dict_typeIs I g) PySem.F.slot_dict_getitem.lookup (d_getItem hu I g ry fun w' s' I' r' => ⟨z, H, I', r', q⟩) hs
def aIxS (ts : List T) (u : T) : Option Nv := match u with
  | .int i => (atI ts i).map .fz
  | _ => none
def aIx (t u : T) : Option Nv := match t with
  | .tup ts => aIxS ts u
  | .lst ts => aIxS ts u
  | .seq ts => aIxS ts u
  | .tsq ts => aIxS ts u
  | .str z => match u with
    | .int i => if z.length ≤ sizeLine then (atI z.cps.toList i).map fun c => .fz (.str ⟨#[c]⟩) else none
    | _ => none
  | _ => match dGet t u with
    | some (some w) => some (.fz w)
    | _ => none
theorem Reps.atI {K : PySem.W.Frag} {mg : Str → Option Value} {F : Hp} {vs : List V} {ts : List T} (r : Reps K mg F vs ts) {i : Int} {t : T} (h : L2.atI ts i = some t) : ∃ v, L2.atI vs i = some v ∧ Rep K mg F v t := by
  unfold L2.atI at h ⊢
  rw [r.length]
  cases e : ixN ts.length i with
  | none => rw [e] at h; cases h
  | some j =>
    rw [e] at h
    exact r.get h
theorem o2_ix : Op2 X (fun x y H Q => rIx X.K x y H Q ∨ rIxD x y H Q) aIx := by
  intro F H x y t u Q s rx ry q
  have seq : ∀ {ts : List T} {vs : List V} {p : Addr}, x = .ref p → (SqL X.K H p vs ∨ SqT X.K H p vs) → Reps X.K X.mg F vs ts → ResP X.K X.mg F H (aIxS ts u) Q → rIx X.K x y H Q := by
    intro ts vs p ex sq r q
    subst ex
    cases ry with
    | int i =>
      cases e : atI ts i with
      | none => simp only [aIxS, e] at q; exact q.elim
      | some w =>
        simp only [aIxS, e] at q
        obtain ⟨v, ev, rv⟩ := r.atI e
        rcases sq with sq | sq
        · exact .inl ⟨p, vs, i, v, rfl, rfl, sq, ev, q.flat s rv⟩
        · exact .inr (.inl ⟨p, vs, i, v, rfl, rfl, sq, ev, q.flat s rv⟩)
    | _ => exact q.elim
  have dic : ResP X.K X.mg F H (match dGet t u with | some (some w) => some (Nv.fz w) | _ => none) Q → rIxD x y H Q := by
    intro q
    split at q
    · rename_i w e
      obtain ⟨a, w', ex, g, hv⟩ := dGet_v s rx ry e
      obtain ⟨v, ev, r⟩ := hv.2 w rfl
      subst ev
      exact ⟨a, v, ex, g, q.flat s r⟩
    · exact q.elim
  cases rx with
  | tup h r => exact .inl (seq rfl (.inr (.of (s _ _ h))) r q)
  | lst h r => exact .inl (seq rfl (.inl (.of h)) r q)
  | seq h r => exact .inl (seq rfl (.inl h) r q)
  | tsq h r => exact .inl (seq rfl (.inr (sqT_mono s h)) r q)
  | str z =>
    cases ry with
    | int i =>
      simp only [aIx] at q
      split at q
      · rename_i hz
        cases e : atI z.cps.toList i with
        | none => rw [e] at q; exact q.elim
        | some c => rw [e] at q; exact .inl (.inr (.inr ⟨z, i, c, rfl, rfl, hz, e, q.flat s (.str _)⟩))
      · exact q.elim
    | _ => exact q.elim
  | non => exact .inr (dic q)
  | bl b => exact .inr (dic q)
  | int i => exact .inr (dic q)
  | dK h r => exact .inr (dic q)
  | dT h r => exact .inr (dic q)
  | ins hc h r => exact .inr (dic q)
  | fn h => exact .inr (dic q)
  | ty n => exact .inr (dic q)
  | dN h r => exact .inr (dic q)
theorem re_ix (hr : Room k X.A) (ha : RE X au W a fa) (hb : RE X au W b fb) (hs : PlainIx b := by exact fun _ _ => rfl) : RE X au W (.Subscript a b pos) (fBin aIx fa fb) :=
  ⟨PE.imp (pe_ix (ix_seq.or (ix_dict (hu_of hr))) ha.pe hb.pe hs) fun σ H Q q => bin_of o2_ix q⟩
end
end
end FX
end

section
set_option Elab.async false
set_option linter.all false
set_option maxRecDepth 100000
set_option maxHeartbeats 4000000
namespace FX
open PySem PySem.Spec PyProof.Rows L2

inductive RepOs (K : PySem.W.Frag) (mg : Str → Option Value) (F H : Hp) : List V → List T → Prop
  | nil : RepOs K mg F H [] []
  | cons {v : V} {t : T} {vs : List V} {ts : List T} (h : RepO K mg F H v t) (r : RepOs K mg F H vs ts) : RepOs K mg F H (v :: vs) (t :: ts)
def looks (ρ : FX.Env) : List Vl → Option (List T)
  | [] => some []
  | v :: vs => match look ρ v, looks ρ vs with
    | some t, some ts => some (t :: ts)
    | _, _ => none
section
variable {X : Cx} {au : Au} {W : WX}
theorem looks_o {ρ : FX.Env} {σ : L2.St} {F H : Hp} (S : SRel X.K X.mg au ρ σ F H) : ∀ {xs : List V} {vs : List Vl} {ts : List T}, VRels X.K X.mg σ F xs vs → looks ρ vs = some ts → RepOs X.K X.mg F H xs ts
  | [], [], _, _, e => by cases e; exact .nil
  | x :: xs, v :: vs, ts, h, e => by
    simp only [looks] at e
    split at e
    · rename_i t ts' e1 e2
      cases e
      exact .cons (look_o (v := v) S h.1 e1) (looks_o S h.2 e2)
    · cases e
  | [], _ :: _, _, h, _ => h.elim
  | _ :: _, [], _, h, _ => h.elim
/-- a call's reading r does what g says -/
def Ca (X : Cx) (r : List V → Hp → VK → Prop) (g : List T → Option Nv) : Prop := ∀ F H xs ts Q, Same F H → RepOs X.K X.mg F H xs ts → ResP X.K X.mg F H (g ts) Q → r xs H Q
def fCB (g : List T → Option Nv) (fa : FX.Env → R (List Vl)) : FX.Env → R Vl := fun ρ => (fa ρ).bind fun vs ρ1 => R.of ((looks ρ1 vs).bind g) ρ1
theorem cb_of {r : List V → Hp → VK → Prop} {g : List T → Option Nv} {fa : FX.Env → R (List Vl)} (hs : Ca X r g) {σ : L2.St} {H : Hp} {Q : VK} (q : tF X au W (VE X) (fCB g fa) σ H Q) : tCB r (tF X au W (VA X) fa) σ H Q := by
  obtain ⟨F, ρ, S, h⟩ := q
  refine ⟨F, ρ, S, Post.bind early_VE h fun xs vs ρ1 F1 H1 e S1 X1 V1 h1 => ?_⟩
  have h1 := res_post S1 h1
  cases e1 : looks ρ1 vs with
  | none => rw [e1] at h1; exact h1.elim
  | some ts => rw [e1] at h1; exact hs F1 H1 xs ts Q S1.sub (looks_o S1 V1 e1) h1
theorem Ca.or {r r' : List V → Hp → VK → Prop} {g g' : List T → Option Nv} (h : Ca X r g) (h' : Ca X r' g') : Ca X (fun xs H Q => r xs H Q ∨ r' xs H Q) (fun ts => match g ts with | some v => some v | none => g' ts) := by
  intro F H xs ts Q s rs q
  dsimp only at q
  cases e : g ts with
  | none => rw [e] at q; exact .inr (h' F H xs ts Q s rs q)
  | some v => rw [e] at q; exact .inl (h F H xs ts Q s rs (by rw [e]; exact q))
section
variable {x : Str} {p pos : Pos} {e : Expr} {es : List Expr} {id Ty : String} {r : List V → Hp → VK → Prop} {g : List T → Option Nv} {fa : FX.Env → R (List Vl)}
theorem re_callB (hc : CallR X (.builtin id) r) (hs : Ca X r g) (hm : X.mg x = none) (hv : bootBuiltins x = some (.builtin id)) (ha : RA X au W (e :: es) fa) (hg : Gl X x := by rfl) (hn : x ≠ "__name__" := by decide) (hdb : (x == ("__debug__" : Str)) = false := by decide)
    (he : starEach (e :: es) X.env = (false, eval e X.env) :: starEach es X.env := by rfl) (hpl : (backTo pos (starEach es X.env)).any (·.1) = false := by rfl) : RE X au W (.Call (.Name x p) (e :: es) [] pos) (fCB g fa) :=
  ⟨PE.imp (pe_callB hc hg hm hv ha.pa hn hdb he hpl) fun σ H Q q => cb_of hs q⟩
theorem re_callTy (hc : CallR X (.type Ty) r) (hs : Ca X r g) (hm : X.mg x = none) (hv : bootBuiltins x = some (.type Ty)) (ha : RA X au W (e :: es) fa) (hg : Gl X x := by rfl) (hn : x ≠ "__name__" := by decide) (hdb : (x == ("__debug__" : Str)) = false := by decide)
    (he : starEach (e :: es) X.env = (false, eval e X.env) :: starEach es X.env := by rfl) (hpl : (backTo pos (starEach es X.env)).any (·.1) = false := by rfl) : RE X au W (.Call (.Name x p) (e :: es) [] pos) (fCB g fa) :=
  ⟨PE.imp (pe_callTy hc hg hm hv ha.pa hn hdb he hpl) fun σ H Q q => cb_of hs q⟩
/-- a built-in type's name -/
theorem re_ty (hm : X.mg x = none) (hv : bootBuiltins x = some (.type Ty)) (hg : Gl X x := by rfl) (hn : x ≠ "__name__" := by decide) (hdb : (x == ("__debug__" : Str)) = false := by decide) : RE X au W (.Name x p) (fC (.ty Ty)) :=
  re_const (v := .ty Ty) (pe_bltn hg hm hv rfl hn hdb) fun _ => .ty _
end

/-! ### len -/
def bLen : List T → Option Nv
  | [.tup ts] => some (.fz (.int ts.length))
  | [.lst ts] => some (.fz (.int ts.length))
  | [.seq ts] => some (.fz (.int ts.length))
  | [.tsq ts] => some (.fz (.int ts.length))
  | [.dK kvs] => some (.fz (.int kvs.length))
  | [.str x] => if x.length ≤ sizeLine then some (.fz (.int x.length)) else none
  | _ => none
def rLenD : List V → Hp → VK → Prop := fun xs H Q => ∃ d kvs, xs = [V.ref d] ∧ Rd H d (.dK kvs) ∧ Q (.int kvs.length) H
theorem call_lenDR : CallR X (.builtin "len") rLenD := by
  intro pins s σ H xs us Q I r h
  obtain ⟨d, kvs, rfl, e, q⟩ := h
  obtain ⟨u, rfl, rx⟩ := vals1 r
  cases rx
  exact d_len I e fun t s' I' => ⟨.int kvs.length, H, I', ⟨_, rfl⟩, q⟩
theorem call_lenA : CallR X (.builtin "len") (fun xs H Q => (∃ x n, xs = [x] ∧ LenV X.K x H n ∧ Q (.int n) H) ∨ rLenD xs H Q) := call_len.or call_lenDR
theorem ca_len : Ca X (fun xs H Q => (∃ x n, xs = [x] ∧ LenV X.K x H n ∧ Q (.int n) H) ∨ rLenD xs H Q) bLen := by
  intro F H xs ts Q s rs q
  cases rs with
  | nil => exact q.elim
  | @cons v t vs ts h r =>
    cases r with
    | cons h' r' => cases t <;> exact q.elim
    | nil =>
      cases h with
      | tup h r => exact .inl ⟨_, _, rfl, .inr ⟨_, .of (s _ _ h), rfl⟩, by rw [r.length]; exact q.flat s (.int _)⟩
      | tsq h r => exact .inl ⟨_, _, rfl, .inr ⟨_, sqT_mono s h, rfl⟩, by rw [r.length]; exact q.flat s (.int _)⟩
      | lst h r => exact .inl ⟨_, _, rfl, .inl ⟨_, .of h, rfl⟩, by rw [r.length]; exact q.flat s (.int _)⟩
      | seq h r => exact .inl ⟨_, _, rfl, .inl ⟨_, h, rfl⟩, by rw [r.length]; exact q.flat s (.int _)⟩
      | dK h r => exact .inr ⟨_, _, rfl, h, by rw [r.length]; exact q.flat s (.int _)⟩
      | str z =>
        simp only [bLen] at q
        split at q
        · rename_i hz; exact .inl ⟨_, _, rfl, ⟨hz, rfl⟩, q.flat s (.int _)⟩
        · exact q.elim
      | _ => exact q.elim
/-! ### isinstance -/
def isiB (a b : String) : Bool := a == b || (a == "bool" && b == "int")
theorem kitB_tab : ∀ a ∈ ["NoneType", "bool", "int", "str", "tuple", "list", "dict"], ∀ b ∈ ["int", "bool", "str", "tuple", "list", "dict"], kitB a b = some (isiB a b) := by decide +kernel
def T.tyn : T → Option String
  | .non => some "NoneType"
  | .bl _ => some "bool"
  | .int _ => some "int"
  | .str _ => some "str"
  | .tup _ => some "tuple"
  | .tsq _ => some "tuple"
  | .lst _ => some "list"
  | .seq _ => some "list"
  | .dK _ => some "dict"
  | _ => none
theorem tyn_x {F H : Hp} {x : V} {t : T} {n : String} (s : Same F H) (r : RepO X.K X.mg F H x t) (e : t.tyn = some n) : TyX X.K H x (.type n) ∧ n ∈ ["NoneType", "bool", "int", "str", "tuple", "list", "dict"] := by
  cases r with
  | non => cases e; exact ⟨.base .non, by decide⟩
  | bl b => cases e; exact ⟨.base (.bl b), by decide⟩
  | int i => cases e; exact ⟨.base (.int i), by decide⟩
  | str z => cases e; exact ⟨.base (.str z), by decide⟩
  | tup h r => cases e; exact ⟨.base (.tup (s _ _ h)), by decide⟩
  | tsq h r =>
    cases e
    rcases h with (h | ⟨o, h⟩) | ⟨o, its, n, h1, h2, _⟩
    · exact ⟨.base (.tup (s _ _ h)), by decide⟩
    · exact ⟨.fTuple (s _ _ h), by decide⟩
    · exact ⟨.kTuple h1 h2, by decide⟩
  | lst h r => cases e; exact ⟨.base (.lst h), by decide⟩
  | seq h r =>
    cases e
    rcases h with (h | ⟨o, h⟩) | ⟨o, its, n, h1, h2, _⟩
    · exact ⟨.base (.lst h), by decide⟩
    · exact ⟨.base (.frz h), by decide⟩
    · exact ⟨.kList h1 h2, by decide⟩
  | dK h r =>
    cases e
    rcases h with h | ⟨o, h⟩
    · exact ⟨.base (.dK h), by decide⟩
    · exact ⟨.fDict h, by decide⟩
  | _ => cases e
def okTy (n : String) : Bool := ["int", "bool", "str", "tuple", "list", "dict"].contains n
def isiT (t : T) (n : String) : Option Bool := match t.tyn with
  | some a => if okTy n = true then some (isiB a n) else none
  | none => none
def isiAny (t : T) : List T → Option Bool
  | [] => some false
  | .ty n :: r => match isiT t n, isiAny t r with
    | some b, some c => some (b || c)
    | _, _ => none
  | _ => none
def bIsi : List T → Option Nv
  | [t, .ty n] => (isiT t n).map fun b => .fz (.bl b)
  | [t, .tup (c :: cs)] => (isiAny t (c :: cs)).map fun b => .fz (.bl b)
  | _ => none
theorem isiT_kit {F H : Hp} {x : V} {t : T} {n : String} {b : Bool} (s : Same F H) (r : RepO X.K X.mg F H x t) (e : isiT t n = some b) : ∃ ty, t.tyn = some ty ∧ TyX X.K H x (.type ty) ∧ PySem.W.kitOne X.K (.type ty) (.type n) = some b := by
  unfold isiT at e
  split at e
  · rename_i a ea
    split at e
    · rename_i hk
      cases e
      obtain ⟨h1, h2⟩ := tyn_x s r ea
      exact ⟨a, ea, h1, kit_ty (kitB_tab a h2 n (by simpa [okTy] using hk))⟩
    · cases e
  · cases e
theorem isiAny_kit {F H : Hp} {x : V} {t : T} {ty : String} (s : Same F H) (r : RepO X.K X.mg F H x t) (ht : t.tyn = some ty) : ∀ {cs : List T} {vs : List V} {b : Bool}, Reps X.K X.mg F vs cs → isiAny t cs = some b → ∃ us, Paired ClsV vs us ∧ PySem.W.kitAny X.K (.type ty) us = some b
  | _, _, _, .nil, e => by cases e; exact ⟨[], .nil, kitAny_nil⟩
  | _, _, _, .cons (t := c) h rs, e => by
    cases c with
    | ty n =>
      simp only [isiAny] at e
      split at e
      · rename_i b1 b2 e1 e2
        cases e
        cases h
        obtain ⟨us, p, k⟩ := isiAny_kit s r ht rs e2
        obtain ⟨ty', et, _, k1⟩ := isiT_kit s r e1
        rw [ht] at et; cases et
        exact ⟨_, .cons (.ty n) p, kitAny_cons k1 (fun hb => by subst hb; exact k) (fun hb => by rw [hb]; rfl)⟩
      · cases e
    | _ => cases e
theorem isi_tyn {t : T} {n : String} {b : Bool} (e : isiT t n = some b) : ∃ ty, t.tyn = some ty := by
  unfold isiT at e
  split at e
  · exact ⟨_, by assumption⟩
  · cases e
theorem call_isiA : CallR X (.builtin "isinstance") (fun xs H Q => rIsi X.K xs H Q ∨ rIsiT X.K xs H Q) := call_isi.or call_isiT
theorem ca_isi : Ca X (fun xs H Q => rIsi X.K xs H Q ∨ rIsiT X.K xs H Q) bIsi := by
  intro F H xs ts Q s rs q
  cases rs with
  | nil => exact q.elim
  | @cons v t vs ts h r =>
    cases r with
    | nil => cases t <;> exact q.elim
    | @cons v2 t2 vs2 ts2 h2 r2 =>
      cases r2 with
      | cons _ _ => cases t2 <;> first | exact q.elim | (rename_i l; cases l <;> exact q.elim)
      | nil =>
        cases h2 with
        | ty n =>
          simp only [bIsi] at q
          cases e : isiT t n with
          | none => rw [e] at q; exact q.elim
          | some b =>
            rw [e] at q
            obtain ⟨ty, _, h3, h4⟩ := isiT_kit s h e
            exact .inl ⟨v, .ty n, _, _, b, rfl, .ty n, h3, h4, q.flat s (.bl _)⟩
        | @tup a us cs ha hr =>
          cases cs with
          | nil => exact q.elim
          | cons c cs =>
            simp only [bIsi] at q
            cases e : isiAny t (c :: cs) with
            | none => rw [e] at q; exact q.elim
            | some b =>
              rw [e] at q
              have ex : ∃ ty, t.tyn = some ty := by
                cases c with
                | ty n =>
                  simp only [isiAny] at e
                  split at e
                  · rename_i b1 b2 e1 e2; exact isi_tyn e1
                  · cases e
                | _ => cases e
              obtain ⟨ty, et⟩ := ex
              obtain ⟨ws, p, k⟩ := isiAny_kit s h et hr e
              exact .inr ⟨v, a, us, _, ws, b, rfl, s _ _ ha, p, (tyn_x s h et).1, k, q.flat s (.bl _)⟩
        | _ => exact q.elim
/-! ### small ones -/
def bInt : List T → Option Nv
  | [.int i] => some (.fz (.int i))
  | [.bl k] => some (.fz (.int (if k then 1 else 0)))
  | _ => none
theorem ca_int : Ca X (fun xs H Q => (∃ i, xs = [.int i] ∧ Q (.int i) H) ∨ ∃ k, xs = [.bl k] ∧ Q (.int (if k then 1 else 0)) H) bInt := by
  intro F H xs ts Q s rs q
  cases rs with
  | nil => exact q.elim
  | @cons v t vs ts h r =>
    cases r with
    | cons _ _ => cases t <;> exact q.elim
    | nil =>
      cases h with
      | int i => exact .inl ⟨i, rfl, q.flat s (.int _)⟩
      | bl b => exact .inr ⟨b, rfl, q.flat s (.int _)⟩
      | _ => exact q.elim
def bAbs : List T → Option Nv
  | [.int i] => some (.fz (.int (if i < 0 then -i else i)))
  | _ => none
theorem ca_abs : Ca X (fun xs H Q => ∃ i, xs = [.int i] ∧ Q (.int (if i < 0 then -i else i)) H) bAbs := by
  intro F H xs ts Q s rs q
  cases rs with
  | nil => exact q.elim
  | @cons v t vs ts h r =>
    cases r with
    | cons _ _ => cases t <;> exact q.elim
    | nil =>
      cases h with
      | int i => exact ⟨i, rfl, q.flat s (.int _)⟩
      | _ => exact q.elim
def bStr : List T → Option Nv
  | [.int i] => if i.natAbs.log2 < 1920 then some (.fz (.str (toString i))) else none
  | _ => none
theorem ca_str : Ca X (fun xs H Q => ∃ i, xs = [.int i] ∧ i.natAbs.log2 < 1920 ∧ Q (.str (toString i)) H) bStr := by
  intro F H xs ts Q s rs q
  cases rs with
  | nil => exact q.elim
  | @cons v t vs ts h r =>
    cases r with
    | cons _ _ => cases t <;> exact q.elim
    | nil =>
      cases h with
      | int i =>
        simp only [bStr] at q
        split at q
        · rename_i hz; exact ⟨i, rfl, hz, q.flat s (.str _)⟩
        · exact q.elim
      | _ => exact q.elim
def bTuple : List T → Option Nv
  | [.tup ts] => some (.fz (.tup ts))
  | [.lst ts] => some (.fz (.tup ts))
  | _ => none
theorem ca_tuple : Ca X (fun xs H Q => ∃ p ys, xs = [.ref p] ∧ ((SqL X.K H p ys ∧ ∀ l, H l = none → Q (.ref l) (upd H l (.tup ys))) ∨ (SqT X.K H p ys ∧ Q (.ref p) H))) bTuple := by
  intro F H xs ts Q s rs q
  cases rs with
  | nil => exact q.elim
  | @cons v t vs ts h r =>
    cases r with
    | cons _ _ => cases t <;> exact q.elim
    | nil =>
      cases h with
      | lst h r => exact ⟨_, _, rfl, .inl ⟨.of h, fun p hp => q.laid s hp (.tup upd_same (Reps.mono (same_upd (s.free hp)) r))⟩⟩
      | tup h r => exact ⟨_, _, rfl, .inr ⟨.of (s _ _ h), q.flat s (.tup h r)⟩⟩
      | _ => exact q.elim
def bList : List T → Option Nv
  | [.tup ts] => some (.own (.lst ts))
  | [.lst ts] => some (.own (.lst ts))
  | [.seq ts] => some (.own (.lst ts))
  | [.tsq ts] => some (.own (.lst ts))
  | _ => none
theorem ca_list : Ca X (fun xs H Q => ∃ p ys, xs = [.ref p] ∧ (SqL X.K H p ys ∨ SqT X.K H p ys) ∧ ∀ l, H l = none → Q (.ref l) (upd H l (.lst ys))) bList := by
  intro F H xs ts Q s rs q
  cases rs with
  | nil => exact q.elim
  | @cons v t vs ts h r =>
    cases r with
    | cons _ _ => cases t <;> exact q.elim
    | nil =>
      cases h with
      | lst h r => exact ⟨_, _, rfl, .inl (.of h), fun p hp => q.made s hp (.lst upd_same r)⟩
      | seq h r => exact ⟨_, _, rfl, .inl h, fun p hp => q.made s hp (.lst upd_same r)⟩
      | tup h r => exact ⟨_, _, rfl, .inr (.of (s _ _ h)), fun p hp => q.made s hp (.lst upd_same r)⟩
      | tsq h r => exact ⟨_, _, rfl, .inr (sqT_mono s h), fun p hp => q.made s hp (.lst upd_same r)⟩
      | _ => exact q.elim
/-! ### lists of truth values, of whole numbers -/
def allBl : List T → Option (List Bool)
  | [] => some []
  | .bl b :: r => (allBl r).map (b :: ·)
  | _ => none
def allInt : List T → Option (List Int)
  | [] => some []
  | .int b :: r => (allInt r).map (b :: ·)
  | _ => none
theorem allBl_v {K : PySem.W.Frag} {mg : Str → Option Value} {F : Hp} : ∀ {vs : List V} {ts : List T} {bs : List Bool}, Reps K mg F vs ts → allBl ts = some bs → vs = bs.map V.bl
  | _, _, _, .nil, e => by cases e; rfl
  | _, _, _, .cons h r, e => by
    cases h with
    | bl b =>
      simp only [allBl, Option.map_eq_some_iff] at e
      obtain ⟨bs, e1, e2⟩ := e; subst e2
      rw [allBl_v r e1]; rfl
    | _ => cases e
theorem allInt_v {K : PySem.W.Frag} {mg : Str → Option Value} {F : Hp} : ∀ {vs : List V} {ts : List T} {bs : List Int}, Reps K mg F vs ts → allInt ts = some bs → vs = bs.map V.int
  | _, _, _, .nil, e => by cases e; rfl
  | _, _, _, .cons h r, e => by
    cases h with
    | int b =>
      simp only [allInt, Option.map_eq_some_iff] at e
      obtain ⟨bs, e1, e2⟩ := e; subst e2
      rw [allInt_v r e1]; rfl
    | _ => cases e
def bAll : List T → Option Nv
  | [.lst ts] => (allBl ts).map fun bs => .fz (.bl (bs.all id))
  | _ => none
def bAny : List T → Option Nv
  | [.lst ts] => (allBl ts).map fun bs => .fz (.bl (bs.any id))
  | _ => none
def bSum : List T → Option Nv
  | [.lst ts] => (allInt ts).map fun bs => .fz (.int bs.sum)
  | _ => none
theorem ca_all : Ca X (rAll X.K) bAll := by
  intro F H xs ts Q s rs q
  cases rs with
  | nil => exact q.elim
  | @cons v t vs ts h r =>
    cases r with
    | cons _ _ => cases t <;> exact q.elim
    | nil =>
      cases h with
      | @lst a vs ts h r =>
        simp only [bAll] at q
        cases e : allBl ts with
        | none => rw [e] at q; exact q.elim
        | some bs =>
          rw [e] at q
          have ev := allBl_v r e
          subst ev
          exact ⟨_, bs, rfl, .of h, q.flat s (.bl _)⟩
      | _ => exact q.elim
theorem ca_any : Ca X (rAny X.K) bAny := by
  intro F H xs ts Q s rs q
  cases rs with
  | nil => exact q.elim
  | @cons v t vs ts h r =>
    cases r with
    | cons _ _ => cases t <;> exact q.elim
    | nil =>
      cases h with
      | @lst a vs ts h r =>
        simp only [bAny] at q
        cases e : allBl ts with
        | none => rw [e] at q; exact q.elim
        | some bs =>
          rw [e] at q
          have ev := allBl_v r e
          subst ev
          exact ⟨_, bs, rfl, .of h, q.flat s (.bl _)⟩
      | _ => exact q.elim
theorem ca_sum : Ca X (rSum X.K) bSum := by
  intro F H xs ts Q s rs q
  cases rs with
  | nil => exact q.elim
  | @cons v t vs ts h r =>
    cases r with
    | cons _ _ => cases t <;> exact q.elim
    | nil =>
      cases h with
      | @lst a vs ts h r =>
        simp only [bSum] at q
        cases e : allInt ts with
        | none => rw [e] at q; exact q.elim
        | some bs =>
          rw [e] at q
          have ev := allInt_v r e
          subst ev
          exact ⟨_, bs, rfl, .of h, q.flat s (.int _)⟩
      | _ => exact q.elim
/-! ### data that are what they look like -/
mutual
def T.cD : T → Option PyData
  | .non => some .none
  | .bl b => some (.bool b)
  | .int i => some (.int i)
  | .str x => some (.str x)
  | .tup ts => (cDs ts).map .tuple
  | .lst ts => (cDs ts).map .list
  | .seq _ => none
  | .tsq _ => none
  | .dK _ => none
  | .dT _ => none
  | .ins _ _ => none
  | .fn _ => none
  | .ty _ => none
  | .dN _ => none
def cDs : List T → Option (List PyData)
  | [] => some []
  | t :: ts => match t.cD, cDs ts with
    | some d, some ds => some (d :: ds)
    | _, _ => none
end
mutual
def ofD : PyData → T
  | .none => .non
  | .bool b => .bl b
  | .int i => .int i
  | .str x => .str x
  | .tuple ds => .tup (ofDs ds)
  | .list ds => .lst (ofDs ds)
  | .dict _ => .non
def ofDs : List PyData → List T
  | [] => []
  | d :: ds => ofD d :: ofDs ds
end
mutual
theorem cD_of : ∀ {t : T} {d : PyData}, t.cD = some d → t = ofD d ∧ t.toD = some d
  | .non, _, e => by simp only [T.cD, Option.some.injEq] at e; subst e; exact ⟨rfl, rfl⟩
  | .bl b, _, e => by simp only [T.cD, Option.some.injEq] at e; subst e; exact ⟨rfl, rfl⟩
  | .int b, _, e => by simp only [T.cD, Option.some.injEq] at e; subst e; exact ⟨rfl, rfl⟩
  | .str b, _, e => by simp only [T.cD, Option.some.injEq] at e; subst e; exact ⟨rfl, rfl⟩
  | .tup ts, _, e => by
    simp only [T.cD, Option.map_eq_some_iff] at e
    obtain ⟨ds, e1, e2⟩ := e; subst e2
    obtain ⟨a, b⟩ := cDs_of e1
    exact ⟨by rw [a]; rfl, by simp only [T.toD, b, Option.map_some]⟩
  | .lst ts, _, e => by
    simp only [T.cD, Option.map_eq_some_iff] at e
    obtain ⟨ds, e1, e2⟩ := e; subst e2
    obtain ⟨a, b⟩ := cDs_of e1
    exact ⟨by rw [a]; rfl, by simp only [T.toD, b, Option.map_some]⟩
  | .seq _, _, e => by simp [T.cD] at e
  | .tsq _, _, e => by simp [T.cD] at e
  | .dK _, _, e => by simp [T.cD] at e
  | .dT _, _, e => by simp [T.cD] at e
  | .ins _ _, _, e => by simp [T.cD] at e
  | .fn _, _, e => by simp [T.cD] at e
  | .ty _, _, e => by simp [T.cD] at e
  | .dN _, _, e => by simp [T.cD] at e
theorem cDs_of : ∀ {ts : List T} {ds : List PyData}, cDs ts = some ds → ts = ofDs ds ∧ toDs ts = some ds
  | [], _, e => by simp only [cDs, Option.some.injEq] at e; subst e; exact ⟨rfl, rfl⟩
  | t :: ts, _, e => by
    simp only [cDs] at e
    split at e
    · rename_i d ds e1 e2
      cases e
      obtain ⟨a, b⟩ := cD_of e1
      obtain ⟨c, d'⟩ := cDs_of e2
      exact ⟨by rw [a, c]; rfl, by simp only [toDs, b, d']⟩
    · cases e
end
theorem ofDs_map : ∀ ds : List PyData, ofDs ds = ds.map ofD
  | [] => rfl
  | d :: ds => by rw [ofDs, ofDs_map ds]; rfl
/-- they can be put in order -/
def okOrd (ds : List PyData) : Bool := (ds.all fun x => ds.all fun y => PySem.W.alike x y) && (ds.all fun x => !isNone x) && decide (PyData.depthAll ds ≤ 60)
theorem okOrd_alike {ds : List PyData} (h : okOrd ds = true) : PySem.W.AlikeAll ds ∧ PyData.depthAll ds ≤ 60 := by
  simp only [okOrd, Bool.and_eq_true, List.all_eq_true, decide_eq_true_eq] at h
  refine ⟨⟨fun x hx y hy => h.1.1 x hx y hy, fun x hx e => ?_⟩, h.2⟩
  have := h.1.2 x hx
  rw [e] at this
  cases this
def bMin : List T → Option Nv
  | [.lst ts] => match cDs ts with
    | some (d :: ds) => if okOrd (d :: ds) = true then some (.fz (ofD (PySem.W.minD d ds))) else none
    | _ => none
  | [.int i, .int j] => some (.fz (.int (if j < i then j else i)))
  | _ => none
def bMax : List T → Option Nv
  | [.lst ts] => match cDs ts with
    | some (d :: ds) => if okOrd (d :: ds) = true then some (.fz (ofD (PySem.W.maxD d ds))) else none
    | _ => none
  | [.int i, .int j] => some (.fz (.int (if j > i then j else i)))
  | _ => none
/-- min of a list: the first least item itself -/
def rMinD (K : PySem.W.Frag) : List V → Hp → VK → Prop := fun vs H Q => ∃ (a : Addr) (xs : List V) (d : PyData) (ds : List PyData), vs = [V.ref a] ∧ H a = some (.lst xs) ∧ DpAll K H xs (d :: ds) ∧ okOrd (d :: ds) = true ∧
  ∀ (i : Nat) (x : V), xs[i]? = some x → (d :: ds)[i]? = some (PySem.W.minD d ds) → Q x H
def rMaxD (K : PySem.W.Frag) : List V → Hp → VK → Prop := fun vs H Q => ∃ (a : Addr) (xs : List V) (d : PyData) (ds : List PyData), vs = [V.ref a] ∧ H a = some (.lst xs) ∧ DpAll K H xs (d :: ds) ∧ okOrd (d :: ds) = true ∧
  ∀ (i : Nat) (x : V), xs[i]? = some x → (d :: ds)[i]? = some (PySem.W.maxD d ds) → Q x H
theorem vals_at {vs : List V} {us : List Value} (r : Vals vs us) {i : Nat} {u : Value} (h : us[i]? = some u) : ∃ v, vs[i]? = some v ∧ RelV v u := by
  have hl := r.length
  have hi : i < us.length := (List.getElem?_eq_some_iff.mp h).1
  obtain ⟨u', e1, e2⟩ := r.get (i := i) (x := vs[i]'(by omega)) (by simp)
  rw [h] at e1; cases e1
  exact ⟨_, by simp, e2⟩
theorem minD_mem : ∀ (ds : List PyData) (d : PyData), PySem.W.minD d ds ∈ d :: ds
  | [], d => by simp [PySem.W.minD]
  | e :: ds, d => by
    have h := minD_mem ds (if PySem.W.dataLt e d then e else d)
    have e1 : PySem.W.minD d (e :: ds) = PySem.W.minD (if PySem.W.dataLt e d then e else d) ds := rfl
    rw [e1]
    rcases List.mem_cons.mp h with h | h
    · rw [h]; split <;> simp
    · exact List.mem_cons_of_mem _ (List.mem_cons_of_mem _ h)
theorem maxD_mem : ∀ (ds : List PyData) (d : PyData), PySem.W.maxD d ds ∈ d :: ds
  | [], d => by simp [PySem.W.maxD]
  | e :: ds, d => by
    have h := maxD_mem ds (if PySem.W.dataLt d e then e else d)
    have e1 : PySem.W.maxD d (e :: ds) = PySem.W.maxD (if PySem.W.dataLt d e then e else d) ds := rfl
    rw [e1]
    rcases List.mem_cons.mp h with h | h
    · rw [h]; split <;> simp
    · exact List.mem_cons_of_mem _ (List.mem_cons_of_mem _ h)
theorem cr_minD {k : Nat} (hr : Room k X.A) (hc : X.calm = true) : CallR X (.builtin "min") (rMinD X.K) := by
  intro pins s σ H xs us Q I r h
  obtain ⟨a, vs, d, ds, rfl, ha, hd, ok, q⟩ := h
  obtain ⟨u, rfl, rx⟩ := vals1 r
  cases rx
  obtain ⟨al, dp⟩ := okOrd_alike ok
  obtain ⟨its, rv, pl, _⟩ := I.list (.of ha)
  obtain ⟨as, hrd⟩ := Dp.readsAll I (d :: ds) _ its hd rv
  have hu := hr.un
  refine PySem.W.min_list_data (I.ok.hd hc) pl.isList (x := d) (xs := ds) (as := as) (by simpa using hrd) al (by show X.A.units + 1 + _ < _; omega) fun i v h' tk bs hv rd kk => ?_
  have hv' : its[i]? = some v := by simpa using hv
  obtain ⟨x, hx, rxv⟩ := vals_at rv hv'
  have I' : Inv X pins σ H { s with heap := h', toks := tk } := I.kept kk
  refine ⟨x, H, I', rxv, q i x hx ?_⟩
  obtain ⟨bs', r1, hi, m1, _⟩ := PySem.W.readsAll_at (by simpa using hrd) i v hv'
  have r2 := PySem.W.reads_keeps kk r1
  have e := PySem.W.alike_unique _ _ _ _ _ (al.1 _ m1 _ (minD_mem ds d)) r2 rd
  rw [← e, List.getD_eq_getElem?_getD]
  cases q2 : (d :: ds)[i]? with
  | none => rw [List.getElem?_eq_none_iff] at q2; omega
  | some z => rfl
theorem cr_maxD {k : Nat} (hr : Room k X.A) (hc : X.calm = true) : CallR X (.builtin "max") (rMaxD X.K) := by
  intro pins s σ H xs us Q I r h
  obtain ⟨a, vs, d, ds, rfl, ha, hd, ok, q⟩ := h
  obtain ⟨u, rfl, rx⟩ := vals1 r
  cases rx
  obtain ⟨al, dp⟩ := okOrd_alike ok
  obtain ⟨its, rv, pl, _⟩ := I.list (.of ha)
  obtain ⟨as, hrd⟩ := Dp.readsAll I (d :: ds) _ its hd rv
  have hu := hr.un
  refine PySem.W.max_list_data (I.ok.hd hc) pl.isList (x := d) (xs := ds) (as := as) (by simpa using hrd) al (by show X.A.units + 1 + _ < _; omega) fun i v h' tk bs hv rd kk => ?_
  have hv' : its[i]? = some v := by simpa using hv
  obtain ⟨x, hx, rxv⟩ := vals_at rv hv'
  have I' : Inv X pins σ H { s with heap := h', toks := tk } := I.kept kk
  refine ⟨x, H, I', rxv, q i x hx ?_⟩
  obtain ⟨bs', r1, hi, m1, _⟩ := PySem.W.readsAll_at (by simpa using hrd) i v hv'
  have r2 := PySem.W.reads_keeps kk r1
  have e := PySem.W.alike_unique _ _ _ _ _ (al.1 _ m1 _ (maxD_mem ds d)) r2 rd
  rw [← e, List.getD_eq_getElem?_getD]
  cases q2 : (d :: ds)[i]? with
  | none => rw [List.getElem?_eq_none_iff] at q2; omega
  | some z => rfl

theorem cDs_get : ∀ {ts : List T} {ds : List PyData}, cDs ts = some ds → ∀ {i : Nat} {d : PyData}, ds[i]? = some d → ts[i]? = some (ofD d)
  | ts, ds, e, i, d, h => by
    rw [(cDs_of e).1, ofDs_map, List.getElem?_map, h]
    rfl
theorem call_minA {k : Nat} (hr : Room k X.A) (hc : X.calm = true) : CallR X (.builtin "min") (fun xs H Q => rMinD X.K xs H Q ∨ ∃ i j, xs = [.int i, .int j] ∧ Q (.int (if j < i then j else i)) H) := (cr_minD hr hc).or (call_min2 hc)
theorem call_maxA {k : Nat} (hr : Room k X.A) (hc : X.calm = true) : CallR X (.builtin "max") (fun xs H Q => rMaxD X.K xs H Q ∨ ∃ i j, xs = [.int i, .int j] ∧ Q (.int (if j > i then j else i)) H) := (cr_maxD hr hc).or (call_max2 hc)
theorem ca_min : Ca X (fun xs H Q => rMinD X.K xs H Q ∨ ∃ i j, xs = [.int i, .int j] ∧ Q (.int (if j < i then j else i)) H) bMin := by
  intro F H xs ts Q s rs q
  cases rs with
  | nil => exact q.elim
  | @cons v t vs ts h r =>
    cases r with
    | @cons v2 t2 vs2 ts2 h2 r2 =>
      cases r2 with
      | cons _ _ => cases t <;> first | exact q.elim | (cases t2 <;> exact q.elim)
      | nil =>
        cases h with
        | int i => cases h2 with
          | int j => exact .inr ⟨i, j, rfl, q.flat s (.int _)⟩
          | _ => exact q.elim
        | _ => exact q.elim
    | nil =>
      cases h with
      | @lst a vs ts h r =>
        simp only [bMin] at q
        split at q
        · rename_i d ds e
          split at q
          · rename_i ok
            refine .inl ⟨_, vs, d, ds, rfl, h, (Reps.mono s r).dp (cDs_of e).2, ok, fun i x hx hd => ?_⟩
            obtain ⟨t, e1, r1⟩ := r.get' hx
            rw [cDs_get e hd] at e1
            cases e1
            exact q.flat s r1
          · exact q.elim
        · exact q.elim
      | _ => exact q.elim
theorem ca_max : Ca X (fun xs H Q => rMaxD X.K xs H Q ∨ ∃ i j, xs = [.int i, .int j] ∧ Q (.int (if j > i then j else i)) H) bMax := by
  intro F H xs ts Q s rs q
  cases rs with
  | nil => exact q.elim
  | @cons v t vs ts h r =>
    cases r with
    | @cons v2 t2 vs2 ts2 h2 r2 =>
      cases r2 with
      | cons _ _ => cases t <;> first | exact q.elim | (cases t2 <;> exact q.elim)
      | nil =>
        cases h with
        | int i => cases h2 with
          | int j => exact .inr ⟨i, j, rfl, q.flat s (.int _)⟩
          | _ => exact q.elim
        | _ => exact q.elim
    | nil =>
      cases h with
      | @lst a vs ts h r =>
        simp only [bMax] at q
        split at q
        · rename_i d ds e
          split at q
          · rename_i ok
            refine .inl ⟨_, vs, d, ds, rfl, h, (Reps.mono s r).dp (cDs_of e).2, ok, fun i x hx hd => ?_⟩
            obtain ⟨t, e1, r1⟩ := r.get' hx
            rw [cDs_get e hd] at e1
            cases e1
            exact q.flat s r1
          · exact q.elim
        · exact q.elim
      | _ => exact q.elim
end
end FX
end

section
set_option Elab.async false
set_option linter.all false
set_option maxRecDepth 100000
set_option maxHeartbeats 4000000
namespace FX
open PySem PySem.Spec PyProof.Rows L2
section
variable {X : Cx} {au : Au} {W : WX}
/-! ### sorted -/
def isTupC : PyData → Bool
  | .tuple (_ :: _) => true
  | _ => false
def isFlatK : PyData → Bool
  | .none => false
  | .tuple _ => false
  | _ => true
def okSort (ds : List PyData) : Bool := okOrd ds && (ds.all isTupC || ds.all isFlatK)
abbrev sortD (ds : List PyData) : List PyData := ds.mergeSort (PySem.W.dataLe false id)
theorem okSort_s {ds : List PyData} (h : okSort ds = true) : PySem.W.AllAlike ds ∧ PySem.W.Sortable ds ∧ PyData.depthAll ds ≤ 60 := by
  simp only [okSort, Bool.and_eq_true, Bool.or_eq_true, List.all_eq_true] at h
  obtain ⟨h1, h2⟩ := h
  obtain ⟨al, dp⟩ := okOrd_alike h1
  refine ⟨fun d hd d' hd' => al.1 d hd d' hd', ?_, dp⟩
  rcases h2 with h2 | h2
  · refine .inl fun d hd => ?_
    have := h2 d hd
    unfold isTupC at this
    split at this
    · exact ⟨_, _, rfl⟩
    · cases this
  · refine .inr fun d hd => ⟨fun e => ?_, fun xs e => ?_⟩
    · have := h2 d hd; rw [e] at this; cases this
    · have := h2 d hd; rw [e] at this; cases this
theorem depth_mem : ∀ {ds : List PyData} {d : PyData}, d ∈ ds → d.depth ≤ PyData.depthAll ds
  | d :: ds, e, h => by
    rcases List.mem_cons.mp h with h | h
    · subst h; exact Nat.le_max_left _ _
    · exact Nat.le_trans (depth_mem h) (Nat.le_max_right _ _)
def rSortedD (K : PySem.W.Frag) : List V → Hp → VK → Prop := fun vs H Q => ∃ (a : Addr) (xs : List V) (ds : List PyData), vs = [V.ref a] ∧ SqL K H a xs ∧ DpAll K H xs ds ∧ okSort ds = true ∧
  ∀ (ys : List V) (p : Addr), H p = none → PySem.W.EachIs (fun y d => (y, d) ∈ xs.zip ds) ys (sortD ds) → Q (.ref p) (upd H p (.lst ys))
theorem each_zip {L : List (V × PyData)} : ∀ {xs : List V} {its : List Value} {ds : List PyData}, Vals xs its → xs.length = ds.length → (∀ p ∈ xs.zip ds, p ∈ L) → PySem.W.EachIs (fun u d => ∃ v, RelV v u ∧ (v, d) ∈ L) its ds
  | _, _, [], .nil, _, _ => .nil
  | _, _, [], .cons _ _, h, _ => by simp at h
  | _, _, _ :: _, .nil, h, _ => by simp at h
  | _, _, d :: ds, .cons r rs, h, k => .cons ⟨_, r, k _ (by simp)⟩ (each_zip rs (by simpa using h) fun p hp => k p (by simp [hp]))
theorem each_ys {L : List (V × PyData)} : ∀ {out : List Value} {es : List PyData}, PySem.W.EachIs (fun u d => ∃ v, RelV v u ∧ (v, d) ∈ L) out es → ∃ ys, Vals ys out ∧ PySem.W.EachIs (fun y d => (y, d) ∈ L) ys es
  | _, _, .nil => ⟨[], .nil, .nil⟩
  | _, _, .cons h r => by
    obtain ⟨v, r1, m⟩ := h
    obtain ⟨ys, a, b⟩ := each_ys r
    exact ⟨v :: ys, .cons r1 a, .cons m b⟩
theorem each_reads {h : Heap} : ∀ {vs : List Value} {ds : List PyData} {as : List Addr}, ReadsAll h vs ds as → PySem.W.EachIs (fun v b => ∃ as, Reads h v (id b) as) vs ds
  | _, _, _, .nil => .nil
  | _, _, _, .cons r rs => .cons ⟨_, r⟩ (each_reads rs)
theorem dpAll_length {K : PySem.W.Frag} {H : Hp} : ∀ {xs : List V} {ds : List PyData}, DpAll K H xs ds → xs.length = ds.length
  | _, _, .nil => rfl
  | _, _, .cons _ r => by simp [dpAll_length r]
theorem cr_sortedD {k : Nat} (hr : Room k X.A) : CallR X (.builtin "sorted") (rSortedD X.K) := by
  intro pins s σ H vs us Q I r h
  obtain ⟨a, xs, ds, rfl, hs, hd, ok, q⟩ := h
  obtain ⟨its, rv, hl, hz⟩ := I.list hs
  rw [Vals.ref1 r]
  obtain ⟨al, so, dp⟩ := okSort_s ok
  obtain ⟨as, hrd⟩ := Dp.readsAll I ds _ its hd rv
  have hlen := dpAll_length hd
  have hu := hr.un
  refine PySem.W.sorted_data (enc := id) (bs := ds) (R := fun u d => ∃ v, RelV v u ∧ (v, d) ∈ xs.zip ds) hl.isList (each_zip rv hlen fun p hp => hp) (each_reads hrd) (by simpa using al) (by simpa using so) (by rw [← hlen]; exact hz) (fun b hb => ?_) fun out ho eo => ?_
  · have := depth_mem hb
    show X.A.units + 2 + b.depth < cLine
    omega
  · obtain ⟨ys, v1, e1⟩ := each_ys eo
    obtain ⟨ep, he'⟩ := PyProof.Rows.sortedAll_at s.heap its out.toArray
    refine ⟨.ref _, upd H (s.heap.objs.size + 1) (.lst ys), I.laid (t' := s.toks) (fun _ _ => PyProof.Rows.sortedAll_old) (Nat.le_succ _) ⟨by rw [v1.length, ho, ← hlen]; exact hz, out, ep, v1, he'⟩, rfl, q _ _ (I.hok.fresh (Nat.le_succ _)) e1⟩
def bSorted : List T → Option Nv
  | [.lst ts] => match cDs ts with
    | some ds => if okSort ds = true then some (.own (.lst (ofDs (sortD ds)))) else none
    | _ => none
  | [.tup _] => none
  | _ => none
theorem reps_zip {K : PySem.W.Frag} {mg : Str → Option Value} {F : Hp} : ∀ {xs : List V} {ds : List PyData}, Reps K mg F xs (ofDs ds) → ∀ {y : V} {d : PyData}, (y, d) ∈ xs.zip ds → Rep K mg F y (ofD d)
  | [], _, _, _, _, h => by simp at h
  | _ :: _, [], _, _, _, h => by simp at h
  | x :: xs, e :: ds, r, y, d, h => by
    cases r with
    | cons r1 r2 =>
      rw [List.zip_cons_cons] at h
      rcases List.mem_cons.mp h with h | h
      · cases h; exact r1
      · exact reps_zip r2 h
theorem each_reps {K : PySem.W.Frag} {mg : Str → Option Value} {F : Hp} {L : List (V × PyData)} (hL : ∀ {y : V} {d : PyData}, (y, d) ∈ L → Rep K mg F y (ofD d)) : ∀ {ys : List V} {es : List PyData}, PySem.W.EachIs (fun y d => (y, d) ∈ L) ys es → Reps K mg F ys (ofDs es)
  | _, _, .nil => .nil
  | _, _, .cons h r => .cons (hL h) (each_reps hL r)
theorem ca_sorted : Ca X (rSortedD X.K) bSorted := by
  intro F H xs ts Q s rs q
  cases rs with
  | nil => exact q.elim
  | @cons v t vs ts h r =>
    cases r with
    | cons _ _ => cases t <;> exact q.elim
    | nil =>
      cases h with
      | @lst a vs ts h r =>
        simp only [bSorted] at q
        split at q
        · rename_i ds e
          split at q
          · rename_i ok
            refine ⟨_, vs, ds, rfl, .of h, (Reps.mono s r).dp (cDs_of e).2, ok, fun ys p hp he => ?_⟩
            have r' : Reps X.K X.mg F vs (ofDs ds) := by rw [← (cDs_of e).1]; exact r
            exact q.made s hp (.lst upd_same (each_reps (fun hy => reps_zip r' hy) he))
          · exact q.elim
        · exact q.elim
      | _ => exact q.elim
/-! ### slices -/
structure RO (X : Cx) (au : Au) (W : WX) (e : Option Expr) (f : FX.Env → R (Option Int)) : Prop where
  po : PO X e (tF X au W (fun _ _ _ _ _ a b => a = b) f)
theorem PO.imp {e : Option Expr} {t t' : TO} (h : PO X e t) (i : ∀ σ H Q, t' σ H Q → t σ H Q) : PO X e t' := ⟨fun pins s σ H Q I q => h.run pins s σ H Q I (i σ H Q q)⟩
def fNone : FX.Env → R (Option Int) := fun ρ => .ok none ρ
def fSome (f : FX.Env → R Vl) : FX.Env → R (Option Int) := fun ρ => (f ρ).norm.bind fun v ρ1 => match v with
  | .fz (.int i) => .ok (some i) ρ1
  | _ => .stuck
theorem ro_none : RO X au W none fNone := ⟨PO.imp po_none fun σ H Q ⟨F, ρ, S, h⟩ => h none F H S (Xt.refl _ _ _ _) rfl⟩
theorem ro_some {e : Expr} {f : FX.Env → R Vl} (he : RE X au W e f) : RO X au W (some e) (fSome f) := by
  refine ⟨PO.imp (po_some he.pe) fun σ H Q ⟨F, ρ, S, h⟩ => ?_⟩
  refine ⟨F, ρ, S, Post.bindN (fun _ _ _ _ _ _ _ _ _ h => h) h fun x v ρ1 F1 H1 S1 X1 V1 h1 => ?_⟩
  split at h1
  · rename_i i
    cases (show Rep X.K X.mg F1 x (.int i) from V1)
    exact ⟨i, rfl, h1 _ F1 H1 S1 (Xt.refl _ _ _ _) rfl⟩
  · exact h1.elim
def cutT (ts : List T) (lo hi : Option Int) : List T := (ts.drop (HT.sIx ts.length 0 lo)).take (HT.sIx ts.length ts.length hi - HT.sIx ts.length 0 lo)
def aCut (t : T) (lo hi : Option Int) : Option Nv := match t with
  | .lst ts => some (.own (.lst (cutT ts lo hi)))
  | .tup ts => some (.fz (.tup (cutT ts lo hi)))
  | _ => none
def fCut (fa : FX.Env → R Vl) (fl fh : FX.Env → R (Option Int)) : FX.Env → R Vl := fun ρ => (fa ρ).norm.bind fun v ρ1 => (fl ρ1).bind fun lo ρ2 => (fh ρ2).bind fun hi ρ3 => R.of ((look ρ3 v).bind fun t => aCut t lo hi) ρ3
theorem Reps.cut {K : PySem.W.Frag} {mg : Str → Option Value} {F : Hp} {vs : List V} {ts : List T} (r : Reps K mg F vs ts) (lo hi : Option Int) : Reps K mg F (cutV vs lo hi) (cutT ts lo hi) := by
  unfold cutV cutT
  rw [r.length]
  exact (r.drop _).take _
theorem early_eq {α : Type} : Early (fun (_ : FX.Env) (_ : L2.St) (_ _ _ : Hp) (a b : α) => a = b) := fun _ _ _ _ _ _ _ _ _ h => h
theorem re_cut {e : Expr} {lo hi : Option Expr} {fa : FX.Env → R Vl} {fl fh : FX.Env → R (Option Int)} {p2 pos : Pos} (he : RE X au W e fa) (hl : RO X au W lo fl) (hh : RO X au W hi fh) : RE X au W (.Subscript e (.Slice lo hi none p2) pos) (fCut fa fl fh) := by
  refine ⟨PE.imp (pe_slice (sl_list.or sl_tupA) he.pe hl.po hh.po) fun σ H Q ⟨F, ρ, S, h⟩ => ?_⟩
  refine ⟨F, ρ, S, Post.bindN early_VE h fun x v ρ1 F1 H1 S1 X1 V1 h1 => ⟨F1, ρ1, S1, Post.bind early_VE h1 fun l l' ρ2 F2 H2 e2 S2 X2 V2 h2 => ⟨F2, ρ2, S2, Post.bind early_VE h2 fun u u' ρ3 F3 H3 e3 S3 X3 V3 h3 => ?_⟩⟩⟩
  have V2 : l = l' := V2
  have V3 : u = u' := V3
  subst V2 V3
  have hx := (V1.mono X2.ff).mono X3.ff
  have q := res_post S3 h3
  cases e1 : look ρ3 v with
  | none => rw [e1] at q; exact q.elim
  | some t =>
    rw [e1] at q
    have q : ResP X.K X.mg F3 H3 (aCut t l u) Q := q
    cases look_o S3 hx e1 with
    | lst h r => exact .inl ⟨_, _, rfl, .of h, fun p hp => q.made S3.sub hp (.lst upd_same (r.cut l u))⟩
    | @tup a vs ts h r =>
      refine .inr ⟨_, _, rfl, .of (S3.sub _ _ h), fun hw => ?_, fun hw p hp => q.laid S3.sub hp (.tup upd_same (Reps.mono (same_upd (S3.sub.free hp)) (r.cut l u)))⟩
      have ec : cutT ts l u = ts := by
        unfold cutT
        rw [← r.length, hw.1, hw.2]
        simp [r.length]
      have q : Q (.ref a) H3 := (show ResP X.K X.mg F3 H3 (some (.fz (.tup (cutT ts l u)))) Q from q).flat S3.sub (by rw [ec]; exact .tup h r)
      exact q
    | _ => exact q.elim
end
end FX
end

section
set_option Elab.async false
set_option linter.all false
set_option maxRecDepth 100000
set_option maxHeartbeats 4000000
namespace FX
open PySem PySem.Spec PyProof.Rows L2

/-! ### slots stored -/
theorem tabs_upd {T : List (Addr × Str)} {H : Hp} {a : Addr} {o o' : HO} (t : LamX.Tabs T H) (h : H a = some o) (n1 : ∀ ps, o ≠ .tbl ps) (n2 : ∀ φ, o ≠ .ext φ) : LamX.Tabs T (upd H a o') := fun p hp => by
  obtain ⟨ps, h1, h2, h3⟩ := t p hp
  refine ⟨ps, ?_, h2, fun pos cv hc => ?_⟩
  · rw [upd_ne (fun e => n1 ps (by rw [e, h] at h1; exact (Option.some.inj h1)))]; exact h1
  · obtain ⟨c, e1, e2⟩ := h3 pos cv hc
    refine ⟨c, e1, ?_⟩
    rw [upd_ne (fun e => by rw [e, h] at e2; exact n2 _ (Option.some.inj e2))]
    exact e2
section
variable {K : PySem.W.Frag} {mg : Str → Option Value} {au : Au} {ρ : FX.Env} {σ : L2.St} {F F' H H' : Hp}
theorem SRel.set_fz (S : SRel K mg au ρ σ F H) {x : V} {t : T} (r : Rep K mg F x t) (i : Nat) : SRel K mg au (ρ.set i (.fz t)) (σ.set i (some x)) F H ∧ ∀ b, OwnA (ρ.set i (.fz t)) (σ.set i (some x)) b → OwnA ρ σ b := by
  have ow : ∀ {j : Nat} {k : Option Nat} {t' : T} {a : Addr}, (ρ.set i (.fz t))[j]? = some (.own k t') → (σ.set i (some x))[j]? = some (some (.ref a)) → ρ[j]? = some (.own k t') ∧ σ[j]? = some (some (.ref a)) := by
    intro j k t' a h1 h2
    rcases set_get h1 with ⟨_, z⟩ | ⟨ne, h1⟩
    · cases z
    · rcases set_get h2 with ⟨z, _⟩ | ⟨_, h2⟩
      · exact absurd z ne
      · exact ⟨h1, h2⟩
  refine ⟨⟨S.sub, S.nw, S.tabs, by rw [List.length_set, List.length_set]; exact S.len, fun {j t'} hj => ?_, fun {j k t'} hj => ?_, fun h1 h2 e1 e2 => S.ds (ow h1 e1).1 (ow h2 e2).1 (ow h1 e1).2 (ow h2 e2).2, S.nt⟩, fun b ⟨j, k, t', h1, h2⟩ => ⟨j, k, t', ow h1 h2⟩⟩
  · rcases set_get hj with ⟨q, z⟩ | ⟨ne, hj⟩
    · cases z
      have hl : i < σ.length := by
        rw [← S.len]
        by_cases hi : i < ρ.length
        · exact hi
        · rw [q, List.getElem?_eq_none (by simpa using hi)] at hj; cases hj
      exact ⟨x, by rw [q, List.getElem?_set_self hl], r⟩
    · obtain ⟨v, a, b⟩ := S.fz hj
      exact ⟨v, by rw [List.getElem?_set_ne (fun e => ne e.symm)]; exact a, b⟩
  · rcases set_get hj with ⟨q, z⟩ | ⟨ne, hj⟩
    · cases z
    · obtain ⟨a, e, n, o, d⟩ := S.ow hj
      exact ⟨a, by rw [List.getElem?_set_ne (fun e => ne e.symm)]; exact e, n, o, d⟩
theorem SRel.set_own (S : SRel K mg au ρ σ F H) {p : Addr} {t : T} (n : F p = none) (o : OwnAt K mg F H p t) (nw : au.new p) (no : ¬ OwnA ρ σ p) (i : Nat) :
    SRel K mg au (ρ.set i (.own none t)) (σ.set i (some (.ref p))) F H ∧ ∀ b, OwnA (ρ.set i (.own none t)) (σ.set i (some (.ref p))) b → OwnA ρ σ b ∨ b = p := by
  have ow : ∀ {j : Nat} {k : Option Nat} {t' : T} {a : Addr}, (ρ.set i (.own none t))[j]? = some (.own k t') → (σ.set i (some (.ref p)))[j]? = some (some (.ref a)) → (j = i ∧ a = p) ∨ (j ≠ i ∧ ρ[j]? = some (.own k t') ∧ σ[j]? = some (some (.ref a))) := by
    intro j k t' a h1 h2
    rcases set_get h1 with ⟨z, _⟩ | ⟨ne, h1⟩
    · rcases set_get h2 with ⟨_, z2⟩ | ⟨n2, _⟩
      · cases z2; exact .inl ⟨z, rfl⟩
      · exact absurd z n2
    · rcases set_get h2 with ⟨z, _⟩ | ⟨_, h2⟩
      · exact absurd z ne
      · exact .inr ⟨ne, h1, h2⟩
  refine ⟨⟨S.sub, S.nw, S.tabs, by rw [List.length_set, List.length_set]; exact S.len, fun {j t'} hj => ?_, fun {j k t'} hj => ?_, fun h1 h2 e1 e2 => ?_, S.nt⟩, fun b ⟨j, k, t', h1, h2⟩ => ?_⟩
  · rcases set_get hj with ⟨q, z⟩ | ⟨ne, hj⟩
    · cases z
    · obtain ⟨v, a, b⟩ := S.fz hj
      exact ⟨v, by rw [List.getElem?_set_ne (fun e => ne e.symm)]; exact a, b⟩
  · rcases set_get hj with ⟨q, z⟩ | ⟨ne, hj⟩
    · cases z
      have hl : i < σ.length := by
        rw [← S.len]
        by_cases hi : i < ρ.length
        · exact hi
        · rw [q, List.getElem?_eq_none (by simpa using hi)] at hj; cases hj
      exact ⟨p, by rw [q, List.getElem?_set_self hl], n, o, nw⟩
    · obtain ⟨a, e, n, o, d⟩ := S.ow hj
      exact ⟨a, by rw [List.getElem?_set_ne (fun e => ne e.symm)]; exact e, n, o, d⟩
  · rcases ow h1 e1 with ⟨a1, b1⟩ | ⟨a1, b1, c1⟩
    · rcases ow h2 e2 with ⟨a2, b2⟩ | ⟨a2, b2, c2⟩
      · rw [a1, a2]
      · exact absurd ⟨_, _, _, b2, by rw [c2, b1]⟩ no
    · rcases ow h2 e2 with ⟨a2, b2⟩ | ⟨a2, b2, c2⟩
      · exact absurd ⟨_, _, _, b1, by rw [c1, b2]⟩ no
      · exact S.ds b1 b2 c1 c2
  · rcases ow h1 h2 with ⟨_, b1⟩ | ⟨_, b1, c1⟩
    · exact .inr b1
    · exact .inl ⟨_, _, _, b1, c1⟩
/-- the object of a slot is changed -/
theorem SRel.mut (S : SRel K mg au ρ σ F H) {i : Nat} {k : Option Nat} {t t' : T} {a : Addr} {o o' : HO} (h : ρ[i]? = some (.own k t)) (e : σ[i]? = some (some (.ref a))) (ho : H a = some o) (n1 : ∀ ps, o ≠ .tbl ps) (n2 : ∀ φ, o ≠ .ext φ)
    (ow : OwnAt K mg F (upd H a o') a t') : SRel K mg au (ρ.set i (.own k t')) σ F (upd H a o') ∧ Xt (au.tb ≠ []) (OwnA ρ σ) F H (OwnA (ρ.set i (.own k t')) σ) F (upd H a o') := by
  obtain ⟨a', ea, na, _, da⟩ := S.ow h
  rw [e] at ea; cases ea
  have own : ∀ {j : Nat} {k' : Option Nat} {t2 : T} {b : Addr}, (ρ.set i (.own k t'))[j]? = some (.own k' t2) → σ[j]? = some (some (.ref b)) → ∃ t3, ρ[j]? = some (.own k' t3) := by
    intro j k' t2 b h1 h2
    rcases set_get h1 with ⟨z, z2⟩ | ⟨ne, h1⟩
    · cases z2; exact ⟨t, by rw [z]; exact h⟩
    · exact ⟨t2, h1⟩
  refine ⟨⟨fun b u q => ?_, fun b hb => S.nw b ?_, tabs_upd S.tabs ho n1 n2, by rw [List.length_set]; exact S.len, fun {j t2} hj => ?_, fun {j k2 t2} hj => ?_, fun h1 h2 e1 e2 => ?_, S.nt⟩, ⟨.refl _, fun b u q _ nb => ?_, fun b hb => ?_, fun b hb => .inl hb, fun b ⟨j, k2, t2, h1, h2⟩ => ?_⟩⟩
  · rw [upd_ne (fun z => by rw [z, na] at q; cases q)]; exact S.sub _ _ q
  · by_cases z : b = a
    · subst z; rw [upd_same] at hb; cases hb
    · rw [upd_ne z] at hb; exact hb
  · rcases set_get hj with ⟨_, z⟩ | ⟨_, hj⟩
    · cases z
    · exact S.fz hj
  · rcases set_get hj with ⟨q, z⟩ | ⟨ne, hj⟩
    · cases z; exact ⟨a, by rw [q]; exact e, na, ow, da⟩
    · obtain ⟨b, eb, nb, ob, db⟩ := S.ow hj
      have hne : b ≠ a := fun z => ne (S.ds hj h (by rw [eb, z]) e)
      exact ⟨b, eb, nb, ob.mono (.refl _) (fun u q _ => by rw [upd_ne hne]; exact q), db⟩
  · obtain ⟨_, g1⟩ := own h1 e1
    obtain ⟨_, g2⟩ := own h2 e2
    exact S.ds g1 g2 e1 e2
  · rw [upd_ne (fun z => nb (by rw [z]; exact ⟨_, _, _, h, e⟩))]; exact q
  · by_cases z : b = a
    · subst z; rw [upd_same] at hb; cases hb
    · rw [upd_ne z] at hb; exact hb
  · obtain ⟨_, g⟩ := own h1 h2
    exact .inl ⟨_, _, _, g, h2⟩
end

section
variable {X : Cx} {au : Au} {W : WX}
/-! ### statements -/
def O.after (o : O) (h : FX.Env → O) : O := match o with
  | .nx ρ => h ρ
  | o => o
def gNil : FX.Env → O := .nx
def gSeq (g h : FX.Env → O) : FX.Env → O := fun ρ => (g ρ).after h
def R.o {α : Type} (r : R α) (k : α → FX.Env → O) : O := match r with
  | .ok v ρ => k v ρ
  | .err e ρ => .er e ρ
  | .stuck => .stuck
theorem PostS.step {ρ ρ1 : FX.Env} {σ σ1 : L2.St} {F H F1 H1 : Hp} {o : O} {D : Ends} (h : PostS X au W ρ σ F H o D) (X1 : Xtn au ρ σ F H ρ1 σ1 F1 H1) : PostS X au W ρ1 σ1 F1 H1 o D := by
  cases o with
  | stuck => exact h
  | nx ρ2 => exact fun σ2 F2 H2 S2 X2 => h σ2 F2 H2 S2 (X1.trans X2)
  | bk ρ2 => exact fun σ2 F2 H2 S2 X2 => h σ2 F2 H2 S2 (X1.trans X2)
  | ct ρ2 => exact fun σ2 F2 H2 S2 X2 => h σ2 F2 H2 S2 (X1.trans X2)
  | rt v ρ2 => exact fun x σ2 F2 H2 S2 X2 V2 => h x σ2 F2 H2 S2 (X1.trans X2) (VRel.start (fun b => X1.nn b) V2)
  | er e ρ2 => exact fun cls d σ2 F2 H2 S2 X2 E2 => h cls d σ2 F2 H2 S2 (X1.trans X2) E2
/-- an evaluation, then a statement's rest -/
theorem PostS.eval {α β : Type} {VR : FX.Env → L2.St → Hp → Hp → Hp → β → α → Prop} {ρ : FX.Env} {σ : L2.St} {F H : Hp} {r : R α} {k : α → FX.Env → O} {D : Ends} {Q1 : β → Hp → Prop} (h : PostS X au W ρ σ F H (r.o k) D)
    (hk : ∀ x v ρ1 F1 H1, r = .ok v ρ1 → SRel X.K X.mg au ρ1 σ F1 H1 → Xtn au ρ σ F H ρ1 σ F1 H1 → VR ρ1 σ F1 H1 H x v → PostS X au W ρ σ F H (k v ρ1) D → Q1 x H1) : Post X au W VR ρ σ F H r Q1 := by
  cases r with
  | stuck => exact h
  | err e ρ1 => exact fun cls d F1 H1 S1 X1 E1 => h cls d σ F1 H1 S1 X1 E1
  | ok v ρ1 => exact fun x F1 H1 S1 X1 V1 => hk x v ρ1 F1 H1 rfl S1 X1 V1 h
theorem rss_nil : RSs X au W [] gNil := ⟨PSs.imp pss_nil fun D σ H ⟨F, ρ, S, h⟩ => h σ F H S (Xt.refl _ _ _ _)⟩
theorem seq_post {ρ : FX.Env} {σ : L2.St} {F H : Hp} {o : O} {h : FX.Env → O} {D : Ends} (q : PostS X au W ρ σ F H (o.after h) D) : PostS X au W ρ σ F H o { D with nx := tS X au W h D } := by
  cases o with
  | nx ρ1 => exact fun σ1 F1 H1 S1 X1 => ⟨F1, ρ1, S1, q.step X1⟩
  | _ => exact q
theorem rss_cons {st : Stmt} {rest : List Stmt} {g h : FX.Env → O} (h1 : RS X au W st g) (h2 : RSs X au W rest h) : RSs X au W (st :: rest) (gSeq g h) :=
  ⟨PSs.imp (pss_cons h1.ps h2.pss) fun D σ H ⟨F, ρ, S, q⟩ => ⟨F, ρ, S, seq_post q⟩⟩
theorem rss_one {st : Stmt} {g : FX.Env → O} (h1 : RS X au W st g) : RSs X au W [st] g := ⟨pss_one h1.ps⟩
def gDrop (f : FX.Env → R Vl) : FX.Env → O := fun ρ => (f ρ).o fun _ ρ1 => .nx ρ1
def gRet (f : FX.Env → R Vl) : FX.Env → O := fun ρ => (f ρ).o fun v ρ1 => .rt v ρ1
theorem rs_expr {e : Expr} {f : FX.Env → R Vl} {pos} (he : RE X au W e f) (hs : swapsWith e none pos.line X.env = pure false := by rfl) : RS X au W (.Expr e pos) (gDrop f) :=
  ⟨PS.imp (ps_expr he.pe hs) fun D σ H ⟨F, ρ, S, q⟩ => ⟨F, ρ, S, PostS.eval q fun x v ρ1 F1 H1 e S1 X1 V1 h1 => h1 σ F1 H1 S1 X1⟩⟩
theorem rs_ret {e : Expr} {f : FX.Env → R Vl} {pos} (he : RE X au W e f) : RS X au W (.Return (some e) pos) (gRet f) :=
  ⟨PS.imp (ps_ret he.pe) fun D σ H ⟨F, ρ, S, q⟩ => ⟨F, ρ, S, PostS.eval q fun x v ρ1 F1 H1 e S1 X1 V1 h1 => h1 x σ F1 H1 S1 X1 V1⟩⟩
def gRetN : FX.Env → O := fun ρ => .rt (.fz .non) ρ
theorem rs_retN {pos} : RS X au W (.Return none pos) gRetN := ⟨PS.imp ps_retN fun D σ H ⟨F, ρ, S, q⟩ => q .non σ F H S (Xt.refl _ _ _ _) .non⟩
theorem rs_pass {pos} : RS X au W (.Pass pos) gNil := ⟨PS.imp ps_pass fun D σ H ⟨F, ρ, S, q⟩ => q σ F H S (Xt.refl _ _ _ _)⟩
theorem rs_doc {x j pos pos'} : RS X au W (.Expr (.Constant (.str x) j pos) pos') gNil := ⟨PS.imp ps_doc fun D σ H ⟨F, ρ, S, q⟩ => q σ F H S (Xt.refl _ _ _ _)⟩
theorem rs_break {pos} : RS X au W (.Break pos) .bk := ⟨PS.imp ps_break fun D σ H ⟨F, ρ, S, q⟩ => q σ F H S (Xt.refl _ _ _ _)⟩
theorem rs_continue {pos} : RS X au W (.Continue pos) .ct := ⟨PS.imp ps_continue fun D σ H ⟨F, ρ, S, q⟩ => q σ F H S (Xt.refl _ _ _ _)⟩
def gIf (c : FX.Env → R Bool) (g h : FX.Env → O) : FX.Env → O := fun ρ => (c ρ).o fun b ρ1 => if b = true then g ρ1 else h ρ1
theorem rs_if {c : Expr} {a b : List Stmt} {fc : FX.Env → R Bool} {g h : FX.Env → O} {pos} (hc : RT X au W c fc) (ha : RSs X au W a g) (hb : RSs X au W b h) : RS X au W (.If c a b pos) (gIf fc g h) := by
  refine ⟨PS.imp (ps_if hc.pt ha.pss hb.pss) fun D σ H ⟨F, ρ, S, q⟩ => ⟨F, ρ, S, PostS.eval q fun x v ρ1 F1 H1 e S1 X1 V1 h1 => ?_⟩⟩
  have V1 : x = v := V1
  subst V1
  split at h1
  · rename_i hb; rw [if_pos hb]; exact ⟨F1, ρ1, S1, h1.step X1⟩
  · rename_i hb; rw [if_neg hb]; exact ⟨F1, ρ1, S1, h1.step X1⟩

/-! ### targets -/
def tgR (X : Cx) (au : Au) (ws : List Nat) (b : T → FX.Env → Option FX.Env) : TG := fun x σ H Q => ∃ F ρ t ρ', SRel X.K X.mg au ρ σ F H ∧ Rep X.K X.mg F x t ∧ b t ρ = some ρ' ∧ ∀ σ', SRel X.K X.mg au ρ' σ' F H → (∀ a, OwnA ρ' σ' a → OwnA ρ σ a) → (∀ i, i ∉ ws → σ'[i]? = σ[i]?) → σ'.length = σ.length → Q σ' H
/-- a target takes a still value -/
structure RG (X : Cx) (au : Au) (ws : List Nat) (tg : Expr) (b : T → FX.Env → Option FX.Env) : Prop where
  pg : PG X tg (tgR X au ws b)
structure RGs (X : Cx) (au : Au) (ws : List Nat) (tgs : List Expr) (b : List T → FX.Env → Option FX.Env) : Prop where
  pg : PGs X tgs fun xs σ H Q => ∃ F ρ ts ρ', SRel X.K X.mg au ρ σ F H ∧ Reps X.K X.mg F xs ts ∧ b ts ρ = some ρ' ∧ ∀ σ', SRel X.K X.mg au ρ' σ' F H → (∀ a, OwnA ρ' σ' a → OwnA ρ σ a) → (∀ i, i ∉ ws → σ'[i]? = σ[i]?) → σ'.length = σ.length → Q σ' H
theorem PG.imp {tg : Expr} {t t' : TG} (h : PG X tg t) (i : ∀ v σ H Q, t' v σ H Q → t v σ H Q) : PG X tg t' := ⟨fun pins s σ H v u Q I r q => h.run pins s σ H v u Q I r (i v σ H Q q)⟩
theorem PGs.imp {tg : List Expr} {t t' : TGs} (h : PGs X tg t) (i : ∀ v σ H Q, t' v σ H Q → t v σ H Q) : PGs X tg t' := ⟨fun pins s σ H v u Q I r q => h.run pins s σ H v u Q I r (i v σ H Q q)⟩
def bName (i : Nat) : T → FX.Env → Option FX.Env := fun t ρ => some (ρ.set i (.fz t))
def bNil : List T → FX.Env → Option FX.Env := fun ts ρ => match ts with | [] => some ρ | _ => none
def bCons (b : T → FX.Env → Option FX.Env) (c : List T → FX.Env → Option FX.Env) : List T → FX.Env → Option FX.Env := fun ts ρ => match ts with
  | t :: r => (b t ρ).bind (c r)
  | [] => none
def bTup (n : Nat) (c : List T → FX.Env → Option FX.Env) : T → FX.Env → Option FX.Env := fun t ρ => match t with
  | .tup ts => if ts.length = n then c ts ρ else none
  | .tsq ts => if ts.length = n then c ts ρ else none
  | _ => none
theorem rg_name (i : Nat) {x : Str} {pos : Pos} (hN : X.N.Nodup) (hi : X.N[i]? = some x := by rfl) (hx : Loc X.env.scope x := by first | exact Or.inl rfl | exact Or.inr rfl) (hf : X.fn x = true ∨ X.env.scope.names.lookup x = some .local := by first | exact .inl rfl | exact .inr rfl) : RG X au [i] (.Name x pos) (bName i) := by
  refine ⟨PG.imp (pg_name hN hi hx hf) fun v σ H Q ⟨F, ρ, t, ρ', S, r, e, q⟩ => ?_⟩
  cases e
  obtain ⟨S', o⟩ := S.set_fz r i
  exact q _ S' o (fun j hj => List.getElem?_set_ne (fun e => hj (by simp [e]))) (List.length_set ..)
theorem rgs_nil : RGs X au [] [] bNil := by
  refine ⟨PGs.imp pgs_nil fun v σ H Q ⟨F, ρ, ts, ρ', S, r, e, q⟩ => ?_⟩
  cases ts with
  | nil => cases r; cases e; exact ⟨rfl, q σ S (fun _ h => h) (fun _ _ => rfl) rfl⟩
  | cons _ _ => cases e
theorem rgs_cons {ws1 ws2 : List Nat} {e : Expr} {es : List Expr} {b : T → FX.Env → Option FX.Env} {c : List T → FX.Env → Option FX.Env} (h1 : RG X au ws1 e b) (h2 : RGs X au ws2 es c) (hs : (assignEach (e :: es) X.env).map (·.2) = assign e X.env :: (assignEach es X.env).map (·.2) := by rfl) : RGs X au (ws1 ++ ws2) (e :: es) (bCons b c) := by
  refine ⟨PGs.imp (pgs_cons h1.pg h2.pg hs) fun v σ H Q ⟨F, ρ, ts, ρ', S, r, e, q⟩ => ?_⟩
  cases ts with
  | nil => cases e
  | cons t ts =>
    cases r with
    | @cons x _ xs _ rx rs =>
      obtain ⟨ρ1, e1, e2⟩ := Option.bind_eq_some_iff.mp e
      exact ⟨x, xs, rfl, F, ρ, t, ρ1, S, rx, e1, fun σ1 S1 o1 k1 l1 => ⟨F, ρ1, ts, ρ', S1, rs, e2, fun σ2 S2 o2 k2 l2 => q σ2 S2 (fun a ha => o1 a (o2 a ha)) (fun j hj => (k2 j (fun z => hj (List.mem_append_right _ z))).trans (k1 j fun z => hj (List.mem_append_left _ z))) (l2.trans l1)⟩⟩
theorem rg_tup {ws : List Nat} {es : List Expr} {k : Nat} {n : Nat} {c : List T → FX.Env → Option FX.Env} {pos : Pos} (h : RGs X au ws es c) (hc : X.calm = true := by rfl) (hn : (assignEach es X.env).length = n := by rfl) (hst : (assignEach es X.env).findIdx? (·.1) = none := by rfl) : RG X au ws (.Tuple es k pos) (bTup n c) := by
  refine ⟨PG.imp (pg_tup hc h.pg hn hst) fun v σ H Q ⟨F, ρ, t, ρ', S, r, e, q⟩ => ?_⟩
  unfold bTup at e
  split at e
  · rename_i ts
    split at e
    · rename_i hl
      cases r with
      | tup hr rs => exact ⟨_, _, rfl, .of (S.sub _ _ hr), by rw [rs.length]; exact hl, F, ρ, ts, ρ', S, rs, e, q⟩
    · cases e
  · rename_i ts
    split at e
    · rename_i hl
      cases r with
      | tsq hr rs => exact ⟨_, _, rfl, sqT_mono S.sub hr, by rw [rs.length]; exact hl, F, ρ, ts, ρ', S, rs, e, q⟩
    · cases e
  · cases e
/-! ### assignments -/
def put1 (i : Nat) (v : Vl) (ρ : FX.Env) : O := match v with
  | .fz t => .nx (ρ.set i (.fz t))
  | .own t => .nx (ρ.set i (.own none t))
  | .bor j => match esc1 (.bor j) ρ with
    | some (t, ρ1) => .nx (ρ1.set i (.fz t))
    | none => .stuck
def gSet (i : Nat) (f : FX.Env → R Vl) : FX.Env → O := fun ρ => (f ρ).o (put1 i)
theorem xtn_own {ρ ρ1 ρ' : FX.Env} {σ σ' : L2.St} {F H F1 H1 : Hp} {p : Addr} (X1 : Xtn au ρ σ F H ρ1 σ F1 H1) (hp : H p = none) (o : ∀ b, OwnA ρ' σ' b → OwnA ρ1 σ b ∨ b = p) : Xtn au ρ σ F H ρ' σ' F1 H1 :=
  ⟨X1.ff, X1.hh, X1.nn, X1.fn, fun b hb => (o b hb).elim (fun q => X1.ow b q) fun q => .inr (by rw [q]; exact hp)⟩
theorem put1_post {i : Nat} {ρ ρ1 : FX.Env} {σ : L2.St} {F H F1 H1 : Hp} {x : V} {v : Vl} {D : Ends} (S : SRel X.K X.mg au ρ σ F H) (S1 : SRel X.K X.mg au ρ1 σ F1 H1) (X1 : Xtn au ρ σ F H ρ1 σ F1 H1) (V1 : VRel X.K X.mg ρ1 σ F1 H1 H x v) (h : PostS X au W ρ σ F H (put1 i v ρ1) D) : D.nx (σ.set i (some x)) H1 := by
  cases v with
  | fz t =>
    obtain ⟨S2, o⟩ := S1.set_fz V1 i
    exact h _ F1 H1 S2 (X1.imp o)
  | own t =>
    obtain ⟨p, e, n, ow, n0, no⟩ := V1
    subst e
    obtain ⟨S2, o⟩ := S1.set_own n ow (S.nw p n0) no i
    exact h _ F1 H1 S2 (xtn_own X1 n0 o)
  | bor j =>
    simp only [put1] at h
    split at h
    · rename_i t ρ2 e
      obtain ⟨k, t', e1, e2⟩ := V1
      obtain ⟨F2, S2, X2, r⟩ := esc1_ok (v := .bor j) S1 e2 e
      obtain ⟨S3, o⟩ := S2.set_fz r i
      exact h _ F2 H1 S3 ((X1.trans X2).imp o)
    · exact h.elim
end
end FX
end

section
set_option Elab.async false
set_option linter.all false
set_option maxRecDepth 100000
set_option maxHeartbeats 4000000
namespace FX
open PySem PySem.Spec PyProof.Rows L2
section
variable {X : Cx} {au : Au} {W : WX}
theorem PostS.evalN {ρ : FX.Env} {σ : L2.St} {F H : Hp} {r : R Vl} {k : Vl → FX.Env → O} {D : Ends} {Q1 : V → Hp → Prop} (h : PostS X au W ρ σ F H (r.norm.o k) D)
    (hk : ∀ x v ρ1 F1 H1, SRel X.K X.mg au ρ1 σ F1 H1 → Xtn au ρ σ F H ρ1 σ F1 H1 → Held X.K X.mg σ F1 x v → PostS X au W ρ σ F H (k v ρ1) D → Q1 x H1) : Post X au W (VE X) ρ σ F H r Q1 :=
  norm_post (PostS.eval h fun x v ρ1 F1 H1 e S1 X1 V1 h1 => hk x v ρ1 F1 H1 S1 X1 (norm_held ⟨_, e⟩ V1) h1)
theorem rs_set (i : Nat) {x : Str} {e : Expr} {f : FX.Env → R Vl} {pos pos' : Pos} (hN : X.N.Nodup) (he : RE X au W e f) (hi : X.N[i]? = some x := by rfl) (hx : Loc X.env.scope x := by first | exact Or.inl rfl | exact Or.inr rfl) (hs : swapsWith e (some (.Name x pos')) pos.line X.env = pure false := by rfl)
    (hf : X.fn x = true ∨ X.env.scope.names.lookup x = some .local := by first | exact .inl rfl | exact .inr rfl) : RS X au W (.Assign [.Name x pos'] e pos) (gSet i f) :=
  ⟨PS.imp (ps_set hN hi hx he.pe hs hf) fun D σ H ⟨F, ρ, S, q⟩ => ⟨F, ρ, S, PostS.eval q fun x v ρ1 F1 H1 e S1 X1 V1 h1 => put1_post S S1 X1 V1 h1⟩⟩
/-- a, b, .. = e -/
def gAsg (b : T → FX.Env → Option FX.Env) (f : FX.Env → R Vl) : FX.Env → O := fun ρ => (f ρ).norm.o fun v ρ1 => match esc1 v ρ1 with
  | some (t, ρ2) => match b t ρ2 with
    | some ρ3 => .nx ρ3
    | none => .stuck
  | none => .stuck
theorem rs_asg {ws : List Nat} {tg e : Expr} {f : FX.Env → R Vl} {b : T → FX.Env → Option FX.Env} {pos : Pos} (he : RE X au W e f) (hg : RG X au ws tg b) (hs : swapsWithSole [tg] e pos.line X.env = pure false := by rfl) (hw : swappedStores [tg] e X.env = pure none := by rfl)
    (h1 : (assignEach [tg] X.env).map (·.2) = [assign tg X.env] := by rfl) : RS X au W (.Assign [tg] e pos) (gAsg b f) := by
  refine ⟨PS.imp (ps_asg he.pe hg.pg hs hw h1) fun D σ H ⟨F, ρ, S, q⟩ => ⟨F, ρ, S, PostS.evalN q fun x v ρ1 F1 H1 S1 X1 V1 h1 => ?_⟩⟩
  split at h1
  · rename_i t ρ2 e2
    obtain ⟨F2, S2, X2, r⟩ := esc1_ok S1 V1 e2
    split at h1
    · rename_i ρ3 e3
      exact ⟨F2, ρ2, t, ρ3, S2, r, e3, fun σ' S' o _ _ => h1 σ' F2 H1 S' ((X1.trans X2).imp o)⟩
    · exact h1.elim
  · exact h1.elim
/-- a, b = x, y with plain local names -/
def gPar (i j : Nat) (fa : FX.Env → R (List Vl)) : FX.Env → O := fun ρ => (fa ρ).o fun vs ρ1 => match escs vs ρ1 with
  | some ([t, u], ρ2) => .nx ((ρ2.set i (.fz t)).set j (.fz u))
  | _ => .stuck
theorem rs_par (i j : Nat) {x y : Str} {a b : Expr} {fa : FX.Env → R (List Vl)} {px py pt pos : Pos} {kt k2 pt2} (hN : X.N.Nodup) (ha : RA X au W [a, b] fa) (hc : X.calm = true := by rfl) (hi : X.N[i]? = some x := by rfl) (hj : X.N[j]? = some y := by rfl) (hij : i ≠ j := by decide)
    (hx : X.env.scope.names.lookup x = some .local := by rfl) (hy : X.env.scope.names.lookup y = some .local := by rfl)
    (hw : swappedStores [.Tuple [.Name x px, .Name y py] kt pt] (.Tuple [a, b] k2 pt2) X.env = pure (some [x, y]) := by rfl)
    (hs : swapsWithSole [.Tuple [.Name x px, .Name y py] kt pt] (.Tuple [a, b] k2 pt2) pos.line X.env = pure false := by rfl) :
    RS X au W (.Assign [.Tuple [.Name x px, .Name y py] kt pt] (.Tuple [a, b] k2 pt2) pos) (gPar i j fa) := by
  refine ⟨PS.imp (ps_par hc hN hi hj hij hx hy ha.pa hw hs) fun D σ H ⟨F, ρ, S, q⟩ => ⟨F, ρ, S, PostS.eval q fun xs vs ρ1 F1 H1 e S1 X1 V1 h1 => ?_⟩⟩
  split at h1
  · rename_i t u ρ2 e2
    obtain ⟨F2, S2, X2, r⟩ := escs_ok S1 V1 e2
    cases r with
    | cons r1 r =>
      cases r with
      | cons r2 r =>
        cases r
        obtain ⟨S3, o3⟩ := S2.set_fz r1 i
        obtain ⟨S4, o4⟩ := S3.set_fz r2 j
        exact ⟨_, _, rfl, h1 _ F2 H1 S4 ((X1.trans X2).imp fun b hb => o3 b (o4 b hb))⟩
  · exact h1.elim
/-- name op= e -/
def Nv.vl : Nv → Vl
  | .fz t => .fz t
  | .own t => .own t
def gAug (i : Nat) (g : T → T → Option Nv) (f : FX.Env → R Vl) : FX.Env → O := fun ρ => match ρ[i]? with
  | some (.fz t) => (f ρ).norm.o fun v ρ1 => match (look ρ1 v).bind (g t) with
    | some w => put1 i w.vl ρ1
    | none => .stuck
  | _ => .stuck
theorem rs_aug (i : Nat) {x : Str} {e : Expr} {f : FX.Env → R Vl} {op : Operator} {r : R2} {g : T → T → Option Nv} {pos pos' : Pos} (hN : X.N.Nodup) (ho : PIp X op r) (hg : Op2 X r g) (he : RE X au W e f) (hi : X.N[i]? = some x := by rfl) (hx : Loc X.env.scope x := by first | exact Or.inl rfl | exact Or.inr rfl)
    (hf : X.fn x = true ∨ X.env.scope.names.lookup x = some .local := by first | exact .inl rfl | exact .inr rfl) : RS X au W (.AugAssign (.Name x pos') op e pos) (gAug i g f) := by
  refine ⟨PS.imp (ps_aug hN hi hx he.pe ho hf) fun D σ H ⟨F, ρ, S, q⟩ => ?_⟩
  unfold gAug at q
  split at q
  · rename_i t et
    obtain ⟨x0, ex, rx⟩ := S.fz et
    refine ⟨x0, ex, F, ρ, S, PostS.evalN q fun y v ρ1 F1 H1 S1 X1 V1 h1 => ?_⟩
    cases e1 : look ρ1 v with
    | none => rw [e1] at h1; exact h1.elim
    | some u =>
      rw [e1] at h1
      have rx1 : RepO X.K X.mg F1 H1 x0 t := (rx.mono X1.ff).o S1.sub
      refine hg F1 H1 x0 y t u _ S1.sub rx1 (look_o S1 V1 e1) ?_
      simp only [Option.bind_some] at h1
      cases e2 : g t u with
      | none => rw [e2] at h1; exact h1.elim
      | some w =>
        rw [e2] at h1
        cases w with
        | fz w =>
          intro z F2 H2 s1 s2 s3 nw rz
          obtain ⟨F3, C⟩ := clean (K := X.K) (mg := X.mg) S1.nt s1 s3 nw
          exact put1_post S (S1.new C.s s2 C.s3 C.nw C.nt) (X1.trans (Xt.new C.s s2 C.nw)) (v := .fz w) (C.rep rz) h1
        | own w =>
          intro p F2 H2 s1 s2 s3 nw hp fp ow
          obtain ⟨F3, C⟩ := clean (K := X.K) (mg := X.mg) S1.nt s1 s3 nw
          have S2 := S1.new C.s s2 C.s3 C.nw C.nt
          refine put1_post S S2 (X1.trans (Xt.new C.s s2 C.nw)) (v := .own w) ⟨p, rfl, C.le.free fp, C.own ow, X1.nn p hp, fun ⟨j, k, t', hj, ej⟩ => ?_⟩ h1
          obtain ⟨a, ea, _, o, _⟩ := S1.ow hj
          rw [ej] at ea; cases ea
          obtain ⟨_, ho, _⟩ := o.there
          rw [hp] at ho; cases ho
  · exact q.elim
def gA : T → T → Option Nv
  | .int i, .int j => some (.fz (.int (i + j)))
  | .str a, .str b => if a.length + b.length ≤ sizeLine then some (.fz (.str (a ++ b))) else none
  | _, _ => none
theorem o2_A : Op2 X (fun x y H Q => (rI0 fun i j => .int (i + j)) x y H Q ∨ (∃ i j, x = .str i ∧ y = .str j ∧ i.length + j.length ≤ sizeLine ∧ Q (.str (i ++ j)) H)) gA := by
  intro F H x y t u Q s rx ry q
  cases rx with
  | int i => cases ry with
    | int j => exact .inl ⟨i, j, rfl, rfl, q.flat s (.int _)⟩
    | _ => exact q.elim
  | str a => cases ry with
    | str b =>
      simp only [gA] at q
      split at q
      · rename_i h; exact .inr ⟨a, b, rfl, rfl, h, q.flat s (.str _)⟩
      · exact q.elim
    | _ => exact q.elim
  | _ => exact q.elim
theorem ip_addA : PIp X .Add (fun x y H Q => (rI0 fun i j => .int (i + j)) x y H Q ∨ (∃ i j, x = .str i ∧ y = .str j ∧ i.length + j.length ≤ sizeLine ∧ Q (.str (i ++ j)) H)) := iop_add.or iop_add_str
theorem rs_augAdd (i : Nat) {x : Str} {e : Expr} {f : FX.Env → R Vl} {pos pos' : Pos} (hN : X.N.Nodup) (he : RE X au W e f) (hi : X.N[i]? = some x := by rfl) (hx : Loc X.env.scope x := by first | exact Or.inl rfl | exact Or.inr rfl)
    (hf : X.fn x = true ∨ X.env.scope.names.lookup x = some .local := by first | exact .inl rfl | exact .inr rfl) : RS X au W (.AugAssign (.Name x pos') .Add e pos) (gAug i gA f) := rs_aug i hN ip_addA o2_A he hi hx hf

/-! ### what is walked -/
/-- from the still heap F on, the iterator gives the trees ts -/
def Wk (K : PySem.W.Frag) (mg : Str → Option Value) (J : It) (F H : Hp) (ts : List T) : Prop := ∃ (G : Hp → Prop) (Y : Nat → Hp → V → Hp → Prop), Walk J ts.length G Y ∧ (∀ F' H', Same F F' → Same F' H' → G H') ∧
  ∀ i H1 x H2 F1 t, ts[i]? = some t → Same F F1 → Same F1 H1 → Y i H1 x H2 → ∃ F2, Same F1 F2 ∧ Same H1 H2 ∧ Same F2 H2 ∧ (∀ b, F2 b ≠ none → F1 b ≠ none ∨ H1 b = none) ∧ Rep K mg F2 x t
abbrev VW (X : Cx) : FX.Env → L2.St → Hp → Hp → Hp → It → List T → Prop := fun _ _ F H _ J ts => Wk X.K X.mg J F H ts
structure RI (X : Cx) (au : Au) (W : WX) (tg e : Expr) (f : FX.Env → R (List T)) : Prop where
  pi : PI X tg e (tF X au W (VW X) f)
theorem PI.imp {tg e : Expr} {w w' : TI} (h : PI X tg e w) (i : ∀ σ H R, w' σ H R → w σ H R) : PI X tg e w' := ⟨fun pins s σ H R I q => h.run pins s σ H R I (i σ H R q)⟩
theorem PI.or {tg e : Expr} {w w' : TI} (h : PI X tg e w) (h' : PI X tg e w') : PI X tg e fun σ H R => w σ H R ∨ w' σ H R := ⟨fun pins s σ H R I q => q.elim (fun q => h.run pins s σ H R I q) fun q => h'.run pins s σ H R I q⟩
theorem early_VW : Early (VW X) := fun _ _ _ _ _ _ _ _ _ h => h
theorem wk_list {F H : Hp} {a : Addr} {vs : List V} {ts : List T} (h : SqL X.K F a vs) (r : Reps X.K X.mg F vs ts) : Wk X.K X.mg (Itl X.K a) F H ts := by
  refine ⟨_, _, by rw [← r.length]; exact walk_list (xs := vs), fun F' H' s1 s2 => (s1.trans s2).seq h, fun i H1 x H2 F1 t ht s1 s2 y => ?_⟩
  obtain ⟨e, hx⟩ := y
  subst e
  obtain ⟨v, hv, rv⟩ := r.get ht
  rw [hx] at hv; cases hv
  exact ⟨F1, .refl _, .refl _, s2, fun _ h => .inl h, rv.mono s1⟩
theorem wk_tup {F H : Hp} {a : Addr} {vs : List V} {ts : List T} (h : SqT X.K F a vs) (r : Reps X.K X.mg F vs ts) : Wk X.K X.mg (Itt X.K a) F H ts := by
  refine ⟨_, _, by rw [← r.length]; exact walk_tup (xs := vs), fun F' H' s1 s2 => sqT_mono (s1.trans s2) h, fun i H1 x H2 F1 t ht s1 s2 y => ?_⟩
  obtain ⟨e, hx⟩ := y
  subst e
  obtain ⟨v, hv, rv⟩ := r.get ht
  rw [hx] at hv; cases hv
  exact ⟨F1, .refl _, .refl _, s2, fun _ h => .inl h, rv.mono s1⟩
theorem wk_range {F H : Hp} {lo : Int} {n : Nat} : Wk X.K X.mg (Itr lo n) F H ((List.range n).map fun i => .int (lo + (i : Nat))) := by
  have hl : ((List.range n).map fun i : Nat => T.int (lo + (i : Nat))).length = n := by simp
  refine ⟨fun _ => True, _, by rw [hl]; exact walk_range, fun _ _ _ _ => trivial, fun i H1 x H2 F1 t ht s1 s2 y => ?_⟩
  obtain ⟨e, hx⟩ := y
  subst e hx
  have et : t = .int (lo + (i : Nat)) := by
    rw [List.getElem?_map] at ht
    cases q : (List.range n)[i]? with
    | none => rw [q] at ht; cases ht
    | some j =>
      rw [q] at ht
      have : j = i := by
        obtain ⟨h1, h2⟩ := List.getElem?_eq_some_iff.mp q
        simpa using h2.symm
      subst this
      exact (Option.some.inj ht).symm
  subst et
  exact ⟨F1, .refl _, .refl _, s2, fun _ h => .inl h, .int _⟩
/-- a list or a tuple, walked: it is still from then on -/
def fItems (f : FX.Env → R Vl) : FX.Env → R (List T) := fun ρ => (f ρ).norm.bind fun v ρ1 => match esc1 v ρ1 with
  | some (t, ρ2) => match t.items with
    | some ts => .ok ts ρ2
    | none => .stuck
  | none => .stuck
def isTupT : T → Bool
  | .tup _ => true
  | .tsq _ => true
  | _ => false
theorem Post.imp {α β : Type} {VR : FX.Env → L2.St → Hp → Hp → Hp → β → α → Prop} {ρ : FX.Env} {σ : L2.St} {F H : Hp} {r : R α} {Q Q' : β → Hp → Prop} (h : Post X au W VR ρ σ F H r Q)
    (i : ∀ x v ρ1 F1 H1, r = .ok v ρ1 → SRel X.K X.mg au ρ1 σ F1 H1 → Xtn au ρ σ F H ρ1 σ F1 H1 → VR ρ1 σ F1 H1 H x v → Q x H1 → Q' x H1) : Post X au W VR ρ σ F H r Q' := by
  cases r with
  | stuck => exact h
  | err e ρ1 => exact h
  | ok v ρ1 => exact fun x F1 H1 S1 X1 V1 => i x v ρ1 F1 H1 rfl S1 X1 V1 (h x F1 H1 S1 X1 V1)
theorem ri_seq {tg e : Expr} {f : FX.Env → R Vl} (he : RE X au W e f) : RI X au W tg e (fItems f) := by
  refine ⟨PI.imp (PI.or (pi_list he.pe) (pi_tup he.pe)) fun σ H R ⟨F, ρ, S, h⟩ => ?_⟩
  have key : ∀ (isT : Bool), (∀ v ρ1 t ρ2, (f ρ).norm = .ok v ρ1 → esc1 v ρ1 = some (t, ρ2) → isTupT t = isT) →
      Post X au W (VE X) ρ σ F H (f ρ) (fun x H1 => if isT = true then ∃ a, x = .ref a ∧ (∃ xs, SqT X.K H1 a xs) ∧ R (Itt X.K a) H1 else ∃ a, x = .ref a ∧ (∃ xs, SqL X.K H1 a xs) ∧ R (Itl X.K a) H1) := by
    intro isT hk
    refine norm_post (Post.bind early_VW h fun x v ρ1 F1 H1 e S1 X1 V1 h1 => ?_)
    have hv := norm_held ⟨_, e⟩ V1
    split at h1
    · rename_i t ρ2 e2
      obtain ⟨F2, S2, X2, r⟩ := esc1_ok S1 hv e2
      split at h1
      · rename_i ts e3
        have hk := hk v ρ1 t ρ2 e e2
        cases r with
        | tup hr rs =>
          cases e3
          subst hk
          rw [if_pos (by rfl)]
          exact ⟨_, rfl, ⟨_, .of (S2.sub _ _ hr)⟩, h1 _ F2 H1 S2 X2 (wk_tup (.of hr) rs)⟩
        | tsq hr rs =>
          cases e3
          subst hk
          rw [if_pos (by rfl)]
          exact ⟨_, rfl, ⟨_, sqT_mono S2.sub hr⟩, h1 _ F2 H1 S2 X2 (wk_tup hr rs)⟩
        | lst hr rs =>
          cases e3
          subst hk
          rw [if_neg (by simp [isTupT])]
          exact ⟨_, rfl, ⟨_, .of (S2.sub _ _ hr)⟩, h1 _ F2 H1 S2 X2 (wk_list (.of hr) rs)⟩
        | seq hr rs =>
          cases e3
          subst hk
          rw [if_neg (by simp [isTupT])]
          exact ⟨_, rfl, ⟨_, S2.sub.seq hr⟩, h1 _ F2 H1 S2 X2 (wk_list hr rs)⟩
        | _ => cases e3
      · exact h1.elim
    · exact h1.elim
  cases e1 : (f ρ).norm with
  | stuck => exact .inl ⟨F, ρ, S, (key false fun v ρ1 t ρ2 q => by rw [e1] at q; cases q).mono fun x H z => z⟩
  | err e ρ1 => exact .inl ⟨F, ρ, S, (key false fun v ρ1 t ρ2 q => by rw [e1] at q; cases q).mono fun x H z => z⟩
  | ok v ρ1 =>
    cases e2 : esc1 v ρ1 with
    | none => exact .inl ⟨F, ρ, S, (key false fun v' ρ1' t ρ2 q q2 => by rw [e1] at q; cases q; rw [e2] at q2; cases q2).mono fun x H z => z⟩
    | some p =>
      obtain ⟨t, ρ2⟩ := p
      have kk := key (isTupT t) fun v' ρ1' t' ρ2' q q2 => by rw [e1] at q; cases q; rw [e2] at q2; cases q2; rfl
      cases e3 : isTupT t with
      | true => rw [e3] at kk; exact .inr ⟨F, ρ, S, kk.mono fun x H z => z⟩
      | false => rw [e3] at kk; exact .inl ⟨F, ρ, S, kk.mono fun x H z => z⟩
def rangeT (lo hi : Int) : List T := (List.range (hi - lo).toNat).map fun i => .int (lo + (i : Nat))
def okR (i : Int) : Bool := decide (-1000000000000 ≤ i) && decide (i ≤ 1000000000000)
def fRange1 (fa : FX.Env → R (List Vl)) : FX.Env → R (List T) := fun ρ => (fa ρ).bind fun vs ρ1 => match vs with
  | [.fz (.int n)] => if okR n = true then .ok (rangeT 0 n) ρ1 else .stuck
  | _ => .stuck
def fRange2 (fa : FX.Env → R (List Vl)) : FX.Env → R (List T) := fun ρ => (fa ρ).bind fun vs ρ1 => match vs with
  | [.fz (.int m), .fz (.int n)] => if okR m = true ∧ okR n = true then .ok (rangeT m n) ρ1 else .stuck
  | _ => .stuck
theorem okR_b {i : Int} (h : okR i = true) : -(2 ^ 62) ≤ i ∧ i < 2 ^ 62 := by
  simp only [okR, Bool.and_eq_true, decide_eq_true_eq] at h
  omega
theorem ri_range1 {tg a : Expr} {fa : FX.Env → R (List Vl)} {p pos : Pos} (hm : X.mg "range" = none) (ha : RA X au W [a] fa) (hg : Gl X "range" := by rfl) (hs : starEach [a] X.env = [(false, eval a X.env)] := by rfl) : RI X au W tg (.Call (.Name "range" p) [a] [] pos) (fRange1 fa) := by
  refine ⟨PI.imp (pi_range1 hg hm ha.pa hs) fun σ H R ⟨F, ρ, S, h⟩ => ⟨F, ρ, S, Post.bind early_VW h fun xs vs ρ1 F1 H1 e S1 X1 V1 h1 => ?_⟩⟩
  split at h1
  · rename_i n
    split at h1
    · rename_i ok
      match xs, V1 with
      | [x], V1 =>
        cases (show Rep X.K X.mg F1 x (.int n) from V1.1)
        refine ⟨n, rfl, (okR_b ok).1, (okR_b ok).2, ?_⟩
        have q := h1 (Itr 0 (n - 0).toNat) F1 H1 S1 (Xt.refl _ _ _ _) wk_range
        rwa [Int.sub_zero] at q
    · exact h1.elim
  · exact h1.elim
theorem ri_range2 {tg a b : Expr} {fa : FX.Env → R (List Vl)} {p pos : Pos} (hm : X.mg "range" = none) (ha : RA X au W [a, b] fa) (hg : Gl X "range" := by rfl) (hs : starEach [a, b] X.env = [(false, eval a X.env), (false, eval b X.env)] := by rfl) (hs2 : starEach [b] X.env = [(false, eval b X.env)] := by rfl) :
    RI X au W tg (.Call (.Name "range" p) [a, b] [] pos) (fRange2 fa) := by
  refine ⟨PI.imp (pi_range2 hg hm ha.pa hs hs2) fun σ H R ⟨F, ρ, S, h⟩ => ⟨F, ρ, S, Post.bind early_VW h fun xs vs ρ1 F1 H1 e S1 X1 V1 h1 => ?_⟩⟩
  split at h1
  · rename_i m n
    split at h1
    · rename_i ok
      match xs, V1 with
      | [x, y], V1 =>
        cases (show Rep X.K X.mg F1 x (.int m) from V1.1)
        cases (show Rep X.K X.mg F1 y (.int n) from V1.2.1)
        exact ⟨m, n, rfl, ⟨(okR_b ok.1).1, (okR_b ok.1).2, (okR_b ok.2).1, (okR_b ok.2).2⟩, h1 _ F1 H1 S1 (Xt.refl _ _ _ _) wk_range⟩
    · exact h1.elim
  · exact h1.elim
/-! ### for -/
def forL (b : T → FX.Env → Option FX.Env) (g : FX.Env → O) : List T → FX.Env → O
  | [], ρ => .nx ρ
  | t :: ts, ρ => match b t ρ with
    | none => .stuck
    | some ρ1 => match g ρ1 with
      | .nx ρ2 => forL b g ts ρ2
      | .ct ρ2 => forL b g ts ρ2
      | .bk ρ2 => .nx ρ2
      | .rt v ρ2 => .rt v ρ2
      | .er e ρ2 => .er e ρ2
      | .stuck => .stuck
def gFor (fi : FX.Env → R (List T)) (b : T → FX.Env → Option FX.Env) (g : FX.Env → O) : FX.Env → O := fun ρ => (fi ρ).o fun ts ρ1 => forL b g ts ρ1
theorem for_core {ws : List Nat} {fi : FX.Env → R (List T)} {b : T → FX.Env → Option FX.Env} {g : FX.Env → O} {D : Ends} {σ : L2.St} {H : Hp} (q : tS X au W (gFor fi b g) D σ H) : tFor (tF X au W (VW X) fi) (tgR X au ws b) (tS X au W g) D σ H := by
  obtain ⟨F, ρ, S, q⟩ := q
  refine ⟨F, ρ, S, PostS.eval q fun J ts ρ1 F1 H1 e S1 X1 V1 h1 => ?_⟩
  obtain ⟨G, Y, wk, hG, hY⟩ := V1
  refine for_it (D := D) (tb := tS X au W g) (g := tgR X au ws b) wk (fun i σ' H' => ∃ F' ρ', SRel X.K X.mg au ρ' σ' F' H' ∧ Xtn au ρ σ F H ρ' σ' F' H' ∧ Same F1 F' ∧ PostS X au W ρ σ F H (forL b g (ts.drop i) ρ') D) ⟨F1, ρ1, S1, X1, .refl _, by simpa using h1⟩ (fun i σ' H' _ ⟨F', ρ', S', _, s, _⟩ => hG F' H' s S'.sub) ?_ ?_
  · rintro i x σ' H' H2 hi ⟨F', ρ', S', X', s', h'⟩ y
    have ht : ts[i]? = some ts[i] := by simp [hi]
    obtain ⟨F0, s1, s2, s3, nw, r⟩ := hY i H' x H2 F' ts[i] ht s' S'.sub y
    obtain ⟨F2, C⟩ := clean (K := X.K) (mg := X.mg) S'.nt s1 s3 nw
    replace s1 := C.s
    replace s3 := C.s3
    replace nw := C.nw
    replace r := C.rep r
    have S2 := S'.new s1 s2 s3 nw C.nt
    have X2 := X'.trans (Xt.new s1 s2 nw)
    rw [List.drop_eq_getElem_cons hi] at h'
    simp only [forL] at h'
    cases eb : b ts[i] ρ' with
    | none => rw [eb] at h'; exact h'.elim
    | some ρ3 =>
      rw [eb] at h'
      dsimp only at h'
      refine ⟨F2, ρ', ts[i], ρ3, S2, r, eb, fun σ3 S3 o3 _ _ => ⟨F2, ρ3, S3, ?_⟩⟩
      have X3 : Xtn au ρ σ F H ρ3 σ3 F2 H2 := X2.imp o3
      have ss : Same F1 F2 := s'.trans s1
      have again : ∀ ρ4, PostS X au W ρ σ F H (forL b g (ts.drop (i + 1)) ρ4) D → ∀ σ4 F4 H4, SRel X.K X.mg au ρ4 σ4 F4 H4 → Xtn au ρ3 σ3 F2 H2 ρ4 σ4 F4 H4 → ∃ F' ρ', SRel X.K X.mg au ρ' σ4 F' H4 ∧ Xtn au ρ σ F H ρ' σ4 F' H4 ∧ Same F1 F' ∧ PostS X au W ρ σ F H (forL b g (ts.drop (i + 1)) ρ') D :=
        fun ρ4 h4 σ4 F4 H4 S4 X4 => ⟨F4, ρ4, S4, X3.trans X4, ss.trans X4.ff, h4⟩
      cases eg : g ρ3 with
      | stuck => rw [eg] at h'; exact h'.elim
      | nx ρ4 => rw [eg] at h'; exact again ρ4 h'
      | ct ρ4 => rw [eg] at h'; exact again ρ4 h'
      | bk ρ4 => rw [eg] at h'; exact fun σ4 F4 H4 S4 X4 => h' σ4 F4 H4 S4 (X3.trans X4)
      | rt v ρ4 => rw [eg] at h'; exact fun x σ4 F4 H4 S4 X4 V4 => h' x σ4 F4 H4 S4 (X3.trans X4) (VRel.start (fun b => X3.nn b) V4)
      | er e ρ4 => rw [eg] at h'; exact fun cls d σ4 F4 H4 S4 X4 E4 => h' cls d σ4 F4 H4 S4 (X3.trans X4) E4
  · rintro σ' H' ⟨F', ρ', S', X', s', h'⟩
    rw [List.drop_length] at h'
    exact h' σ' F' H' S' X'
theorem rs_for {ws : List Nat} {tg iter : Expr} {body : List Stmt} {fi : FX.Env → R (List T)} {b : T → FX.Env → Option FX.Env} {g : FX.Env → O} {pos : Pos} (hi : RI X au W tg iter fi) (hg : RG X au ws tg b) (hb : RSs X au W body g) (hp : PassesOwn (model X.prog X.w) X.A X.env X.xe) (hc : X.calm = true := by rfl)
    (hs : ∀ x, foldedSetIterable iter X.env x = pure x := by intro _; rfl) : RS X au W (.For tg iter body [] pos) (gFor fi b g) :=
  ⟨PS.imp (ps_for hp hc hi.pi hg.pg hb.pss hs) fun D σ H q => for_core q⟩
/-! ### while -/
def whL (c : FX.Env → R Bool) (g : FX.Env → O) : Nat → FX.Env → O
  | 0, _ => .stuck
  | n + 1, ρ => (c ρ).o fun b ρ1 => if b = true then match g ρ1 with
      | .nx ρ2 => whL c g n ρ2
      | .ct ρ2 => whL c g n ρ2
      | .bk ρ2 => .nx ρ2
      | .rt v ρ2 => .rt v ρ2
      | .er e ρ2 => .er e ρ2
      | .stuck => .stuck
    else .nx ρ1
def gWhile (n : Nat) (c : FX.Env → R Bool) (g : FX.Env → O) : FX.Env → O := whL c g n
theorem rs_while (n : Nat) {c : Expr} {body : List Stmt} {fc : FX.Env → R Bool} {g : FX.Env → O} {pos : Pos} (hc : RT X au W c fc) (hb : RSs X au W body g) (hp : PassesOwn (model X.prog X.w) X.A X.env X.xe) : RS X au W (.While c body [] pos) (gWhile n fc g) := by
  refine ⟨PS.imp (ps_while hp hc.pt hb.pss) fun D σ H ⟨F, ρ, S, q⟩ => ?_⟩
  refine ⟨fun m σ' H' => ∃ F' ρ', SRel X.K X.mg au ρ' σ' F' H' ∧ Xtn au ρ σ F H ρ' σ' F' H' ∧ PostS X au W ρ σ F H (whL fc g m ρ') D, ⟨n, F, ρ, S, Xt.refl _ _ _ _, q⟩, ?_⟩
  rintro m σ' H' ⟨F', ρ', S', X', h'⟩
  cases m with
  | zero => exact h'.elim
  | succ m =>
    refine ⟨F', ρ', S', ?_⟩
    have h'' : PostS X au W ρ' σ' F' H' (whL fc g (m + 1) ρ') D := h'.step X'
    simp only [whL] at h''
    refine PostS.eval h'' fun b v ρ1 F1 H1 e S1 X1 V1 h1 => ?_
    have V1 : b = v := V1
    subst V1
    split at h1
    · rename_i hb
      rw [if_pos hb]
      refine ⟨fun σ2 H2 => ∃ F2 ρ2, SRel X.K X.mg au ρ2 σ2 F2 H2 ∧ Xtn au ρ σ F H ρ2 σ2 F2 H2 ∧ PostS X au W ρ σ F H (whL fc g m ρ2) D, fun σ2 H2 z => ⟨m, Nat.lt_succ_self _, z⟩, F1, ρ1, S1, ?_⟩
      have hw : PostS X au W ρ σ F H (whL fc g (m + 1) ρ') D := h'
      simp only [whL, e, R.o] at hw
      rw [if_pos hb] at hw
      have X3 : Xtn au ρ σ F H ρ1 σ' F1 H1 := X'.trans X1
      cases eg : g ρ1 with
      | stuck => rw [eg] at hw; exact hw.elim
      | nx ρ4 => rw [eg] at hw; exact fun σ4 F4 H4 S4 X4 => ⟨F4, ρ4, S4, X3.trans X4, hw⟩
      | ct ρ4 => rw [eg] at hw; exact fun σ4 F4 H4 S4 X4 => ⟨F4, ρ4, S4, X3.trans X4, hw⟩
      | bk ρ4 => rw [eg] at hw; exact fun σ4 F4 H4 S4 X4 => hw σ4 F4 H4 S4 (X3.trans X4)
      | rt v ρ4 => rw [eg] at hw; exact fun x σ4 F4 H4 S4 X4 V4 => hw x σ4 F4 H4 S4 (X3.trans X4) (VRel.start (fun b => X3.nn b) V4)
      | er e ρ4 => rw [eg] at hw; exact fun cls d σ4 F4 H4 S4 X4 E4 => hw cls d σ4 F4 H4 S4 (X3.trans X4) E4
    · rename_i hb
      rw [if_neg hb]
      exact h1 σ' F1 H1 S1 X1
end
end FX
end

section
set_option Elab.async false
set_option linter.all false
set_option maxRecDepth 100000
set_option maxHeartbeats 4000000
namespace FX
open PySem PySem.Spec PyProof.Rows L2
/-! ### defs -/
inductive Rp where
  | ok (v : Nv) | err (e : Ex) | stuck
def endP : O → Rp
  | .nx _ => .ok (.fz .non)
  | .rt (.fz t) _ => .ok (.fz t)
  | .rt (.own t) _ => .ok (.own t)
  | .rt (.bor i) ρ => match ρ[i]? with
    | some (.own none t) => .ok (.own t)
    | some (.fz t) => .ok (.fz t)
    | _ => .stuck
  | .er e _ => .err e
  | .bk _ => .stuck
  | .ct _ => .stuck
  | .stuck => .stuck
def RpP (K : PySem.W.Frag) (mg : Str → Option Value) (F H : Hp) (r : Rp) (Q : VK) (E : XK) : Prop := match r with
  | .ok v => ResP K mg F H (some v) Q
  | .err e => ∀ cls d F' H', Same F F' → Same H H' → Same F' H' → (∀ b, F' b ≠ none → F b ≠ none ∨ H b = none) → ExR K mg F' H' e cls d → E cls d H'
  | .stuck => False
/-- the promise of a def that changes nothing: it runs as g says -/
def spP (K : PySem.W.Frag) (mg : Str → Option Value) (g : List T → Rp) : Sp := fun vs H Q E => ∃ F ts, Same F H ∧ Reps K mg F vs ts ∧ RpP K mg F H (g ts) Q E
def startP (N n : Nat) (ts : List T) : FX.Env := ts.map .fz ++ List.replicate (N - n) .un
def mkP (n N : Nat) (G : FX.Env → O) : List T → Rp := fun ts => if ts.length = n then endP (G (startP N n ts)) else .stuck
theorem startP_get {N n : Nat} {ts : List T} {i : Nat} {x : Sl} (h : (startP N n ts)[i]? = some x) : x = .un ∨ ∃ t, x = .fz t ∧ ts[i]? = some t := by
  unfold startP at h
  by_cases hi : i < ts.length
  · rw [List.getElem?_append_left (by simpa using hi), List.getElem?_map] at h
    cases e : ts[i]? with
    | none => rw [e] at h; cases h
    | some t => rw [e] at h; cases h; exact .inr ⟨t, rfl, rfl⟩
  · rw [List.getElem?_append_right (by simpa using hi), List.getElem?_replicate] at h
    split at h
    · cases h; exact .inl rfl
    · cases h
theorem startP_own {N n : Nat} {ts : List T} {σ : L2.St} {a : Addr} : ¬ OwnA (startP N n ts) σ a := fun ⟨i, k, t, h, _⟩ => by
  rcases startP_get h with e | ⟨t, e, _⟩ <;> cases e
theorem startP_rel {K : PySem.W.Frag} {mg : Str → Option Value} {au : Au} {N : List Str} {n : Nat} {ts : List T} {vs : List V} {F H : Hp} (s : Same F H) (r : Reps K mg F vs ts) (hn : ts.length = n) (nw : ∀ b, H b = none → au.new b) (ht : au.tb = []) : SRel K mg au (startP N.length n ts) (L2.start N vs) F H where
  sub := s
  nw := nw
  tabs := fun p hp => by rw [ht] at hp; cases hp
  len := by simp [startP, L2.start, r.length, hn]
  fz := fun {i t} h => by
    rcases startP_get h with e | ⟨t', e, h'⟩
    · cases e
    · cases e
      obtain ⟨v, hv, rv⟩ := r.get h'
      have hi : i < vs.length := (List.getElem?_eq_some_iff.mp hv).1
      exact ⟨v, by unfold L2.start; rw [List.getElem?_append_left (by simpa using hi), List.getElem?_map, hv]; rfl, rv⟩
  ow := fun h => by rcases startP_get h with e | ⟨t, e, _⟩ <;> cases e
  ds := fun h => by rcases startP_get h with e | ⟨t, e, _⟩ <;> cases e
  nt := fun h => absurd ht h
/-- the end of a body, as the promise wants it -/
theorem endP_post {X : Cx} {au : Au} {ρ : FX.Env} {σ : L2.St} {F H : Hp} {o : O} {Q : VK} {E : XK} (hn : ∀ a, ¬ OwnA ρ σ a) (ht : au.tb = []) (hnew : ∀ a, au.new a → H a = none) (h : RpP X.K X.mg F H (endP o) Q E) :
    PostS X au (fun cls d _ H => E cls d H) ρ σ F H o { nx := fun _ H' => Q .non H', rt := Q } := by
  have ext : ∀ {ρ' : FX.Env} {σ' : L2.St} {F' H' : Hp}, Xtn au ρ σ F H ρ' σ' F' H' → Same H H' ∧ ∀ b, F' b ≠ none → F b ≠ none ∨ H b = none := fun x => ⟨fun b o q => x.hh b o q (fun z => absurd ht z) (hn b), fun b q => by
    rcases x.fn b q with z | z | z
    · exact .inl z
    · exact .inr z
    · exact absurd z (hn b)⟩
  cases o with
  | stuck => exact h
  | bk ρ' => exact h.elim
  | ct ρ' => exact h.elim
  | nx ρ' => exact fun σ' F' H' S' X' => h .non F' H' X'.ff (ext X').1 S'.sub (ext X').2 .non
  | er e ρ' => exact fun cls d σ' F' H' S' X' E' => h cls d F' H' X'.ff (ext X').1 S'.sub (ext X').2 E'
  | rt v ρ' =>
    intro x σ' F' H' S' X' V'
    cases v with
    | fz t => exact h x F' H' X'.ff (ext X').1 S'.sub (ext X').2 V'
    | own t =>
      obtain ⟨p, e, n, ow, n0, no⟩ := V'
      subst e
      exact h p F' H' X'.ff (ext X').1 S'.sub (ext X').2 n0 n ow
    | bor i =>
      obtain ⟨k, t, e1, e2⟩ := V'
      simp only [endP, e1] at h
      obtain ⟨a, ea, na, oa, da⟩ := S'.ow e1
      rw [e2] at ea; cases ea
      cases k with
      | some j => exact h.elim
      | none => exact h a F' H' X'.ff (ext X').1 S'.sub (ext X').2 (hnew a da) na oa
theorem RpP.len {K : PySem.W.Frag} {mg : Str → Option Value} {F H : Hp} {n N : Nat} {G : FX.Env → O} {ts : List T} {Q : VK} {E : XK} (h : RpP K mg F H (mkP n N G ts) Q E) : ts.length = n ∧ RpP K mg F H (endP (G (startP N n ts))) Q E := by
  unfold mkP at h
  split at h
  · rename_i e; exact ⟨e, h⟩
  · exact h.elim
section
variable {P : Program} {w : World} {K : PySem.W.Frag} {mg : Str → Option Value} {base : Heap}
theorem fnP {x qual : Str} {st : Stmt} {f : Addr} {fd : FuncData} {N ps : List Str} {k : Nat} {G : FX.Env → O} (Fn : Fun K x qual st f fd) (S : FnScope N ps (defScope st))
    (hb : ∀ (cdv : Value) (A : Around) (outer : List PySem.Env) (s : Shared) (H : Hp) (E : XK) (au : Au), au.tb = [] → Room k (A.deeper (envOfC qual (defScope st) s.heap.objs.size f cdv)) →
      RSs (cxOf (L2.CX P w) P w K mg base N qual (defScope st) f cdv A outer s H E) au (fun cls d _ H => E cls d H) (defBody st) G) : FnOk P w K mg base (L2.CX P w) (k + 1) f fd ps (spP K mg (mkP ps.length N.length G)) := by
  refine Fn.okX S (fun vs H Q E ⟨F, ts, s0, r, h⟩ => by rw [r.length]; exact h.len.1) fun cdv A outer s H vs Q E hr ⟨F, ts, s0, r, h⟩ => ?_
  obtain ⟨hl, h⟩ := h.len
  refine ⟨_, (hb cdv A outer s H E ⟨fun _ => 0, fun b => H b = none, []⟩ rfl hr).pss, F, startP N.length ps.length ts, startP_rel s0 r hl (fun _ h => h) rfl, ?_⟩
  exact endP_post (fun a => startP_own) rfl (fun a h => h) h
end
section
variable {X : Cx} {au : Au} {W : WX}
def Rp.r (r : Rp) (ρ : FX.Env) : R Vl := match r with
  | .ok v => R.of (some v) ρ
  | .err e => .err e ρ
  | .stuck => .stuck
def fCall (g : List T → Rp) (fa : FX.Env → R (List Vl)) : FX.Env → R Vl := fEsc fa fun ts ρ => (g ts).r ρ
theorem rp_post {ρ : FX.Env} {σ : L2.St} {F H : Hp} (S : SRel X.K X.mg au ρ σ F H) {r : Rp} {Q : VK} (h : Post X au W (VE X) ρ σ F H (r.r ρ) Q) : RpP X.K X.mg F H r Q (fun cls d H => W cls d σ H) := by
  cases r with
  | stuck => exact h
  | ok v => exact res_post S h
  | err e =>
    intro cls d F' H' s1 s2 s3 nw E'
    obtain ⟨F2, C⟩ := clean (K := X.K) (mg := X.mg) S.nt s1 s3 nw
    obtain ⟨C', dx, fs, e1, e2, e3, e4, e5⟩ := E'
    exact h cls d F2 H' (S.new C.s s2 C.s3 C.nw C.nt) (Xt.new C.s s2 C.nw) ⟨C', dx, fs, e1, e2, e3, e4, C.repF e5⟩
theorem re_call {x : Str} {f : Addr} {fd : FuncData} {ps : List Str} {k : Nat} {g : List T → Rp} {e : Expr} {es : List Expr} {fa : FX.Env → R (List Vl)} {p pos : Pos} (F : FnOk X.prog X.w X.K X.mg X.base (L2.CX X.prog X.w) k f fd ps (spP X.K X.mg g)) (tk : Takes X W) (hr : Room k X.A) (hm : X.mg x = some (.ref f)) (hk : PySem.W.keepIn X.K (.ref f) = true)
    (hb : Binds X.K fd ps []) (ha : RA X au W (e :: es) fa) (hg : Gl X x := by rfl) (hdb : (x == ("__debug__" : Str)) = false := by decide) (he : starEach (e :: es) X.env = (false, eval e X.env) :: starEach es X.env := by rfl) (hpl : (backTo pos (starEach es X.env)).any (·.1) = false := by rfl) :
    RE X au W (.Call (.Name x p) (e :: es) [] pos) (fCall g fa) := by
  refine ⟨PE.imp (pe_callS (E := fun σ cls d H => W cls d σ H) F hr hg hm hk hb (fun σ => passAt tk σ) ha.pa hdb he hpl) fun σ H Q ⟨F, ρ, S, q⟩ => ?_⟩
  exact ⟨F, ρ, S, esc_post early_VE q fun xs ts ρ1 F1 H1 S1 r q1 => ⟨F1, ts, S1.sub, r, rp_post S1 q1⟩⟩
/-! ### attributes -/
def fAttr (c f : Str) (fa : FX.Env → R Vl) : FX.Env → R Vl := fun ρ => (fa ρ).norm.bind fun v ρ1 => match look ρ1 v with
  | some (.ins c' fs) => if c' = c then R.of ((fs.lookup f).map .fz) ρ1 else .stuck
  | _ => .stuck
theorem RepF.look {K : PySem.W.Frag} {mg : Str → Option Value} {F : Hp} {f : Str} : ∀ {vs : List (Str × V)} {ts : List (Str × T)} {t : T}, RepF K mg F vs ts → ts.lookup f = some t → ∃ v, vs.lookup f = some v ∧ Rep K mg F v t
  | _, _, _, .nil, e => by simp [List.lookup] at e
  | _, _, t, .cons (k := k) h r, e => by
    simp only [List.lookup] at e ⊢
    split at e
    · cases e; exact ⟨_, rfl, h⟩
    · exact RepF.look r e
theorem re_attr {c f : Str} {C : Addr} {e : Expr} {fa : FX.Env → R Vl} {pos : Pos} (hc : X.mg c = some (.ref C)) (cl : Cls X.K C) (na : NoAttr X.K C f) (he : RE X au W e fa) (hb : attributeBase e f X.env (eval e X.env) = eval e X.env := by rfl) : RE X au W (.Attribute e f pos) (fAttr c f fa) := by
  refine ⟨PE.imp (pe_fld he.pe hb) fun σ H Q ⟨F, ρ, S, h⟩ => ⟨F, ρ, S, Post.bindN early_VE h fun x v ρ1 F1 H1 S1 X1 V1 h1 => ?_⟩⟩
  split at h1
  · rename_i c' fs e1
    split at h1
    · rename_i ec
      subst ec
      cases look_o S1 V1 e1 with
      | ins hc' ha r =>
        rw [hc] at hc'
        cases hc'
        cases e2 : fs.lookup f with
        | none => rw [e2] at h1; exact h1.elim
        | some t =>
          rw [e2] at h1
          obtain ⟨v', ev, rv⟩ := r.look e2
          exact ⟨_, C, _, _, v', rfl, ha, cl, na, ev, h1 v' F1 H1 S1 (Xt.refl _ _ _ _) rv⟩
    · exact h1.elim
  · exact h1.elim
/-! ### own exceptions, one field -/
/-- the promise of PartError.__init__ -/
def spXI (K : PySem.W.Frag) : Sp := fun vs H Q _ => ∃ (a C : Addr) (v : V), vs = [.ref a, v] ∧ OexC K C ∧ PySem.W.findIn K (.ref C) "value" = some none ∧ H a = some (exo a C none) ∧ ∀ dx, H dx = none → dx ≠ a → Q .non (upd (upd H dx (exd dx [("value", v)])) a (exo a C (some dx)))
structure ExcC (K : PySem.W.Frag) (C fI : Addr) : Prop where
  ox : OexC K C
  nv : PySem.W.findIn K (.ref C) "value" = some none
  init : PySem.W.findIn K (.ref C) "__init__" = some (some (.ref fI))
  tyI : PySem.W.typeIn K (.ref fI) = some (.type "function")
def gRaise (c : Str) (fa : FX.Env → R (List Vl)) : FX.Env → O := fun ρ => (fa ρ).o fun vs ρ1 => match escs vs ρ1 with
  | some ([t], ρ2) => .er ⟨c, [("value", t)]⟩ ρ2
  | _ => .stuck
theorem rs_raise {c : Str} {C fI : Addr} {fd : FuncData} {k : Nat} {e : Expr} {fa : FX.Env → R (List Vl)} {p p2 pos : Pos} (T : ExcC X.K C fI) (FI : FnOk X.prog X.w X.K X.mg X.base (L2.CX X.prog X.w) k fI fd ["self", "value"] (spXI X.K)) (tk : Takes X W) (hr : Room (k + 1) X.A) (hb : Binds X.K fd ["self", "value"] [])
    (hm : X.mg c = some (.ref C)) (ha : RA X au W [e] fa) (hg : Gl X c := by rfl) (hc : X.calm = true := by rfl) (hdb : (c == ("__debug__" : Str)) = false := by decide) (he : starEach [e] X.env = (false, eval e X.env) :: starEach [] X.env := by rfl) (hpl : (backTo p2 (starEach [] X.env)).any (·.1) = false := by rfl) :
    RS X au W (.Raise (some (.Call (.Name c p) [e] [] p2)) none pos) (gRaise c fa) := by
  have hx : Passes (L2.CX X.prog X.w) X (fun _ _ _ => False) := fun _ _ _ _ _ _ _ h => by
    obtain ⟨_, _, _, _, _, _, _, _, _, _, _, _, z⟩ := h
    exact z.elim
  refine ⟨PS.imp (ps_raise hc tk (pmk_oex T.ox T.init T.tyI FI hr hb .nil hx hg hm ha.pa hdb he hpl)) fun D σ H ⟨F, ρ, S, q⟩ => ⟨F, ρ, S, PostS.eval q fun xs vs ρ1 F1 H1 e S1 X1 V1 h1 => ?_⟩⟩
  split at h1
  · rename_i t ρ2 e2
    obtain ⟨F2, S2, X2, r⟩ := escs_ok S1 V1 e2
    cases r with
    | @cons x _ _ _ rx r =>
      cases r
      refine ⟨by simp, fun a na => ⟨a, C, x, by simp, T.ox, T.nv, upd_same, fun dx nd ne => ⟨rfl, dx, [("value", x)], upd_same, by rw [upd_ne ne]; exact upd_same, ?_, ?_⟩⟩⟩
      · rw [upd_ne ne] at nd; exact nd
      · have nd' : H1 dx = none := by rw [upd_ne ne] at nd; exact nd
        have eh : upd (del (upd (upd (upd H1 a (exo a C none)) dx (exd dx [("value", x)])) a (exo a C (some dx))) a) dx (.xd [("value", x)]) = upd H1 dx (.xd [("value", x)]) := by
          funext b
          by_cases h1 : b = dx
          · rw [h1, upd_same, upd_same]
          · rw [upd_ne h1, upd_ne h1]
            by_cases h2 : b = a
            · rw [h2, del_same, na]
            · rw [del_ne h2, upd_ne h2, upd_ne h1, upd_ne h2]
        rw [eh]
        have s2 : Same H1 (upd H1 dx (.xd [("value", x)])) := same_upd nd'
        have nw : ∀ b, F2 b ≠ none → F2 b ≠ none ∨ H1 b = none := fun b h => .inl h
        exact h1 _ _ σ F2 _ (S2.new (.refl _) s2 (S2.sub.trans s2) nw S2.nt) ((X1.trans X2).trans (Xt.new (.refl _) s2 nw)) ⟨C, dx, _, hm, rfl, rfl, upd_same, .cons rx .nil⟩
  · exact h1.elim
end
end FX
end

section
set_option Elab.async false
set_option linter.all false
set_option maxRecDepth 100000
set_option maxHeartbeats 4000000
namespace FX
open PySem PySem.Spec PyProof.Rows L2
/-! ### comprehensions -/
def wipeE (ρ : FX.Env) : List Nat → FX.Env
  | [] => ρ
  | v :: vs => (wipeE ρ vs).set v .un
/-- behind a block: its own slots as they were -/
def backE (ρ : FX.Env) : List Nat → FX.Env → FX.Env
  | [], ρ' => ρ'
  | v :: vs, ρ' => (backE ρ vs ρ').set v (ρ[v]?.getD .un)
theorem wipeE_length (ρ : FX.Env) : ∀ vs, (wipeE ρ vs).length = ρ.length
  | [] => rfl
  | v :: vs => by unfold wipeE; rw [List.length_set, wipeE_length ρ vs]
theorem backE_length (ρ ρ' : FX.Env) : ∀ vs, (backE ρ vs ρ').length = ρ'.length
  | [] => rfl
  | v :: vs => by unfold backE; rw [List.length_set, backE_length ρ ρ' vs]
theorem wipeE_get {ρ : FX.Env} {i : Nat} {x : Sl} : ∀ {vs : List Nat}, (wipeE ρ vs)[i]? = some x → x = .un ∨ (ρ[i]? = some x ∧ i ∉ vs)
  | [], h => .inr ⟨h, by simp⟩
  | v :: vs, h => by
    unfold wipeE at h
    rcases set_get h with ⟨_, e⟩ | ⟨ne, h⟩
    · exact .inl e
    · rcases wipeE_get h with e | ⟨e, n⟩
      · exact .inl e
      · exact .inr ⟨e, by simp only [List.mem_cons, not_or]; exact ⟨ne, n⟩⟩
theorem backE_get {ρ ρ' : FX.Env} {i : Nat} {x : Sl} (hl : ρ'.length = ρ.length) : ∀ {vs : List Nat}, (backE ρ vs ρ')[i]? = some x → (i ∈ vs ∧ ρ[i]? = some x) ∨ (i ∉ vs ∧ ρ'[i]? = some x)
  | [], h => .inr ⟨by simp, h⟩
  | v :: vs, h => by
    have hb : i < (backE ρ (v :: vs) ρ').length := (List.getElem?_eq_some_iff.mp h).1
    rw [backE_length, hl] at hb
    unfold backE at h
    rcases set_get h with ⟨e, e2⟩ | ⟨ne, h⟩
    · subst e
      refine .inl ⟨List.mem_cons_self, ?_⟩
      rw [e2, List.getElem?_eq_getElem hb]
      rfl
    · rcases backE_get hl h with ⟨m, e⟩ | ⟨m, e⟩
      · exact .inl ⟨List.mem_cons_of_mem _ m, e⟩
      · exact .inr ⟨by simp only [List.mem_cons, not_or]; exact ⟨ne, m⟩, e⟩
theorem wipe_in {σ : L2.St} {i : Nat} : ∀ {vs : List Nat}, i ∈ vs → (wipe σ vs)[i]? = if i < σ.length then some none else none
  | v :: vs, h => by
    unfold wipe
    by_cases e : v = i
    · subst e
      by_cases hl : v < σ.length
      · rw [if_pos hl, List.getElem?_set_self (by rw [wipe_length]; exact hl)]
      · rw [if_neg hl, List.getElem?_eq_none (by rw [List.length_set, wipe_length]; omega)]
    · rw [List.getElem?_set_ne e]
      rcases List.mem_cons.mp h with z | z
      · exact absurd z.symm e
      · exact wipe_in z
theorem wipe_ext {σ σ' : L2.St} {vs : List Nat} (hl : σ'.length = σ.length) (h : ∀ i, i ∉ vs → σ'[i]? = σ[i]?) : wipe σ' vs = wipe σ vs := by
  refine List.ext_getElem? fun i => ?_
  by_cases m : i ∈ vs
  · rw [wipe_in m, wipe_in m, hl]
  · rw [wipe_out m, wipe_out m]; exact h i m
theorem wipe_get {σ : L2.St} {i : Nat} {vs : List Nat} (h : i ∉ vs) : (wipe σ vs)[i]? = σ[i]? := wipe_out h
section
variable {K : PySem.W.Frag} {mg : Str → Option Value} {au : Au} {ρ ρ' : FX.Env} {σ σ' : L2.St} {F F' H H' : Hp} {vs : List Nat}
theorem wipeE_own {a : Addr} (h : OwnA (wipeE ρ vs) (wipe σ vs) a) : OwnA ρ σ a := by
  obtain ⟨i, k, t, h1, h2⟩ := h
  rcases wipeE_get h1 with e | ⟨e, n⟩
  · cases e
  · exact ⟨i, k, t, e, by rw [← wipe_get n]; exact h2⟩
theorem SRel.wipe (S : SRel K mg au ρ σ F H) (vs : List Nat) : SRel K mg au (wipeE ρ vs) (L2.wipe σ vs) F H where
  nt := S.nt
  sub := S.sub
  nw := S.nw
  tabs := S.tabs
  len := by rw [wipeE_length, wipe_length]; exact S.len
  fz := fun h => by
    rcases wipeE_get h with e | ⟨e, n⟩
    · cases e
    · obtain ⟨v, a, b⟩ := S.fz e
      exact ⟨v, by rw [wipe_get n]; exact a, b⟩
  ow := fun h => by
    rcases wipeE_get h with e | ⟨e, n⟩
    · cases e
    · obtain ⟨a, ea, b⟩ := S.ow e
      exact ⟨a, by rw [wipe_get n]; exact ea, b⟩
  ds := fun h1 h2 e1 e2 => by
    rcases wipeE_get h1 with e | ⟨a1, n1⟩
    · cases e
    · rcases wipeE_get h2 with e | ⟨a2, n2⟩
      · cases e
      · exact S.ds a1 a2 (by rw [← wipe_get n1]; exact e1) (by rw [← wipe_get n2]; exact e2)
theorem Xt.wipe {lam : Prop} (S : SRel K mg au ρ σ F H) : Xt lam (OwnA ρ σ) F H (OwnA (wipeE ρ vs) (L2.wipe σ vs)) F H := (Xt.refl _ _ _ _).imp fun b h => wipeE_own h
/-- out of the block -/
theorem SRel.back (S : SRel K mg au ρ σ F H) (S' : SRel K mg au ρ' σ' F' H') (x : Xt (au.tb ≠ []) (OwnA (wipeE ρ vs) (L2.wipe σ vs)) F H (OwnA ρ' σ') F' H') (hw : L2.wipe σ' vs = L2.wipe σ vs) :
    SRel K mg au (backE ρ vs ρ') σ F' H' ∧ Xt (au.tb ≠ []) (OwnA ρ σ) F H (OwnA (backE ρ vs ρ') σ) F' H' := by
  have ls : σ'.length = σ.length := by have := congrArg List.length hw; rwa [wipe_length, wipe_length] at this
  have hl : ρ'.length = ρ.length := by rw [S'.len, S.len, ls]
  have out : ∀ {i : Nat}, i ∉ vs → σ'[i]? = σ[i]? := fun n => by rw [← wipe_get n, hw, wipe_get n]
  -- an owned object of a hidden slot is as it was
  have hid : ∀ {i : Nat} {k : Option Nat} {t : T} {a : Addr}, i ∈ vs → ρ[i]? = some (.own k t) → σ[i]? = some (some (.ref a)) → ¬ OwnA (wipeE ρ vs) (L2.wipe σ vs) a := by
    intro i k t a m h1 h2 ⟨j, k', t', h3, h4⟩
    rcases wipeE_get h3 with e | ⟨e, n⟩
    · cases e
    · rw [wipe_get n] at h4
      have := S.ds h1 e h2 h4
      subst this
      exact n m
  have keep : ∀ {i : Nat} {k : Option Nat} {t : T}, i ∈ vs → ρ[i]? = some (.own k t) → ∃ a, σ[i]? = some (some (.ref a)) ∧ F' a = none ∧ OwnAt K mg F' H' a t ∧ OwnId au k a := by
    intro i k t m h
    obtain ⟨a, ea, na, oa, da⟩ := S.ow h
    have nh := hid m h ea
    obtain ⟨o, ho, nt, _⟩ := oa.there
    refine ⟨a, ea, ?_, oa.mono x.ff fun u hu nu => x.hh a u hu (fun _ => nu) nh, da⟩
    cases q : F' a with
    | none => rfl
    | some u =>
      rcases x.fn a (by rw [q]; simp) with z | z | z
      · exact absurd na z
      · rw [ho] at z; cases z
      · exact absurd z nh
  have own : ∀ {i : Nat} {k : Option Nat} {t : T} {a : Addr}, (backE ρ vs ρ')[i]? = some (.own k t) → σ[i]? = some (some (.ref a)) → (i ∈ vs ∧ ρ[i]? = some (.own k t)) ∨ (i ∉ vs ∧ ρ'[i]? = some (.own k t) ∧ σ'[i]? = some (some (.ref a))) := by
    intro i k t a h1 h2
    rcases backE_get hl h1 with ⟨m, e⟩ | ⟨m, e⟩
    · exact .inl ⟨m, e⟩
    · exact .inr ⟨m, e, by rw [out m]; exact h2⟩
  have apart : ∀ {i j : Nat} {k k' : Option Nat} {t t' : T} {a : Addr}, i ∈ vs → ρ[i]? = some (.own k t) → σ[i]? = some (some (.ref a)) → ρ'[j]? = some (.own k' t') → σ'[j]? = some (some (.ref a)) → False := by
    intro i j k k' t t' a m h1 h2 h3 h4
    rcases x.ow a ⟨j, k', t', h3, h4⟩ with z | z
    · exact hid m h1 h2 z
    · obtain ⟨a', ea, _, oa, _⟩ := S.ow h1
      rw [h2] at ea; cases ea
      obtain ⟨o, ho, _⟩ := oa.there
      rw [ho] at z; cases z
  refine ⟨⟨S'.sub, S'.nw, S'.tabs, by rw [backE_length, hl]; exact S.len, fun {i t} h => ?_, fun {i k t} h => ?_, fun {i j k k' t t' a} h1 h2 e1 e2 => ?_, S'.nt⟩, ⟨x.ff, fun b o h1 h2 h3 => x.hh b o h1 h2 fun z => h3 (wipeE_own z), x.nn, fun b h => ?_, fun b ⟨i, k, t, h1, h2⟩ => ?_⟩⟩
  · rcases backE_get hl h with ⟨m, e⟩ | ⟨m, e⟩
    · obtain ⟨v, a, b⟩ := S.fz e; exact ⟨v, a, b.mono x.ff⟩
    · obtain ⟨v, a, b⟩ := S'.fz e; exact ⟨v, by rw [← out m]; exact a, b⟩
  · rcases backE_get hl h with ⟨m, e⟩ | ⟨m, e⟩
    · exact keep m e
    · obtain ⟨a, ea, b⟩ := S'.ow e; exact ⟨a, by rw [← out m]; exact ea, b⟩
  · rcases own h1 e1 with ⟨m1, a1⟩ | ⟨m1, a1, b1⟩
    · rcases own h2 e2 with ⟨m2, a2⟩ | ⟨m2, a2, b2⟩
      · exact S.ds a1 a2 e1 e2
      · exact (apart m1 a1 e1 a2 b2).elim
    · rcases own h2 e2 with ⟨m2, a2⟩ | ⟨m2, a2, b2⟩
      · exact (apart m2 a2 e2 a1 b1).elim
      · exact S'.ds a1 a2 b1 b2
  · rcases x.fn b h with z | z | z
    · exact .inl z
    · exact .inr (.inl z)
    · exact .inr (.inr (wipeE_own z))
  · rcases own h1 h2 with ⟨m, a⟩ | ⟨m, a, b'⟩
    · exact .inl ⟨i, k, t, a, h2⟩
    · rcases x.ow b ⟨i, k, t, a, b'⟩ with z | z
      · exact .inl (wipeE_own z)
      · exact .inr z
end
/-- a temporary object is changed -/
theorem SRel.tmp {K : PySem.W.Frag} {mg : Str → Option Value} {au : Au} {ρ : FX.Env} {σ : L2.St} {F H : Hp} {D : Addr} {o o' : HO} (S : SRel K mg au ρ σ F H) (fD : F D = none) (oD : ¬ OwnA ρ σ D) (hD : H D = some o) (n1 : ∀ ps, o ≠ .tbl ps) (n2 : ∀ φ, o ≠ .ext φ) : SRel K mg au ρ σ F (upd H D o') where
  nt := S.nt
  sub := fun b u q => by rw [upd_ne (fun z => by rw [z, fD] at q; cases q)]; exact S.sub _ _ q
  nw := fun b hb => S.nw b (by
    by_cases z : b = D
    · subst z; rw [upd_same] at hb; cases hb
    · rw [upd_ne z] at hb; exact hb)
  tabs := tabs_upd S.tabs hD n1 n2
  len := S.len
  fz := S.fz
  ow := fun {i k t} h => by
    obtain ⟨a, ea, na, oa, da⟩ := S.ow h
    have hne : a ≠ D := fun z => oD (by rw [← z]; exact ⟨i, k, t, h, ea⟩)
    exact ⟨a, ea, na, oa.mono (.refl _) (fun u q _ => by rw [upd_ne hne]; exact q), da⟩
  ds := S.ds
theorem Xt.tmp {lam : Prop} {A A' : Addr → Prop} {F H F' H' : Hp} {D : Addr} {o' : HO} (x : Xt lam A F H A' F' H') (nD : H D = none) : Xt lam A F H A' F' (upd H' D o') where
  ff := x.ff
  hh := fun b o h1 h2 h3 => by rw [upd_ne (fun z => by rw [z, nD] at h1; cases h1)]; exact x.hh b o h1 h2 h3
  nn := fun b hb => by
    by_cases z : b = D
    · rw [z]; exact nD
    · rw [upd_ne z] at hb; exact x.nn b hb
  fn := x.fn
  ow := x.ow
abbrev WF : WX := fun _ _ _ _ => False
def lcL (vs : List Nat) (b : T → FX.Env → Option FX.Env) (ft : FX.Env → R Bool) (fe : FX.Env → R Vl) : List T → List T → FX.Env → R (List T)
  | [], acc, ρ => .ok acc ρ
  | t :: ts, acc, ρ => match b t (wipeE ρ vs) with
    | none => .stuck
    | some ρ1 => match ft ρ1 with
      | .ok true ρ2 => match (fe ρ2).norm with
        | .ok v ρ3 => match esc1 v ρ3 with
          | some (y, ρ4) => if acc.length ≤ 1000000 then lcL vs b ft fe ts (acc ++ [y]) (backE ρ vs ρ4) else .stuck
          | none => .stuck
        | _ => .stuck
      | .ok false ρ2 => lcL vs b ft fe ts acc (backE ρ vs ρ2)
      | _ => .stuck
def fLc (vs : List Nat) (fi : FX.Env → R (List T)) (b : T → FX.Env → Option FX.Env) (ft : FX.Env → R Bool) (fe : FX.Env → R Vl) : FX.Env → R Vl := fun ρ => (fi ρ).bind fun ts ρ1 => (lcL vs b ft fe ts [] ρ1).map fun ys => .own (.lst ys)
theorem le_mill {n : Nat} (h : n ≤ 1000000) : n < sizeLine := by rw [sizeLine_eq]; omega
section
variable {X : Cx} {au : Au} {W : WX}
theorem Post.okF {α β : Type} {VR : FX.Env → L2.St → Hp → Hp → Hp → β → α → Prop} {ρ : FX.Env} {σ : L2.St} {F H : Hp} {r : R α} {v : α} {ρ1 : FX.Env} {Q : β → Hp → Prop} (e : r = .ok v ρ1)
    (h : ∀ x F1 H1, SRel X.K X.mg au ρ1 σ F1 H1 → Xtn au ρ σ F H ρ1 σ F1 H1 → VR ρ1 σ F1 H1 H x v → Q x H1) : Post X au W VR ρ σ F H r Q := by
  subst e; exact h
theorem lc_of {vs ws : List Nat} {fi : FX.Env → R (List T)} {b : T → FX.Env → Option FX.Env} {ft : FX.Env → R Bool} {fe : FX.Env → R Vl} {σ : L2.St} {H : Hp} {Q : VK} (hws : ∀ i ∈ ws, i ∈ vs) (q : tF X au W (VE X) (fLc vs fi b ft fe) σ H Q) :
    tLc (tF X au W (VW X) fi) (tgR X au ws b) (tF X au WF VB ft) (tF X au WF (VE X) fe) vs σ H Q := by
  obtain ⟨F, ρ, S, h⟩ := q
  refine ⟨F, ρ, S, Post.bind early_VE h fun J ts ρ1 F1 H1 e S1 X1 V1 h1 => ?_⟩
  intro D nD
  obtain ⟨G, Y, wk, hG, hY⟩ := V1
  have nFD : F1 D = none := S1.sub.free nD
  have Sd : SRel X.K X.mg au ρ1 σ F1 (upd H1 D (.lst [])) := S1.new (.refl _) (same_upd nD) (S1.sub.trans (same_upd nD)) (fun _ h => .inl h) S1.nt
  have Xd : Xtn au ρ1 σ F1 H1 ρ1 σ F1 (upd H1 D (.lst [])) := Xt.new (.refl _) (same_upd nD) fun _ h => .inl h
  refine lc_it wk (g := tgR X au ws b) (tt := tF X au WF VB ft) (te := tF X au WF (VE X) fe) (fun i H' => ∃ F' ρ' accV acc, SRel X.K X.mg au ρ' σ F' H' ∧ Xtn au ρ1 σ F1 H1 ρ' σ F' H' ∧ Same F1 F' ∧ H' D = some (.lst accV) ∧ F' D = none ∧ ¬ OwnA ρ' σ D ∧ Reps X.K X.mg F' accV acc ∧
      Post X au W (VE X) ρ1 σ F1 H1 ((lcL vs b ft fe (ts.drop i) acc ρ').map fun ys => .own (.lst ys)) Q)
    ⟨F1, ρ1, [], [], Sd, Xd, .refl _, upd_same, nFD, fun ⟨i, k, t, h1, h2⟩ => ?_, .nil, by simpa using h1⟩ (fun i H' _ ⟨F', ρ', _, _, S', _, s, _⟩ => hG F' H' s S'.sub) ?_ ?_
  · obtain ⟨a, ea, _, oa, _⟩ := S1.ow h1
    rw [h2] at ea; cases ea
    obtain ⟨o, ho, _⟩ := oa.there
    rw [nD] at ho; cases ho
  · rintro i x H' H2 hi ⟨F', ρ', accV, acc, S', X', s', hD, fD, oD, rA, h'⟩ y
    have ht : ts[i]? = some ts[i] := by simp [hi]
    obtain ⟨F0, s1, s2, s3, nw, r⟩ := hY i H' x H2 F' ts[i] ht s' S'.sub y
    obtain ⟨F2, C⟩ := clean (K := X.K) (mg := X.mg) S'.nt s1 s3 nw
    replace s1 := C.s
    replace s3 := C.s3
    replace nw := C.nw
    replace r := C.rep r
    have S2 := S'.new s1 s2 s3 nw C.nt
    have X2 : Xtn au ρ' σ F' H' ρ' σ F2 H2 := Xt.new s1 s2 nw
    have S2w := S2.wipe vs
    have fD2 : F2 D = none := by
      cases q : F2 D with
      | none => rfl
      | some u =>
        rcases nw D (by rw [q]; simp) with z | z
        · exact absurd fD z
        · rw [hD] at z; cases z
    have hD2 : H2 D = some (.lst accV) := s2 _ _ hD
    have oD2 : ¬ OwnA (wipeE ρ' vs) (wipe σ vs) D := fun z => oD (wipeE_own z)
    rw [List.drop_eq_getElem_cons hi] at h'
    simp only [lcL] at h'
    cases eb : b ts[i] (wipeE ρ' vs) with
    | none => rw [eb] at h'; exact h'.elim
    | some ρ3 =>
      rw [eb] at h'
      dsimp only at h'
      refine ⟨F2, wipeE ρ' vs, ts[i], ρ3, S2w, r, eb, fun σ3 S3 o3 k3 l3' => ?_⟩
      have l3 : σ3.length = σ.length := by rw [l3', wipe_length]
      have hw : wipe σ3 vs = wipe σ vs := wipe_ext l3 fun j hj => (k3 j fun z => hj (hws j z)).trans (wipe_out hj)
      refine ⟨hw, F2, ρ3, S3, ?_⟩
      have X3 : Xtn au (wipeE ρ' vs) (wipe σ vs) F2 H2 ρ3 σ3 F2 H2 := (Xt.refl _ _ _ _).imp o3
      -- out of the block, at whatever state
      have out : ∀ {ρ4 : FX.Env} {F4 H4 : Hp}, SRel X.K X.mg au ρ4 σ3 F4 H4 → Xtn au ρ3 σ3 F2 H2 ρ4 σ3 F4 H4 →
          SRel X.K X.mg au (backE ρ' vs ρ4) σ F4 H4 ∧ Xtn au ρ1 σ F1 H1 (backE ρ' vs ρ4) σ F4 H4 ∧ Same F1 F4 ∧ H4 D = some (.lst accV) ∧ F4 D = none ∧ ¬ OwnA (backE ρ' vs ρ4) σ D ∧ Reps X.K X.mg F4 accV acc := by
        intro ρ4 F4 H4 S4 X4
        have X5 := X3.trans X4
        obtain ⟨Sb, Xb⟩ := S2.back S4 X5 hw
        have oD3 : ¬ OwnA ρ3 σ3 D := fun z => oD2 (o3 D z)
        have hD4 : H4 D = some (.lst accV) := X4.hh D _ hD2 (fun _ ps z => by cases z) oD3
        refine ⟨Sb, (X'.trans X2).trans Xb, (s'.trans s1).trans X4.ff, hD4, ?_, fun z => ?_, Reps.mono (s1.trans X4.ff) rA⟩
        · cases q : F4 D with
          | none => rfl
          | some u =>
            rcases X4.fn D (by rw [q]; simp) with z | z | z
            · exact absurd fD2 z
            · rw [hD2] at z; cases z
            · exact absurd z oD3
        · rcases Xb.ow D z with z | z
          · exact oD z
          · rw [hD2] at z; cases z
      cases et : ft ρ3 with
      | stuck => rw [et] at h'; exact h'.elim
      | err e' ρ4 => rw [et] at h'; exact h'.elim
      | ok bb ρ4 =>
        rw [et] at h'
        intro c F4 H4 S4 X4 V4
        have V4 : c = bb := V4
        subst V4
        cases c with
        | false =>
          rw [if_neg Bool.false_ne_true]
          obtain ⟨a1, a2, a3, a4, a5, a6, a7⟩ := out S4 X4
          exact ⟨F4, _, accV, acc, a1, a2, a3, a4, a5, a6, a7, h'⟩
        | true =>
          rw [if_pos rfl]
          refine ⟨F4, ρ4, S4, ?_⟩
          dsimp only at h'
          cases ee : (fe ρ4).norm with
          | stuck => rw [ee] at h'; exact h'.elim
          | err e' ρ5 => rw [ee] at h'; exact h'.elim
          | ok v ρ5 =>
            rw [ee] at h'
            dsimp only at h'
            refine norm_post (Post.okF ee fun yv F5 H5 S5 X5 V5 => ?_)
            have hv : Held X.K X.mg σ3 F5 yv v := norm_held ⟨_, ee⟩ V5
            cases ec : esc1 v ρ5 with
            | none => rw [ec] at h'; exact h'.elim
            | some p =>
              obtain ⟨yt, ρ6⟩ := p
              rw [ec] at h'
              dsimp only at h'
              split at h'
              · rename_i hlen
                obtain ⟨F6, S6, X6, ry⟩ := esc1_ok S5 hv ec
                obtain ⟨a1, a2, a3, a4, a5, a6, a7⟩ := out S6 ((X4.trans X5).trans X6)
                refine ⟨accV, a4, le_mill (by rw [a7.length]; exact hlen), ?_⟩
                refine ⟨F6, _, accV ++ [yv], acc ++ [yt], ?_, ?_, a3, upd_same, a5, a6, a7.append (.cons ry .nil), h'⟩
                · exact a1.tmp a5 a6 a4 (fun ps z => by cases z) (fun φ z => by cases z)
                · exact a2.tmp nD
              · exact h'.elim
  · rintro H' ⟨F', ρ', accV, acc, S', X', s', hD, fD, oD, rA, h'⟩
    rw [List.drop_length] at h'
    exact h' (.ref D) F' H' S' X' ⟨D, rfl, fD, .lst hD rA, nD, oD⟩
structure RTs (X : Cx) (au : Au) (W : WX) (ifs : List Expr) (f : FX.Env → R Bool) : Prop where
  pts : PTs X ifs (tF X au W VB f)
theorem PTs.imp {e : List Expr} {t t' : TT} (h : PTs X e t) (i : ∀ σ H Q, t' σ H Q → t σ H Q) : PTs X e t' := ⟨fun pins s σ H Q I q => h.run pins s σ H Q I (i σ H Q q)⟩
def fYes : FX.Env → R Bool := fun ρ => .ok true ρ
theorem rts_nil : RTs X au W [] fYes := ⟨PTs.imp pts_nil fun σ H Q ⟨F, ρ, S, h⟩ => h true F H S (Xt.refl _ _ _ _) rfl⟩
theorem rts_one {c : Expr} {f : FX.Env → R Bool} (h : RT X au W c f) : RTs X au W [c] f := ⟨pts_one h.pt⟩
section
variable {elt tg iter : Expr} {ifs : List Expr} {scope : Scope} {own : List (Str × Nat)} {pos spos py : Pos} {fi : FX.Env → R (List T)} {ws : List Nat} {b : T → FX.Env → Option FX.Env} {ft : FX.Env → R Bool} {fe : FX.Env → R Vl} {y : Str}
theorem re_lc (hN : X.N.Nodup) (hi : RI X au W tg iter fi) (ok : BlkOk X.N X.env.scope scope own) (hws : ∀ i ∈ ws, i ∈ own.map (·.2))
    (hg : ∀ (s : Shared) (H : Hp) (C : Addr) (cl : List (Str × Addr)) (fp : List Addr), RG (X.blk s H scope (compEnvC scope cl C X.env) fp) au ws tg b) (ht : ∀ (s : Shared) (H : Hp) (C : Addr) (cl : List (Str × Addr)) (fp : List Addr), RTs (X.blk s H scope (compEnvC scope cl C X.env) fp) au WF ifs ft)
    (he : ∀ (s : Shared) (H : Hp) (C : Addr) (cl : List (Str × Addr)) (fp : List Addr), RE (X.blk s H scope (compEnvC scope cl C X.env) fp) au WF elt fe) (hc : X.calm = true := by rfl) (hs : ∀ x, foldedSetIterable iter X.env x = pure x := by intro _; rfl) :
    RE X au W (.ListComp elt [⟨tg, iter, ifs, 0⟩] scope pos) (fLc (own.map (·.2)) fi b ft fe) :=
  ⟨PE.imp (pe_lc (g := tgR X au ws b) (tt := tF X au WF VB ft) (te := tF X au WF (VE X) fe) hc hN hi.pi ok (fun s H C cl fp => (hg s H C cl fp).pg) (fun s H C cl fp => (ht s H C cl fp).pts) (fun s H C cl fp => (he s H C cl fp).pe) hs) fun σ H Q q => lc_of hws q⟩
/-- name = [..] on one line -/
theorem rs_setLc (i : Nat) (hN : X.N.Nodup) (hsw : swapsWith (.ListComp elt [⟨tg, iter, ifs, 0⟩] scope pos) (some (.Name y py)) spos.line X.env = pure true) (hi : RI X au W tg iter fi) (ok : BlkOk X.N X.env.scope scope own) (hws : ∀ i ∈ ws, i ∈ own.map (·.2))
    (hg : ∀ (s : Shared) (H : Hp) (C : Addr) (cl : List (Str × Addr)) (fp : List Addr), RG (X.blk s H scope (compEnvC scope cl C X.env) fp) au ws tg b) (ht : ∀ (s : Shared) (H : Hp) (C : Addr) (cl : List (Str × Addr)) (fp : List Addr), RTs (X.blk s H scope (compEnvC scope cl C X.env) fp) au WF ifs ft)
    (he : ∀ (s : Shared) (H : Hp) (C : Addr) (cl : List (Str × Addr)) (fp : List Addr), RE (X.blk s H scope (compEnvC scope cl C X.env) fp) au WF elt fe) (hc : X.calm = true := by rfl) (hy : X.N[i]? = some y := by rfl) (hyl : X.env.scope.names.lookup y = some .local := by rfl) (hs : ∀ x, foldedSetIterable iter X.env x = pure x := by intro _; rfl) :
    RS X au W (.Assign [.Name y py] (.ListComp elt [⟨tg, iter, ifs, 0⟩] scope pos) spos) (gSet i (fLc (own.map (·.2)) fi b ft fe)) :=
  ⟨PS.imp (ps_setLc (g := tgR X au ws b) (tt := tF X au WF VB ft) (te := tF X au WF (VE X) fe) hc hN hy hyl hsw hi.pi ok (fun s H C cl fp => (hg s H C cl fp).pg) (fun s H C cl fp => (ht s H C cl fp).pts) (fun s H C cl fp => (he s H C cl fp).pe) hs) fun D σ H ⟨F, ρ, S, q⟩ =>
    lc_of hws ⟨F, ρ, S, PostS.eval q fun x v ρ1 F1 H1 e S1 X1 V1 h1 => put1_post S S1 X1 V1 h1⟩⟩
end
end
end FX
end

section
set_option Elab.async false
set_option linter.all false
set_option maxRecDepth 100000
set_option maxHeartbeats 4000000
namespace FX
open PySem PySem.Spec PyProof.Rows L2
/-! ### an object of a slot is changed by a method -/
/-- the method's reading r does what m says: the new content, the value handed back -/
def Mu (X : Cx) (r : V → List V → Hp → VK → Prop) (m : T → List T → Option (T × T)) : Prop := ∀ F H a t xs ts t' w Q, Same F H → F a = none → OwnAt X.K X.mg F H a t → Reps X.K X.mg F xs ts → m t ts = some (t', w) →
  (∀ z o o', H a = some o → (∀ ps, o ≠ .tbl ps) → (∀ φ, o ≠ .ext φ) → OwnAt X.K X.mg F (upd H a o') a t' → Rep X.K X.mg F z w → Q z (upd H a o')) → r (.ref a) xs H Q
def ownT (ρ : FX.Env) (i : Nat) : Option (Option Nat × T) := match ρ[i]? with
  | some (.own k t) => some (k, t)
  | _ => none
def fMut (i : Nat) (m : T → List T → Option (T × T)) (fa : FX.Env → R (List Vl)) : FX.Env → R Vl := fun ρ => match ownT ρ i with
  | none => .stuck
  | some _ => fEsc fa (fun ts ρ1 => match ownT ρ1 i with
    | none => .stuck
    | some (k, t) => match m t ts with
      | some (t', w) => .ok (.fz w) (ρ1.set i (.own k t'))
      | none => .stuck) ρ
theorem ownT_get {ρ : FX.Env} {i : Nat} {k : Option Nat} {t : T} (h : ownT ρ i = some (k, t)) : ρ[i]? = some (.own k t) := by
  unfold ownT at h
  split at h
  · cases h; assumption
  · cases h
section
variable {X : Cx} {au : Au} {W : WX}
theorem own_isList {F H : Hp} {a : Addr} {t : T} (o : OwnAt X.K X.mg F H a t) (ty : String) (h : (ty = "list" ∧ ∃ ts, t = .lst ts) ∨ (ty = "dict" ∧ ((∃ ts, t = .dK ts) ∨ ∃ ts, t = .dT ts))) : tyV X.K ty (.ref a) H := by
  rcases h with ⟨e, ts, et⟩ | ⟨e, ⟨ts, et⟩ | ⟨ts, et⟩⟩
  · subst et; cases o with | lst h r => exact .inl ⟨e, _, .of h⟩
  · subst et; cases o with | dK h r => exact .inr (.inr (.inl ⟨e, .inl ⟨_, h⟩⟩))
  · subst et; cases o with | dT h r => exact .inr (.inr (.inl ⟨e, .inr ⟨_, h⟩⟩))
def isL : T → Bool
  | .lst _ => true
  | _ => false
def isDic : T → Bool
  | .dK _ => true
  | .dT _ => true
  | _ => false
/-- only where the slot holds such an object -/
def gd (p : T → Bool) (i : Nat) (f : FX.Env → R Vl) : FX.Env → R Vl := fun ρ => match ownT ρ i with
  | some (_, t) => if p t = true then f ρ else .stuck
  | none => .stuck
theorem mut_of {i : Nat} {ty : String} {r : V → List V → Hp → VK → Prop} {m : T → List T → Option (T × T)} {fa : FX.Env → R (List Vl)} {σ : L2.St} {H : Hp} {Q : VK} (hm : Mu X r m) (p : T → Bool) (hp : ∀ t, p t = true → (ty = "list" ∧ ∃ ts, t = .lst ts) ∨ (ty = "dict" ∧ ((∃ ts, t = .dK ts) ∨ ∃ ts, t = .dT ts)))
    (q : tF X au W (VE X) (gd p i (fMut i m fa)) σ H Q) : tBM X.K ty r (tF X au W (VE X) (fVar i)) (tF X au W (VA X) fa) σ H Q := by
  obtain ⟨F, ρ, S, h⟩ := q
  unfold gd at h
  split at h
  · rename_i k t e
    split at h
    · rename_i pt
      have eg := ownT_get e
      obtain ⟨a, ea, na, oa, da⟩ := S.ow eg
      refine ⟨F, ρ, S, ?_⟩
      unfold fVar
      rw [eg]
      intro x F1 H1 S1 X1 V1
      have V1 : ∃ k t, ρ[i]? = some (.own k t) ∧ σ[i]? = some (some x) := V1
      obtain ⟨k', t', e', ex⟩ := V1
      rw [eg] at e'
      cases e'
      obtain ⟨a1, ea1, na1, oa1, da1⟩ := S1.ow eg
      rw [ex] at ea1; cases ea1
      refine ⟨own_isList oa1 ty (hp t pt), F1, ρ, S1, ?_⟩
      unfold fMut at h
      rw [e] at h
      refine esc_post early_VE (Post.step early_VE h X1) fun xs ts ρ2 F2 H2 S2 r2 h2 => ?_
      split at h2
      · exact h2.elim
      · rename_i k2 t2 e2
        have eg2 := ownT_get e2
        obtain ⟨a2, ea2, na2, oa2, da2⟩ := S2.ow eg2
        rw [ex] at ea2; cases ea2
        split at h2
        · rename_i t3 w em
          refine hm F2 H2 a1 t2 xs ts t3 w Q S2.sub na2 oa2 r2 em fun z o o' ho n1 n2 ow rz => ?_
          obtain ⟨S3, X3⟩ := S2.mut eg2 ex ho n1 n2 ow
          exact h2 z F2 _ S3 X3 rz
        · exact h2.elim
    · exact h.elim
  · exact h.elim
section
variable {x name : Str} {e : Expr} {es : List Expr} {fa : FX.Env → R (List Vl)} {np apos cpos : Pos} {id : String} {r : V → List V → Hp → VK → Prop} {m : T → List T → Option (T × T)}
theorem re_lmut (i : Nat) (slot : Slot "list" name id) (hty : typeOf (.builtin id) = pure (.type "method_descriptor")) (hm : MtR X id r) (mu : Mu X r m) (ha : RA X au W (e :: es) fa) (hN : X.N[i]? = some x := by rfl) (hv : Vis X.env.scope x := by first | exact Or.inl rfl | exact Or.inr (Or.inl rfl) | exact Or.inr (Or.inr rfl)) (hd : (x == ("__debug__" : Str)) = false := by decide)
    (hcd : (x == ("__classdict__" : Str)) = false := by decide) (hbase : attributeBase (.Name x np) name X.env (eval (.Name x np) X.env) = eval (.Name x np) X.env := by rfl)
    (hfew : ((backTo cpos (starEach (e :: es) X.env)).all (fun x => !x.1) && (backToKw cpos (keywordEach [] X.env)).all (fun x => x.1.isSome)
      && decide ((e :: es).length + ([] : List Keyword).length + (if ([] : List Keyword).isEmpty then 0 else 1) < 30)) = true := by rfl)
    (hline : (apos.endLine == cpos.line) = true := by rfl) (hs : starEach (e :: es) X.env = (false, eval e X.env) :: starEach es X.env := by rfl) (hplain : (backTo cpos (starEach es X.env)).any (·.1) = false := by rfl) :
    RE X au W (.Call (.Attribute (.Name x np) name apos) (e :: es) [] cpos) (gd isL i (fMut i m fa)) :=
  ⟨PE.imp (pe_bm PySem.F.plainAttrs_list slot hty hm (re_var (au := au) (W := W) i hN hv hd hcd).pe ha.pa hbase hfew hline hs hplain) fun σ H Q q => mut_of mu isL (fun t h => by cases t <;> first | exact .inl ⟨rfl, _, rfl⟩ | cases h) q⟩
end
def mAppend : T → List T → Option (T × T)
  | .lst ts, [t] => if ts.length ≤ 1000000 then some (.lst (ts ++ [t]), .non) else none
  | _, _ => none
theorem mu_append : Mu X rAppend mAppend := by
  intro F H a t xs ts t' w Q s na o r e q
  cases o with
  | lst h ro =>
    cases r with
    | nil => cases e
    | cons r1 r =>
      cases r with
      | cons _ _ => cases e
      | nil =>
        simp only [mAppend] at e
        split at e
        · rename_i hl
          cases e
          exact ⟨a, _, _, rfl, rfl, h, le_mill (by rw [ro.length]; exact hl), q .non _ _ h (fun ps z => by cases z) (fun φ z => by cases z) (.lst upd_same (ro.append (.cons r1 .nil))) .non⟩
        · cases e
  | _ => cases e
def mExtend : T → List T → Option (T × T)
  | .lst ts, [.lst us] => if ts.length + us.length ≤ 1000000 then some (.lst (ts ++ us), .non) else none
  | _, _ => none
theorem mu_extend : Mu X rExtend mExtend := by
  intro F H a t xs ts t' w Q s na o r e q
  cases o with
  | lst h ro =>
    cases r with
    | nil => cases e
    | cons r1 r =>
      cases r with
      | cons _ _ => cases r1 <;> cases e
      | nil =>
        cases r1 with
        | lst h1 rr =>
          simp only [mExtend] at e
          split at e
          · rename_i hl
            cases e
            exact ⟨a, _, _, _, rfl, rfl, h, s _ _ h1, by rw [ro.length, rr.length, sizeLine_eq]; omega, q .non _ _ h (fun ps z => by cases z) (fun φ z => by cases z) (.lst upd_same (ro.append rr)) .non⟩
          · cases e
        | _ => cases e
  | _ => cases e
def mPopAt : T → List T → Option (T × T)
  | .lst ts, [.int i] => match ixN ts.length i with
    | some j => match ts[j]? with
      | some t => if ts.length ≤ 1000000 then some (.lst (ts.eraseIdx j), t) else none
      | none => none
    | none => none
  | _, _ => none
theorem Reps.erase {K : PySem.W.Frag} {mg : Str → Option Value} {F : Hp} {vs : List V} {ts : List T} (n : Nat) (r : Reps K mg F vs ts) : Reps K mg F (vs.eraseIdx n) (ts.eraseIdx n) := by
  induction n generalizing vs ts with
  | zero => cases r with
    | nil => exact .nil
    | cons h r => exact r
  | succ n ih => cases r with
    | nil => exact .nil
    | cons h r => exact .cons h (ih r)
theorem mu_popAt : Mu X rPopAt mPopAt := by
  intro F H a t xs ts t' w Q s na o r e q
  cases o with
  | lst h ro =>
    cases r with
    | nil => cases e
    | cons r1 r =>
      cases r with
      | cons _ _ => cases r1 <;> cases e
      | nil =>
        cases r1 with
        | int i =>
          simp only [mPopAt] at e
          split at e
          · rename_i j ej
            split at e
            · rename_i u eu
              split at e
              · rename_i hl
                cases e
                obtain ⟨h1, h2, h3, h4⟩ := ixN_seq ej
                obtain ⟨y, ey, ry⟩ := ro.get eu
                have hlen := ro.length
                exact ⟨a, _, i, j, y, rfl, rfl, h, by omega, by omega, by rw [ro.length]; exact h1, ey, q y _ _ h (fun ps z => by cases z) (fun φ z => by cases z) (.lst upd_same (ro.erase j)) ry⟩
              · cases e
            · cases e
          · cases e
        | _ => cases e
  | _ => cases e
/-! ### x[k] = e -/
def stL (c k t : T) : Option T := match c with
  | .lst ts => match k with
    | .int i => (ixN ts.length i).map fun j => .lst (ts.set j t)
    | _ => none
  | _ => none
def stD (c k t : T) : Option T := match c with
  | .dK kvs => if kvs.length ≤ 1000000 then k.key.map fun k => .dK (putT kvs k t) else none
  | .dT kvs => if kvs.length ≤ 1000000 then k.keyT.map fun k => .dT (putT kvs k t) else none
  | _ => none
def gStore (st : T → T → T → Option T) (i : Nat) (fv fk : FX.Env → R Vl) : FX.Env → O := fun ρ => (fv ρ).norm.o fun v ρ1 => match ownT ρ1 i with
  | none => .stuck
  | some _ => (fk ρ1).norm.o fun kx ρ2 => match escs [v, kx] ρ2 with
    | some ([t, k], ρ3) => match ownT ρ3 i with
      | some (id, c) => match st c k t with
        | some c' => .nx (ρ3.set i (.own id c'))
        | none => .stuck
      | none => .stuck
    | _ => .stuck
/-- the last steps of a store: at a the content c -/
theorem store_d {F H : Hp} {a : Addr} {c k t c' : T} {x y : V} {D : Hp → Prop} (s : Same F H) (o : OwnAt X.K X.mg F H a c) (rk : Rep X.K X.mg F y k) (rt : Rep X.K X.mg F x t) (e : stD c k t = some c')
    (q : ∀ o o', H a = some o → (∀ ps, o ≠ .tbl ps) → (∀ φ, o ≠ .ext φ) → OwnAt X.K X.mg F (upd H a o') a c' → D (upd H a o')) : ∃ H4, DPut H a y x H4 ∧ D H4 := by
  cases o with
  | dK h ro =>
    simp only [stD] at e
    split at e
    · rename_i hl
      obtain ⟨k', e1, e2⟩ := Option.map_eq_some_iff.mp e
      subst e2
      refine ⟨_, .inl ⟨_, k', h, key_v rk e1, le_mill (by rw [ro.length]; exact hl), rfl⟩, q _ _ h (fun ps z => by cases z) (fun φ z => by cases z) (.dK upd_same (ro.put rt))⟩
    · cases e
  | dT h ro =>
    simp only [stD] at e
    split at e
    · rename_i hl
      obtain ⟨k', e1, e2⟩ := Option.map_eq_some_iff.mp e
      subst e2
      cases rk with
      | tup hk rk =>
        have := keys_v rk e1
        subst this
        refine ⟨_, .inr ⟨_, k', _, h, rfl, s _ _ hk, le_mill (by rw [ro.length]; exact hl), rfl⟩, q _ _ h (fun ps z => by cases z) (fun φ z => by cases z) (.dT upd_same (ro.put rt))⟩
      | _ => cases e1
    · cases e
  | _ => cases e
theorem store_l {F H : Hp} {a : Addr} {c k t c' : T} {x y : V} {D : Hp → Prop} (o : OwnAt X.K X.mg F H a c) (rk : Rep X.K X.mg F y k) (rt : Rep X.K X.mg F x t) (e : stL c k t = some c')
    (q : ∀ o o', H a = some o → (∀ ps, o ≠ .tbl ps) → (∀ φ, o ≠ .ext φ) → OwnAt X.K X.mg F (upd H a o') a c' → D (upd H a o')) : rSetL (.ref a) y x H D := by
  cases o with
  | lst h ro =>
    cases rk with
    | int i =>
      simp only [stL, Option.map_eq_some_iff] at e
      obtain ⟨j, e1, e2⟩ := e
      subst e2
      exact ⟨a, _, i, j, rfl, rfl, h, by rw [ro.length]; exact e1, q _ _ h (fun ps z => by cases z) (fun φ z => by cases z) (.lst upd_same (ro.set rt j))⟩
    | _ => cases e
  | _ => cases e
/-- what a store needs, whichever object it is -/
theorem store_core {st : T → T → T → Option T} {i : Nat} {fv fk : FX.Env → R Vl} {ρ : FX.Env} {σ : L2.St} {F H : Hp} {D : Ends} (S : SRel X.K X.mg au ρ σ F H) (h : PostS X au W ρ σ F H (gStore st i fv fk ρ) D) {R : V → V → V → Hp → Prop}
    (hk : ∀ (x y : V) (a : Addr) (F3 H3 : Hp) (c k t c' : T) (ρ3 : FX.Env) (id : Option Nat), SRel X.K X.mg au ρ3 σ F3 H3 → ρ3[i]? = some (.own id c) → OwnAt X.K X.mg F3 H3 a c → Rep X.K X.mg F3 x t → Rep X.K X.mg F3 y k → st c k t = some c' →
      (∀ o o', H3 a = some o → (∀ ps, o ≠ .tbl ps) → (∀ φ, o ≠ .ext φ) → OwnAt X.K X.mg F3 (upd H3 a o') a c' → D.nx σ (upd H3 a o')) → R x (.ref a) y H3) :
    tF X au W (VE X) fv σ H fun x H1 => tF X au W (VE X) (fVar i) σ H1 fun o H2 => tF X au W (VE X) fk σ H2 fun y H3 => R x o y H3 := by
  refine ⟨F, ρ, S, PostS.evalN h fun x v ρ1 F1 H1 S1 X1 V1 h1 => ⟨F1, ρ1, S1, ?_⟩⟩
  split at h1
  · exact h1.elim
  · rename_i p ep
    obtain ⟨id, c⟩ := p
    have eg := ownT_get ep
    unfold fVar
    rw [eg]
    intro o F2 H2 S2 X2 V2
    have V2 : ∃ k t, ρ1[i]? = some (.own k t) ∧ σ[i]? = some (some o) := V2
    obtain ⟨_, _, _, eo⟩ := V2
    refine ⟨F2, ρ1, S2, ?_⟩
    have h2 : PostS X au W ρ1 σ F2 H2 _ D := (h1.step X1).step X2
    refine PostS.evalN h2 fun y kx ρ2 F3 H3 S3 X3 V3 h3 => ?_
    split at h3
    · rename_i t k ρ4 e4
      obtain ⟨F4, S4, X4, r⟩ := escs_ok (xs := [x, y]) (vs := [v, kx]) S3 (.cons ((V1.mono X2.ff).mono X3.ff) (.cons V3 .nil)) e4
      split at h3
      · rename_i id' c2 e5
        have eg5 := ownT_get e5
        obtain ⟨a, ea, na, oa, da⟩ := S4.ow eg5
        rw [eo] at ea; cases ea
        split at h3
        · rename_i c' e6
          cases r with
          | cons rx r =>
            cases r with
            | cons ry r =>
              refine hk x y a F4 H3 c2 k t c' ρ4 id' S4 eg5 oa rx ry e6 fun o o' ho n1 n2 ow => ?_
              obtain ⟨S5, X5⟩ := S4.mut eg5 eo ho n1 n2 ow
              exact h3 σ F4 _ S5 ((X3.trans X4).trans X5)
        · exact h3.elim
      · exact h3.elim
    · exact h3.elim
section
variable {x : Str} {ie value : Expr} {fv fk : FX.Env → R Vl} {np pos' pos : Pos} {k : Nat}
theorem rs_storeL (i : Nat) (hv : RE X au W value fv) (hi : RE X au W ie fk) (hN : X.N[i]? = some x := by rfl) (hvis : Vis X.env.scope x := by first | exact Or.inl rfl | exact Or.inr (Or.inl rfl) | exact Or.inr (Or.inr rfl)) (hd : (x == ("__debug__" : Str)) = false := by decide)
    (hcd : (x == ("__classdict__" : Str)) = false := by decide)
    (ha : ∀ v, assign (.Subscript (.Name x np) ie pos') X.env v = (do
      let ov ← holding [v] (eval (.Name x np) X.env)
      let iv ← holding [v, ov] (eval ie X.env)
      standAt pos'
      holding [v, ov, iv] (setItem ov iv v)
      release [v, ov, iv] []) := by intro v; rfl)
    (hs2 : swapsWithSole [.Subscript (.Name x np) ie pos'] value pos.line X.env = pure false := by rfl) (hw : swappedStores [.Subscript (.Name x np) ie pos'] value X.env = pure none := by rfl)
    (h1 : (assignEach [.Subscript (.Name x np) ie pos'] X.env).map (·.2) = [assign (.Subscript (.Name x np) ie pos') X.env] := by rfl) : RS X au W (.Assign [.Subscript (.Name x np) ie pos'] value pos) (gStore stL i fv fk) := by
  have ho := re_var (X := X) (au := au) (W := W) (pos := np) i hN hvis hd hcd
  refine ⟨PS.imp (ps_asg hv.pe (pg_sub ho.pe hi.pe set_list (ha := ha)) hs2 hw h1) fun D σ H ⟨F, ρ, S, q⟩ => ?_⟩
  exact store_core S q fun x y a F3 H3 c k t c' ρ3 id S3 eg oa rx ry e6 q => store_l (D := D.nx σ) oa ry rx e6 q
theorem rs_storeD (i : Nat) (hr : Room k X.A) (hv : RE X au W value fv) (hi : RE X au W ie fk) (hN : X.N[i]? = some x := by rfl) (hvis : Vis X.env.scope x := by first | exact Or.inl rfl | exact Or.inr (Or.inl rfl) | exact Or.inr (Or.inr rfl)) (hd : (x == ("__debug__" : Str)) = false := by decide)
    (hcd : (x == ("__classdict__" : Str)) = false := by decide) (hs : swapsWith value (some (.Subscript (.Name x np) ie pos')) pos.line X.env = pure false := by rfl) : RS X au W (.Assign [.Subscript (.Name x np) ie pos'] value pos) (gStore stD i fv fk) := by
  have ho := re_var (X := X) (au := au) (W := W) (pos := np) i hN hvis hd hcd
  refine ⟨PS.imp (ps_dput (hu_of hr) ho.pe hi.pe hv.pe hs) fun D σ H ⟨F, ρ, S, q⟩ => ?_⟩
  exact store_core S q fun x y a F3 H3 c k t c' ρ3 id S3 eg oa rx ry e6 q => let ⟨H4, h, d⟩ := store_d (D := D.nx σ) S3.sub oa ry rx e6 q; ⟨a, H4, rfl, h, d⟩
end
end
end FX
end

section
set_option Elab.async false
set_option linter.all false
set_option maxRecDepth 100000
set_option maxHeartbeats 4000000
namespace FX
open PySem PySem.Spec PyProof.Rows L2
section
variable {X : Cx} {au : Au} {W : WX}
/-! ### nothing is claimed -/
theorem PS.no {st : Stmt} : PS X st fun _ _ _ => False := ⟨fun _ _ _ _ _ _ h => h.elim⟩
theorem rs_no {st : Stmt} : RS X au W st fun _ => .stuck := ⟨PS.imp PS.no fun _ _ _ ⟨_, _, _, h⟩ => h⟩
theorem rss_no {st : List Stmt} : RSs X au W st fun _ => .stuck := ⟨⟨fun _ _ _ _ _ _ ⟨_, _, _, h⟩ => h.elim⟩⟩
theorem re_no {e : Expr} : RE X au W e fun _ => .stuck := ⟨⟨fun _ _ _ _ _ _ ⟨_, _, _, h⟩ => h.elim⟩⟩
/-! ### *e in a display or in a call -/
def fAStar (f : FX.Env → R Vl) (g : FX.Env → R (List Vl)) : FX.Env → R (List Vl) := fun ρ => (f ρ).norm.bind fun v ρ1 => match (look ρ1 v).bind T.items with
  | some ts => (g ρ1).bind fun vs ρ2 => .ok (ts.map .fz ++ vs) ρ2
  | none => .stuck
theorem VRels.append {K : PySem.W.Frag} {mg : Str → Option Value} {σ : L2.St} {F : Hp} {xs ys : List V} {ts : List T} {vs : List Vl} (a : Reps K mg F xs ts) (b : VRels K mg σ F ys vs) : VRels K mg σ F (xs ++ ys) (ts.map .fz ++ vs) := by
  match a with
  | .nil => exact b
  | .cons h r => exact ⟨h, VRels.append r b⟩
theorem ra_star {e : Expr} {es : List Expr} {p : Pos} {f : FX.Env → R Vl} {g : FX.Env → R (List Vl)} (ha : RE X au W e f) (hr : RA X au W es g) (hs : starEach (.Starred e p :: es) X.env = (true, eval e X.env) :: starEach es X.env := by rfl) : RA X au W (.Starred e p :: es) (fAStar f g) := by
  refine ⟨PA.imp (StX.pa_star ha.pe hr.pa hs) fun σ H Q ⟨F, ρ, S, h⟩ => ⟨F, ρ, S, Post.bindN early_VA h fun x v ρ1 F1 H1 S1 X1 V1 h1 => ?_⟩⟩
  cases e1 : look ρ1 v with
  | none => rw [e1] at h1; exact h1.elim
  | some t =>
    rw [e1, Option.bind_some] at h1
    cases e2 : t.items with
    | none => rw [e2] at h1; exact h1.elim
    | some ts =>
      rw [e2] at h1
      have go : ∀ xs, Reps X.K X.mg F1 xs ts → tF X au W (VA X) g σ H1 fun ys H2 => Q (xs ++ ys) H2 := fun xs rs =>
        ⟨F1, ρ1, S1, Post.bind early_VA h1 fun ys vs ρ2 F2 H2 e S2 X2 V2 h2 => h2 (xs ++ ys) F2 H2 S2 (Xt.refl _ _ _ _) (VRels.append (Reps.mono X2.ff rs) V2)⟩
      cases look_o S1 V1 e1 with
      | lst hh rs => cases e2; exact ⟨_, _, rfl, .inr (.of hh), go _ rs⟩
      | tup hh rs => cases e2; exact ⟨_, _, rfl, .inl (.of (S1.sub _ _ hh)), go _ rs⟩
      | seq hh rs => cases e2; exact ⟨_, _, rfl, .inr hh, go _ rs⟩
      | tsq hh rs => cases e2; exact ⟨_, _, rfl, .inl (sqT_mono S1.sub hh), go _ rs⟩
      | _ => cases e2
/-! ### x[::-1] -/
theorem places_rev (n : Nat) : Builtin.Slice.slicePlaces ((n : Int) - 1) (-1) (-1) = n := by
  unfold Builtin.Slice.slicePlaces
  rw [if_neg (by decide)]
  by_cases h : n = 0
  · subst h; decide
  · rw [if_pos (by omega)]
    have : ((n : Int) - 1 - -1 - 1) / -(-1) + 1 = n := by
      have e : -(-1 : Int) = 1 := by decide
      rw [e, Int.ediv_one]; omega
    rw [this]; simp
theorem fm_congr {α β : Type} {f g : α → Option β} : ∀ {l : List α}, (∀ x ∈ l, f x = g x) → l.filterMap f = l.filterMap g
  | [], _ => rfl
  | a :: l, h => by rw [List.filterMap_cons, List.filterMap_cons, h a List.mem_cons_self, fm_congr fun x hx => h x (List.mem_cons_of_mem _ hx)]
theorem pick_rev (xs : Array Value) : ((List.range xs.size).filterMap fun (k : Nat) => xs[(((xs.size : Int) - 1) + (k : Int) * (-1)).toNat]?).toArray = xs.toList.reverse.toArray := by
  congr 1
  have e : (List.range xs.size).filterMap (fun (k : Nat) => xs[(((xs.size : Int) - 1) + (k : Int) * (-1)).toNat]?) = (List.range xs.size).map (fun k => xs.toList.reverse[k]?.getD .none) := by
    rw [← List.filterMap_eq_map]
    refine fm_congr fun k hk => ?_
    have hk : k < xs.size := by simpa using hk
    have e1 : (((xs.size : Int) - 1) + (k : Int) * (-1)).toNat = xs.size - 1 - k := by omega
    rw [e1]
    have h1 : xs.size - 1 - k < xs.size := by omega
    have h2 : k < xs.toList.reverse.length := by simpa using hk
    show xs[xs.size - 1 - k]? = some (xs.toList.reverse[k]?.getD .none)
    rw [List.getElem?_eq_getElem h2]
    simp [h1]
  rw [e]
  refine List.ext_getElem (by simp) fun i h1 h2 => ?_
  simp only [List.getElem_map, List.getElem_range]
  rw [List.getElem?_eq_getElem h2]
  rfl
section
variable {prog : Program} {w : World} {A : Around} {E : Value → Shared → Prop} {s : Shared}
theorem sliceApplied_rev {sl : Addr} {vl vu vs : Value} {n : Nat} {Q : Int × Int × Nat → Shared → Prop} (hs : s.heap.IsSliceOf sl vl vu vs) (pl : IsPart vl none) (pu : IsPart vu none) (ps : IsPart vs (some (-1)))
    (h : Q ((n : Int) - 1, -1, n) s) : wpAny (model prog w) A (Builtin.Slice.sliceApplied (.ref sl) (pure (n : Int))) Q E s := by
  obtain ⟨os, hos, hcs, hds⟩ := id hs
  unfold Builtin.Slice.sliceApplied Builtin.Slice.sliceFields
  refine wpAny_bind (wpAny_bind (wpAny_field hos hds (x := vl) rfl (wpAny_bind (wpAny_field hos hds (x := vu) rfl (wpAny_bind (wpAny_field hos hds (x := vs) rfl (wpAny_pure ?_)))))))
  refine wpAny_bind (HT.slicePart_ ps ?_)
  show wpAny _ _ (if ((-1 : Int) == 0) = true then _ else _) _ _ s
  rw [if_neg (by decide)]
  refine wpAny_bind (HT.slicePart_ pl (wpAny_bind (HT.slicePart_ pu (wpAny_bind (wpAny_pure ?_)))))
  show wpAny _ _ (pure ((n : Int) - 1, (-1 : Int), Builtin.Slice.slicePlaces ((n : Int) - 1) (-1) (-1))) _ _ s
  rw [places_rev]
  exact wpAny_pure h
theorem getItem_tuple_rev {t sl : Addr} {items : Array Value} {vl vu vs : Value} {Q : Value → Shared → Prop} (ht : IsTup s.heap t items) (hs : s.heap.IsSliceOf sl vl vu vs) (pl : IsPart vl none) (pu : IsPart vu none) (ps : IsPart vs (some (-1)))
    (h : Q (.ref s.heap.objs.size) { s with heap := s.heap.push { cls := .type "tuple", data := .seq items.toList.reverse.toArray } }) (hsz : items.size ≤ sizeLine) : wpAny (model prog w) A (getItem (.ref t) (.ref sl)) Q E s := by
  have htake : sizeOk (.seq items.toList.reverse.toArray) := by
    show items.toList.reverse.toArray.size ≤ sizeLine
    rw [List.size_toArray, List.length_reverse, Array.length_toList]
    exact hsz
  obtain ⟨os, hos, hcs, hds⟩ := id hs
  have hTs : s.TypeIs (.ref sl) "slice" := ⟨os, hos, hcs⟩
  unfold getItem
  try with_reducible refine wpAny_holding ?_
  first | refine wpAny_bind (wpAny_pure ?_) | skip
  refine wpAny_bind (wpAny_sequenceKey ht.typeIs (by decide) ?_)
  refine wpAny_bind (wpAny_callSpecial?_slot (name := Str.ofString "__getitem__") ht.typeIs PyProof.Rows.slot_tuple_getitem
    (wpAny_call_entry PyProof.Rows.slot_tuple_getitem ht.typeIs entry_tuple_getitem ?_ (args_tuple_getitem _ _)))
  show wpAny _ _ (Builtin.Tuple.tupleItemsOf (.ref t) >>= _) _ _ s
  refine wpAny_bind (tupleItemsOf_ ht ?_)
  refine wpAny_bind (wpAny_typeOf hTs ?_)
  rw [if_pos (by decide)]
  refine wpAny_bind (sliceApplied_rev hs pl pu ps ?_)
  have hno : ¬ (((((items.size : Int) - 1) == 0) && ((-1 : Int) == 1) && (items.size == items.size)) = true) := by simp
  show wpAny _ _ (if ((((items.size : Int) - 1) == 0) && ((-1 : Int) == 1) && (items.size == items.size)) = true then _ else _) _ _ s
  rw [if_neg hno, pick_rev]
  first
    | exact wpAny_bind (m := Builtin.Tuple.tupleExact _) (wpAny_newObj_type (wpAny_pure ⟨_, rfl, wpAny_pure h⟩) htake)
    | exact wpAny_bind (m := Builtin.Tuple.tupleExact _) (wpAny_newObj_type (wpAny_bind (wpAny_pure (wpAny_pure ⟨_, rfl, wpAny_pure h⟩))) htake)
    | exact wpAny_bind (wpAny_bind (m := Builtin.Tuple.tupleExact _) (wpAny_newObj_type (wpAny_pure (wpAny_pure ⟨_, rfl, wpAny_pure h⟩)) htake))
    | exact wpAny_bind (wpAny_bind (m := Builtin.Tuple.tupleExact _) (wpAny_newObj_type (wpAny_pure ⟨_, rfl, wpAny_pure h⟩) htake))
end
def tRevA (K : PySem.W.Frag) (te : TE) : TE := fun σ H Q => te σ H fun x H1 => ∃ a xs, x = .ref a ∧ ((SqT K H1 a xs ∧ ∀ p, H1 p = none → Q (.ref p) (upd H1 p (.tup xs.reverse))) ∨ (SqL K H1 a xs ∧ ∀ p, H1 p = none → Q (.ref p) (upd H1 p (.lst xs.reverse))))
theorem pe_revA {e : Expr} {te : TE} {k : Nat} {p1 p2 p3 pos : Pos} (he : PE X e te) : PE X (.Subscript e (.Slice none none (some (.UnaryOp .USub (.Constant (.int 1) k p1) p2)) p3) pos) (tRevA X.K te) := by
  refine ⟨fun pins s σ H Q I h => ?_⟩
  refine Subscript_ (thn (he.run pins s σ H _ I h) fun v s1 ⟨x, H1, I1, r1, q1⟩ => ?_)
  obtain ⟨a, xs, ex, hq⟩ := q1
  subst ex
  cases r1
  have hst : PO X (some (.UnaryOp .USub (.Constant (.int 1) k p1) p2)) (tPart (tUn (rU fun i => .int (-i)) (tC (.int 1)))) := po_some (pe_un un_neg pe_int)
  refine wpAny_Slice (thn (po_none.run pins s1 σ H1 (fun o H2 => o = none ∧ H2 = H1) I1 ⟨rfl, rfl⟩) fun vl s2 ⟨l, H2, I2, pl, el, e2⟩ => ?_)
  subst el e2
  refine thn (po_none.run pins s2 σ H2 (fun o H3 => o = none ∧ H3 = H2) I2 ⟨rfl, rfl⟩) fun vu s3 ⟨u, H3, I3, pu, eu, e3⟩ => ?_
  subst eu e3
  refine thn (hst.run pins s3 σ H3 (fun o H4 => o = some (-1) ∧ H4 = H3) I3 ⟨1, rfl, -1, rfl, rfl, rfl⟩) fun vs s4 ⟨o, H4, I4, ps, eo, e4⟩ => ?_
  subst eo e4
  have I5 : Inv X pins σ H4 { s4 with heap := s4.heap.push { cls := .type "slice", data := .fields #[vl, vu, vs] } } := I4.kept (t' := s4.toks) fun b ob q => Heap.get?_push_of_some _ q
  show wpAny (model X.prog X.w) X.A (subscriptTail e (.Slice none none (some (.UnaryOp .USub (.Constant (.int 1) k p1) p2)) p3) (.ref a) (.ref s4.heap.objs.size)) (EP X pins σ Q) X.xe { s4 with heap := s4.heap.push { cls := .type "slice", data := .fields #[vl, vu, vs] } }
  rcases hq with ⟨hx, q⟩ | ⟨hx, q⟩
  · obtain ⟨its, r, ht, hz⟩ := I5.tuple hx
    have hlen := r.length
    refine tail_any (ops := [.ref a, .ref s4.heap.objs.size]) ht.typeIs PyProof.Rows.slot_tuple_getitem.lookup ?_ (by with_unfolding_all rfl)
    refine getItem_tuple_rev ht (Heap.IsSliceOf.new _ vl vu vs) pl pu ps ?_ (by rw [List.size_toArray]; omega)
    refine ⟨.ref _, _, I5.laid (t' := s4.toks) (o := .tup xs.reverse) (fun b ob q => Heap.get?_push_of_some _ q) (Nat.le_refl _) ?_, rfl, q _ (I5.hok.fresh (Nat.le_refl _))⟩
    exact ⟨by rw [List.length_reverse]; exact hz, _, r.reverse, IsTup.new _ _⟩
  · obtain ⟨its, r, ht, hz⟩ := I5.list hx
    have hlen := r.length
    refine tail_any (ops := [.ref a, .ref s4.heap.objs.size]) ht.isList.typeIs (PySem.slot_list_getitem.lookup) ?_ (by with_unfolding_all rfl)
    refine wpAny_getItem_list_slice ht.isList (Heap.IsSliceOf.new _ vl vu vs) pl pu ps (by decide) ?_ (by rw [List.size_toArray]; omega)
    rw [PySem.W.krv_pick]
    refine ⟨.ref _, _, I5.laid (t' := s4.toks) (o := .lst xs.reverse) (fun b ob q => Heap.get?_push_of_some _ q) (Nat.le_refl _) ?_, rfl, q _ (I5.hok.fresh (Nat.le_refl _))⟩
    exact ⟨by rw [List.length_reverse]; exact hz, _, 0, r.reverse, Heap.get?_push_size _ rfl⟩
def aRev : T → Option Nv
  | .lst ts => some (.own (.lst ts.reverse))
  | .tup ts => some (.fz (.tup ts.reverse))
  | _ => none
def fRev (f : FX.Env → R Vl) : FX.Env → R Vl := fun ρ => (f ρ).norm.bind fun v ρ1 => R.of ((look ρ1 v).bind aRev) ρ1
theorem re_rev {e : Expr} {f : FX.Env → R Vl} {k : Nat} {p1 p2 p3 pos : Pos} (he : RE X au W e f) : RE X au W (.Subscript e (.Slice none none (some (.UnaryOp .USub (.Constant (.int 1) k p1) p2)) p3) pos) (fRev f) := by
  refine ⟨PE.imp (pe_revA he.pe) fun σ H Q ⟨F, ρ, S, h⟩ => ⟨F, ρ, S, Post.bindN early_VE h fun x v ρ1 F1 H1 S1 X1 V1 h1 => ?_⟩⟩
  have q := res_post S1 h1
  cases e1 : look ρ1 v with
  | none => rw [e1] at q; exact q.elim
  | some t =>
    rw [e1, Option.bind_some] at q
    cases look_o S1 V1 e1 with
    | lst h r => exact ⟨_, _, rfl, .inr ⟨.of h, fun p hp => (show ResP X.K X.mg F1 H1 (some (.own (.lst _))) Q from q).made S1.sub hp (.lst upd_same r.reverse)⟩⟩
    | tup h r => exact ⟨_, _, rfl, .inl ⟨.of (S1.sub _ _ h), fun p hp => (show ResP X.K X.mg F1 H1 (some (.fz (.tup _))) Q from q).laid S1.sub hp (.tup upd_same (Reps.mono (same_upd (S1.sub.free hp)) r.reverse))⟩⟩
    | _ => exact q.elim
end
end FX
end

section
set_option Elab.async false
set_option linter.all false
set_option maxRecDepth 100000
set_option maxHeartbeats 4000000
namespace FX
open PySem PySem.Spec PyProof.Rows L2
set_option maxHeartbeats 1000000 in
theorem meets_enum1 {v : Value} {o : Obj} {H : Heap → Prop} (B : Begins v o H) :
    Meets (Builtin.«enumerate.__new__» ⟨[.type "enumerate", v], []⟩) (fun _ R s => H s.heap ∧
      R (.ok (.ret (.ref (s.heap.push o).objs.size))) { s with heap := (s.heap.push o).push { cls := .type "enumerate", data := .fields #[.none, .bool false, .ref s.heap.objs.size, rawInt 0, .none, .none] } }) :=
  .of_wp fun prog w A R s h => by
    obtain ⟨hp, g, d, tk, os⟩ := s; obtain ⟨h1, h⟩ := h
    have hsub := sub_enumerate
    have q1 : ∀ {A' : Around} {E : Value → Shared → Prop} {Q : Value → Shared → Prop}, Q (.ref hp.objs.size) ⟨hp.push o, g, d, tk, os⟩ → wpAny (model prog w) A' (pyIter v) Q E ⟨hp, g, d, tk, os⟩ :=
      fun q => B.iter prog w _ _ ⟨hp, g, d, tk, os⟩ _ h1 q
    wp_walk using q1
    refine wpAny_stack_any fun st => wpAny_pure ?_
    split
    · rename_i c _ _ _ _ _
      cases (c == Value.type "enumerate")
      · wp_walk using q1
        exact ⟨_, rfl, h⟩
      · wp_walk using q1
        exact ⟨_, rfl, h⟩
    · wp_walk using q1
      exact ⟨_, rfl, h⟩
section
variable {prog : Program} {w : World} {A : Around} {E : Value → Shared → Prop} {s : Shared}
theorem enum_begins1 {v : Value} {o : Obj} {H : Heap → Prop} {Q : Value → Shared → Prop} (B : Begins v o H) (h1 : H s.heap)
    (h : ∀ h', IsEnum h' (s.heap.objs.size + 1) s.heap.objs.size 0 .none → h'.get? s.heap.objs.size = some o → h'.objs.size = s.heap.objs.size + 2 →
      (∀ b o, s.heap.get? b = some o → h'.get? b = some o) → Q (.ref (s.heap.objs.size + 1)) { s with heap := h' }) :
    wpAny (model prog w) A (call (.type "enumerate") [v]) Q E s := by
  refine callType_new F.called_enumerate (by decide) (F.typeCall_enumerate_1 _) (F.newCall_enumerate_1 _) (fun obj => F.args_object_init_2 obj _) F.entry_enumerate_new
    (meets_enum1 B) ⟨h1, ?_⟩
  have hz : (s.heap.push o).objs.size = s.heap.objs.size + 1 := Heap.size_push ..
  show _ ∧ _
  rw [hz]
  have he : IsEnum ((s.heap.push o).push { cls := .type "enumerate", data := .fields #[.none, .bool false, .ref s.heap.objs.size, rawInt 0, .none, .none] }) (s.heap.objs.size + 1) s.heap.objs.size 0 .none := by
    have := Heap.get?_push_size (s.heap.push o) (o := { cls := .type "enumerate", data := .fields #[.none, .bool false, .ref s.heap.objs.size, rawInt 0, .none, .none] }) rfl
    rw [hz] at this; exact this
  refine ⟨⟨_, he, rfl⟩, h _ he (Heap.get?_push_of_some _ (Heap.get?_push_size _ B.free)) (by rw [Heap.size_push, hz]) fun b o x => Heap.get?_push_of_some _ (Heap.get?_push_of_some _ x)⟩
end
/-! ### a list or a tuple -/
def SQ (b : Bool) (K : PySem.W.Frag) (H : Hp) (a : Addr) (xs : List V) : Prop := if b = true then SqT K H a xs else SqL K H a xs
def IsQ (b : Bool) (h : Heap) (a : Addr) (items : Array Value) : Prop := if b = true then h.IsTuple a items else h.IsList a items
def ItQ (b : Bool) (h : Heap) (it a : Addr) (i : Nat) : Prop := if b = true then h.IsTupleIter it a i else h.IsListIter it a i
def itO (b : Bool) (a : Addr) : Obj := if b = true then { cls := .type "tuple_iterator", data := .fields #[.ref a, .int 0 0] } else { cls := .type "list_iterator", data := .fields #[.ref a, .int 0 0] }
section
variable {prog : Program} {w : World} {A : Around} {b : Bool} {h h' : Heap} {a it : Addr} {items : Array Value} {i : Nat}
theorem drawQ (hh : A.handled = none) (hne : a ≠ it) : Draws prog w A it [it, a] items.size (fun i v => items[i]? = some v) (fun i h => ItQ b h it a i ∧ IsQ b h a items) := by
  cases b with
  | true => exact Draws.tuple hh it a hne items
  | false => exact Draws.list hh it a hne items
theorem beginsQ : Begins (.ref a) (itO b a) fun h => IsQ b h a items := by
  cases b with
  | true => exact begins_tuple a items
  | false => exact begins_list a items
theorem ItQ.new (e : h.get? it = some (itO b a)) : ItQ b h it a 0 := by
  cases b with
  | true => exact ⟨_, e, rfl, rfl⟩
  | false => exact ⟨_, e, rfl, rfl⟩
theorem ItQ.obj (x : ItQ b h it a i) : ∃ o, h.get? it = some o ∧ ∀ v, o.data ≠ .cell v := by
  cases b with
  | true => obtain ⟨o, e, _, d⟩ := x; exact ⟨o, e, fun v q => by rw [d] at q; cases q⟩
  | false => obtain ⟨o, e, _, d⟩ := x; exact ⟨o, e, fun v q => by rw [d] at q; cases q⟩
theorem ItQ.at (x : ItQ b h it a i) (k : ∀ o, h.get? it = some o → h'.get? it = some o) : ItQ b h' it a i := by
  cases b with
  | true => exact Heap.IsTupleIter.at x k
  | false => exact Heap.IsListIter.at x k
theorem IsQ.lt (x : IsQ b h a items) : a < h.objs.size := by
  cases b with
  | true => obtain ⟨_, e, _⟩ := x; exact Heap.lt_size e
  | false => obtain ⟨_, e, _⟩ := x; exact Heap.lt_size e
end
section
variable {X : Cx} {pins : List (Addr × Obj)} {σ : L2.St} {H : Hp} {s : Shared} {b : Bool} {a : Addr} {xs ys : List V}
theorem inv_q (I : Inv X pins σ H s) (h : SQ b X.K H a xs) : ∃ its : List Value, Vals xs its ∧ IsQ b s.heap a its.toArray ∧ xs.length ≤ sizeLine := by
  cases b with
  | true => exact I.tuple h
  | false => obtain ⟨its, r, p, z⟩ := I.list h; exact ⟨its, r, p.isList, z⟩
theorem inv_inj (I : Inv X pins σ H s) (h : SQ b X.K H a xs) (h' : SQ b X.K H a ys) : xs = ys := by
  cases b with
  | true => exact I.tuple_inj h h'
  | false => exact I.list_inj h h'
end
/-- enumerate(the seq at a, k0) -/
def ItE (b : Bool) (K : PySem.W.Frag) (a : Addr) (k0 : Int) : It :=
  ⟨fun i H => ∃ (xs : List V) (x : V), SQ b K H a xs ∧ xs[i]? = some x, fun i H v H' => ∃ T x, v = .ref T ∧ H T = none ∧ H' = upd H T (.tup [.int (k0 + (i : Nat)), x]) ∧ ∀ xs, SQ b K H a xs → xs[i]? = some x, fun i H => ∃ xs : List V, SQ b K H a xs ∧ xs.length = i⟩
theorem turn_en {P : Program} {w : World} {K : PySem.W.Frag} {elts : List Expr} {kk : Nat} {tpos : Pos} {bq : Bool} {k0 : Int} (a e it : Addr) :
    Turn P w K (.Tuple elts kk tpos) (ItE bq K a k0) [e, it] e (fun i h => (∃ old, IsEnum h e it (k0 + (i : Nat)) old) ∧ ItQ bq h it a i ∧ e ≠ it ∧ a ≠ it ∧ a ≠ e) where
  mem := by simp
  obj := fun i h st b hb => by
    obtain ⟨⟨old, he⟩, hi, _⟩ := st
    have e' : b = e ∨ b = it := by simpa using hb
    rcases e' with z | z
    · rw [z]; exact ⟨_, he, fun v q => nomatch q⟩
    · rw [z]; exact hi.obj
  keep := fun i h h' st k => let ⟨⟨old, he⟩, hi, hne⟩ := st; ⟨⟨old, k e (by simp) _ he⟩, hi.at fun o q => k it (by simp) o q, hne⟩
  item := by
    intro X hP hw hK hc i pins s σ H E I hf st hg
    subst hP hw hK
    obtain ⟨⟨old, he⟩, hit, hne, hai, hae⟩ := st
    obtain ⟨xs, x, hq, hx⟩ := hg
    obtain ⟨its, rv, p, hz⟩ := inv_q I hq
    obtain ⟨u, hu, ru⟩ := rv.get hx
    have hel : e < s.heap.objs.size := Heap.lt_size he
    have hil : it < s.heap.objs.size := by obtain ⟨_, q, _⟩ := hit.obj; exact Heap.lt_size q
    have hlt : i < its.toArray.size := by rw [List.size_toArray]; exact (List.getElem?_eq_some_iff.mp hu).1
    refine wpAny_pyNext_enum_itemC (drawQ (b := bq) (items := its.toArray) (I.ok.hd hc) hai) he ⟨hit, p⟩ hlt hne (by simp [hne, Ne.symm hae]) fun x' h' tk hx' ho hst' hT hsz hk => ?_
    have ex : x' = u := by
      have z : its.toArray[i]? = some u := by simpa using hu
      have hx' : its.toArray[i]? = some x' := hx'
      rw [z] at hx'
      exact (Option.some.inj hx').symm
    subst ex
    refine ⟨_, rfl, wpAny_letOwnedTupleGo_enum (s := { s with heap := h', toks := tk + 1 }) ho fun h'' he' sb => ?_⟩
    have hT2 : h''.get? s.heap.objs.size = some { cls := .type "tuple", data := .seq #[.int (k0 + (i : Nat)) tk, x'] } := (sb.2 _ (Nat.ne_of_gt hel)).trans hT
    have new : ObjOk X.prog X.w (upd H s.heap.objs.size (.tup [.int (k0 + (i : Nat)), x])) h'' s.heap.objs.size (.tup [.int (k0 + (i : Nat)), x]) :=
      ⟨by show 2 ≤ sizeLine; decide, [.int (k0 + (i : Nat)) tk, x'], .cons ⟨_, rfl⟩ (.cons ru .nil), ⟨_, hT2, rfl, _, rfl⟩⟩
    have I1 : Inv X pins σ (upd H s.heap.objs.size (.tup [.int (k0 + (i : Nat)), x])) { s with heap := h'', toks := tk + 1 } :=
      I.turnedNew (ch := [e, it]) (fun b ob hb q => (sb.2 b (fun z => hb (by simp [z]))).trans (hk b ob (fun z => hb (by simp [z])) (fun z => hb (by simp [z])) q)) hf (Nat.le_refl _) new
    refine ⟨.ref s.heap.objs.size, _, I1, rfl, ⟨_, x, rfl, I.hok.fresh (Nat.le_refl _), rfl, fun ys hy => by rw [inv_inj I hy hq]; exact hx⟩, ⟨⟨x', ?_⟩, hst'.1.at fun o q => (sb.2 it (Ne.symm hne)).trans q, hne, hai, hae⟩, fun b hb => ?_⟩
    · have e1 : k0 + ((i + 1 : Nat) : Int) = k0 + (i : Nat) + 1 := by omega
      rw [e1]; exact he'
    · have hb' : b < s.heap.objs.size := by
        have e' : b = e ∨ b = it := by simpa using hb
        rcases e' with z | z
        · rw [z]; exact hel
        · rw [z]; exact hil
      rw [upd_ne (Nat.ne_of_lt hb')]
      exact (hf b hb).1
  done := by
    intro X hP hw hK hc i pins s σ H E I hf st hg
    subst hP hw hK
    obtain ⟨⟨old, he⟩, hit, hne, hai, hae⟩ := st
    obtain ⟨xs, hq, hx⟩ := hg
    obtain ⟨its, rv, p, hz⟩ := inv_q I hq
    obtain ⟨f0, f1, f2, f3, f4, f5⟩ := hf it (by simp)
    have hl := rv.length
    have hst : ItQ bq s.heap it a its.toArray.size ∧ IsQ bq s.heap a its.toArray := ⟨by rw [List.size_toArray, ← hl, hx]; exact hit, p⟩
    exact wpAny_pyNext_enum_endD (drawQ (b := bq) (items := its.toArray) (I.ok.hd hc) hai) he hst fun h' eb => ⟨rfl, I.turned (t' := s.toks) (fun b o hb q => eb b o hb q) f0 f1 f3 f4 f5⟩
  self := fun A i s Q E st h => let ⟨⟨_, he⟩, _⟩ := st; wpAny_pyIter_enum he h
def iEn (K : PySem.W.Frag) (ta : TA) : TI := fun σ H R => ta σ H fun vs H1 => ∃ a xs b, vs = [.ref a] ∧ SQ b K H1 a xs ∧ R (ItE b K a 0) H1
theorem pi_en {X : Cx} {e : Expr} {ta : TA} {p pos tpos : Pos} {elts : List Expr} {kk : Nat} (hg : Gl X "enumerate") (hm : X.mg "enumerate" = none) (ha : PA X [e] ta) (hs : starEach [e] X.env = [(false, eval e X.env)] := by rfl) :
    PI X (.Tuple elts kk tpos) (.Call (.Name "enumerate" p) [e] [] pos) (iEn X.K ta) := by
  refine ⟨fun pins s σ H R I h => ?_⟩
  refine Call_ (ld_blt I hg hm boot_enumerate (PyProof.Rows.callWith_type1 (thn (ha.run pos pins s σ H _ I h) fun us s1 ⟨vs, H1, I1, r1, q1⟩ => ?_) hs rfl))
  obtain ⟨a, xs, bq, ex, hq, q⟩ := q1
  subst ex
  cases r1 with
  | cons r rr =>
    cases rr
    cases r
    obtain ⟨its, rv, p', hz⟩ := inv_q I1 hq
    refine enum_begins1 (beginsQ (b := bq) (items := its.toArray)) p' fun h' he hit hsz hk => wpAny_pyIter_enum he ?_
    have I2 : Inv X pins σ H1 { s1 with heap := h' } := I1.kept (t' := s1.toks) hk
    have hlt := p'.lt
    refine ⟨s1.heap.objs.size + 1, [s1.heap.objs.size + 1, s1.heap.objs.size], _, _, H1, rfl, I2, turn_en a (s1.heap.objs.size + 1) s1.heap.objs.size, ⟨⟨.none, he⟩, ItQ.new hit, Nat.succ_ne_self _, Nat.ne_of_lt hlt, Nat.ne_of_lt (Nat.lt_succ_of_lt hlt)⟩, fun b hb => ?_, q⟩
    have e' : b = s1.heap.objs.size + 1 ∨ b = s1.heap.objs.size := by simpa using hb
    have hle : s1.heap.objs.size ≤ b := by
      rcases e' with z | z
      · rw [z]; exact Nat.le_add_right _ _
      · rw [z]; exact Nat.le_refl _
    exact I1.fpOk hle (I1.hok.fresh hle)
/-- zip(the seq at a, the seq at c) -/
def ItZ (b1 b2 : Bool) (K : PySem.W.Frag) (a c : Addr) : It :=
  ⟨fun i H => ∃ (xs ys : List V) (x y : V), SQ b1 K H a xs ∧ SQ b2 K H c ys ∧ xs[i]? = some x ∧ ys[i]? = some y,
    fun i H v H' => ∃ T x y, v = .ref T ∧ H T = none ∧ H' = upd H T (.tup [x, y]) ∧ (∀ xs, SQ b1 K H a xs → xs[i]? = some x) ∧ ∀ ys, SQ b2 K H c ys → ys[i]? = some y,
    fun i H => ∃ xs ys : List V, SQ b1 K H a xs ∧ SQ b2 K H c ys ∧ i = min xs.length ys.length⟩
theorem turn_zq {P : Program} {w : World} {K : PySem.W.Frag} {elts : List Expr} {kk : Nat} {tpos : Pos} {b1 b2 : Bool} {a c z TI TO i1 i2 : Addr} (D : ZipSep2 z TI TO i1 i2 [i1, a] [i2, c]) (n1 : a ≠ i1) (n2 : c ≠ i2) :
    Turn P w K (.Tuple elts kk tpos) (ItZ b1 b2 K a c) [z, TI, TO, i1, i2] z (fun i h => IsZip h z TI TO .none ∧ IsTupOf2 h TI (.ref i1) (.ref i2) ∧ (∃ x y, IsTupOf2 h TO x y) ∧ ItQ b1 h i1 a i ∧ ItQ b2 h i2 c i) where
  mem := by simp
  obj := fun i h st q hq => by
    obtain ⟨hz, hTI, ⟨x, y, hTO⟩, h1, h2⟩ := st
    have e' : q = z ∨ q = TI ∨ q = TO ∨ q = i1 ∨ q = i2 := by simpa using hq
    rcases e' with z | z | z | z | z
    · rw [z]; exact ⟨_, hz, fun v q => nomatch q⟩
    · rw [z]; exact ⟨_, hTI, fun v q => nomatch q⟩
    · rw [z]; exact ⟨_, hTO, fun v q => nomatch q⟩
    · rw [z]; exact h1.obj
    · rw [z]; exact h2.obj
  keep := fun i h h' st k => by
    obtain ⟨hz, hTI, ⟨x, y, hTO⟩, h1, h2⟩ := st
    exact ⟨k z (by simp) _ hz, k TI (by simp) _ hTI, ⟨x, y, k TO (by simp) _ hTO⟩, h1.at fun o q => k i1 (by simp) o q, h2.at fun o q => k i2 (by simp) o q⟩
  item := by
    intro X hP hw hK hc i pins s σ H E I hf st hg
    subst hP hw hK
    obtain ⟨hz, hTI, ⟨x0, y0, hTO⟩, h1, h2⟩ := st
    obtain ⟨xs, ys, x, y, hqx, hqy, hx, hy⟩ := hg
    obtain ⟨its, rv, p, _⟩ := inv_q I hqx
    obtain ⟨its2, rv2, p2, _⟩ := inv_q I hqy
    obtain ⟨u, hu, ru⟩ := rv.get hx
    obtain ⟨u2, hu2, ru2⟩ := rv2.get hy
    have hzl : z < s.heap.objs.size := Heap.lt_size hz
    have hlt : i < its.toArray.size := by rw [List.size_toArray]; exact (List.getElem?_eq_some_iff.mp hu).1
    have hlt2 : i < its2.toArray.size := by rw [List.size_toArray]; exact (List.getElem?_eq_some_iff.mp hu2).1
    refine wpAny_pyNext_zipD2_item D (drawQ (b := b1) (items := its.toArray) (I.ok.hd hc) n1) (drawQ (b := b2) (items := its2.toArray) (I.ok.hd hc) n2) hz hTI hTO ⟨h1, p⟩ ⟨h2, p2⟩ hlt hlt2 fun x' y' h' tk hx' hy' z' TO' st1 st2 hT hsz hk => ?_
    have ex : x' = u := by
      have z : its.toArray[i]? = some u := by simpa using hu
      have hx' : its.toArray[i]? = some x' := hx'
      rw [z] at hx'
      exact (Option.some.inj hx').symm
    have ey : y' = u2 := by
      have z : its2.toArray[i]? = some u2 := by simpa using hu2
      have hy' : its2.toArray[i]? = some y' := hy'
      rw [z] at hy'
      exact (Option.some.inj hy').symm
    subst ex ey
    refine ⟨_, rfl, wpAny_letOwnedTupleGo_zip (s := { s with heap := h', toks := tk }) z' fun h'' z'' sb => ?_⟩
    have hT2 : h''.get? s.heap.objs.size = some { cls := .type "tuple", data := .seq #[x', y'] } := (sb.2 _ (Nat.ne_of_gt hzl)).trans hT
    have new : ObjOk X.prog X.w (upd H s.heap.objs.size (.tup [x, y])) h'' s.heap.objs.size (.tup [x, y]) :=
      ⟨by show 2 ≤ sizeLine; decide, [x', y'], .cons ru (.cons ru2 .nil), ⟨_, hT2, rfl, _, rfl⟩⟩
    have I1 : Inv X pins σ (upd H s.heap.objs.size (.tup [x, y])) { s with heap := h'', toks := tk } :=
      I.turnedNew (t' := tk) (ch := [z, TI, TO, i1, i2]) (fun c o hb q => (sb.2 c (fun q' => hb (by simp [q']))).trans (hk c o (fun q' => hb (by simp [q'])) (fun q' => hb (by simp [q'])) (fun q' => hb (by simp [q'])) (fun q' => hb (by simp [q'])) q)) hf (Nat.le_refl _) new
    refine ⟨.ref s.heap.objs.size, _, I1, rfl, ⟨_, x, y, rfl, I.hok.fresh (Nat.le_refl _), rfl, fun l hl => by rw [inv_inj I hl hqx]; exact hx, fun l hl => by rw [inv_inj I hl hqy]; exact hy⟩, ⟨z'', ?_, ⟨x', y', ?_⟩, ?_, ?_⟩, fun q hcm => ?_⟩
    · exact (sb.2 _ D.TIz).trans (hk _ _ D.TIz D.TITO D.TIi1 D.TIi2 hTI)
    · exact (sb.2 _ D.TOz).trans TO'
    · exact st1.1.at fun o q => (sb.2 _ (Ne.symm D.zi1)).trans q
    · exact st2.1.at fun o q => (sb.2 _ (Ne.symm D.zi2)).trans q
    · have hlt : q < s.heap.objs.size := by
        have e' : q = z ∨ q = TI ∨ q = TO ∨ q = i1 ∨ q = i2 := by simpa using hcm
        rcases e' with w | w | w | w | w
        · rw [w]; exact hzl
        · rw [w]; exact Heap.lt_size hTI
        · rw [w]; exact Heap.lt_size hTO
        · rw [w]; obtain ⟨_, e1, _⟩ := h1.obj; exact Heap.lt_size e1
        · rw [w]; obtain ⟨_, e2, _⟩ := h2.obj; exact Heap.lt_size e2
      rw [upd_ne (Nat.ne_of_lt hlt)]
      exact (hf q hcm).1
  done := by
    intro X hP hw hK hc i pins s σ H E I hf st hg
    subst hP hw hK
    obtain ⟨hz, hTI, ⟨x0, y0, hTO⟩, h1, h2⟩ := st
    obtain ⟨xs, ys, hqx, hqy, hend⟩ := hg
    obtain ⟨its, rv, p, _⟩ := inv_q I hqx
    obtain ⟨its2, rv2, p2, _⟩ := inv_q I hqy
    have l1 := rv.length
    have l2 := rv2.length
    have s1 : its.toArray.size = xs.length := by rw [List.size_toArray, l1]
    have s2 : its2.toArray.size = ys.length := by rw [List.size_toArray, l2]
    exact wpAny_pyNext_zipD2_end D (drawQ (b := b1) (items := its.toArray) (I.ok.hd hc) n1) (drawQ (b := b2) (items := its2.toArray) (I.ok.hd hc) n2) hz hTI hTO ⟨h1, p⟩ ⟨h2, p2⟩ (by omega) (by omega) (by omega) fun h' tk hk => ⟨rfl, I.turnedL (t' := tk) (ch := [z, TI, TO, i1, i2]) (fun c o hb q =>
      hk c o (fun q' => hb (by simp [q'])) (fun q' => hb (by simp [q'])) (fun q' => hb (by simp [q'])) (fun q' => hb (by simp [q'])) q) hf⟩
  self := fun A i s Q E st h => wpAny_pyIter_zip st.1 h
def iZq (K : PySem.W.Frag) (ta : TA) : TI := fun σ H R => ta σ H fun vs H1 => ∃ a c xs ys b1 b2, vs = [.ref a, .ref c] ∧ SQ b1 K H1 a xs ∧ SQ b2 K H1 c ys ∧ R (ItZ b1 b2 K a c) H1
theorem pi_zq {X : Cx} {e e2 : Expr} {ta : TA} {p pos tpos : Pos} {elts : List Expr} {kk : Nat} (hg : Gl X "zip") (hm : X.mg "zip" = none) (ha : PA X [e, e2] ta)
    (hs : starEach [e, e2] X.env = (false, eval e X.env) :: starEach [e2] X.env := by rfl) (hpl : (backTo pos (starEach [e2] X.env)).any (·.1) = false := by rfl) :
    PI X (.Tuple elts kk tpos) (.Call (.Name "zip" p) [e, e2] [] pos) (iZq X.K ta) := by
  refine ⟨fun pins s σ H R I h => ?_⟩
  refine Call_ (ld_blt I hg hm PyProof.Rows.boot_zip (PyProof.Rows.callWith_type1 (thn (ha.run pos pins s σ H _ I h) fun us s1 ⟨vs, H1, I1, r1, q1⟩ => ?_) hs hpl))
  obtain ⟨a, b, xs, ys, b1, b2, ex, hqx, hqy, q⟩ := q1
  subst ex
  cases r1 with
  | cons r rr =>
    cases rr with
    | cons r' rr =>
      cases rr
      cases r
      cases r'
      obtain ⟨its, rv, p1, _⟩ := inv_q I1 hqx
      obtain ⟨its2, rv2, p2, _⟩ := inv_q I1 hqy
      have la := p1.lt
      have lb := p2.lt
      refine zip_begins2 (beginsQ (b := b1) (items := its.toArray)) (beginsQ (b := b2) (items := its2.toArray)) p1 p2 fun h' hz hTI hTO h1 h2 hsz hk => wpAny_pyIter_zip hz ?_
      have I2 : Inv X pins σ H1 { s1 with heap := h' } := I1.kept (t' := s1.toks) hk
      have D : ZipSep2 (s1.heap.objs.size + 4) (s1.heap.objs.size + 2) (s1.heap.objs.size + 3) s1.heap.objs.size (s1.heap.objs.size + 1) [s1.heap.objs.size, a] [s1.heap.objs.size + 1, b] :=
        zip_sep2 (N := s1.heap.objs.size) (fp1 := [a]) (fp2 := [b]) (by simpa using la) (by simpa using lb)
      refine ⟨s1.heap.objs.size + 4, [s1.heap.objs.size + 4, s1.heap.objs.size + 2, s1.heap.objs.size + 3, s1.heap.objs.size, s1.heap.objs.size + 1], _, _, H1, rfl, I2, turn_zq D (Nat.ne_of_lt la) (Nat.ne_of_lt (Nat.lt_succ_of_lt lb)), ⟨hz, hTI, ⟨_, _, hTO⟩, ItQ.new h1, ItQ.new h2⟩, fun c hcm => ?_, q⟩
      have e' : c = s1.heap.objs.size + 4 ∨ c = s1.heap.objs.size + 2 ∨ c = s1.heap.objs.size + 3 ∨ c = s1.heap.objs.size ∨ c = s1.heap.objs.size + 1 := by simpa using hcm
      have hle : s1.heap.objs.size ≤ c := by
        rcases e' with z | z | z | z | z
        · rw [z]; exact Nat.le_add_right _ _
        · rw [z]; exact Nat.le_add_right _ _
        · rw [z]; exact Nat.le_add_right _ _
        · rw [z]; exact Nat.le_refl _
        · rw [z]; exact Nat.le_add_right _ _
      exact I1.fpOk hle (I1.hok.fresh hle)
/-! ### as walks -/
section
variable {X : Cx} {au : Au} {W : WX}
theorem SQ.mono {b : Bool} {K : PySem.W.Frag} {F F' : Hp} {a : Addr} {xs : List V} (s : Same F F') (h : SQ b K F a xs) : SQ b K F' a xs := by
  cases b with
  | true => exact sqT_mono s h
  | false => exact s.seq h
def enumT : Nat → List T → List T
  | _, [] => []
  | k, t :: ts => .tup [.int (k : Nat), t] :: enumT (k + 1) ts
theorem enumT_length (k : Nat) (ts : List T) : (enumT k ts).length = ts.length := by
  induction ts generalizing k with
  | nil => rfl
  | cons t ts ih => simp [enumT, ih]
theorem enumT_get (k : Nat) (ts : List T) (i : Nat) : (enumT k ts)[i]? = ts[i]?.map fun t => .tup [.int ((k + i : Nat) : Int), t] := by
  induction ts generalizing k i with
  | nil => rfl
  | cons t ts ih =>
    cases i with
    | zero => rfl
    | succ i => simp only [enumT, List.getElem?_cons_succ, ih]; congr 1; funext u; congr 3; omega
def zipT : List T → List T → List T
  | t :: ts, u :: us => .tup [t, u] :: zipT ts us
  | _, _ => []
theorem zipT_length : ∀ (ts us : List T), (zipT ts us).length = min ts.length us.length
  | [], us => by simp [zipT]
  | t :: ts, [] => by simp [zipT]
  | t :: ts, u :: us => by simp [zipT, zipT_length ts us, Nat.succ_min_succ]
theorem zipT_get : ∀ (ts us : List T) (i : Nat) (x : T), (zipT ts us)[i]? = some x → ∃ t u, ts[i]? = some t ∧ us[i]? = some u ∧ x = .tup [t, u]
  | [], us, i, x, h => by simp [zipT] at h
  | t :: ts, [], i, x, h => by simp [zipT] at h
  | t :: ts, u :: us, 0, x, h => ⟨t, u, rfl, rfl, by simpa [zipT] using h.symm⟩
  | t :: ts, u :: us, i + 1, x, h => by
    simp only [zipT, List.getElem?_cons_succ] at h ⊢
    exact zipT_get ts us i x h
theorem wk_pair {F1 H1 : Hp} {T : Addr} {x y : V} {t u : FX.T} (s2 : Same F1 H1) (hT : H1 T = none) (rx : Rep X.K X.mg F1 x t) (ry : Rep X.K X.mg F1 y u) :
    ∃ F2, Same F1 F2 ∧ Same H1 (upd H1 T (.tup [x, y])) ∧ Same F2 (upd H1 T (.tup [x, y])) ∧ (∀ b, F2 b ≠ none → F1 b ≠ none ∨ H1 b = none) ∧ Rep X.K X.mg F2 (.ref T) (.tup [t, u]) := by
  have hF : F1 T = none := s2.free hT
  have sF : Same F1 (upd F1 T (.tup [x, y])) := same_upd hF
  refine ⟨upd F1 T (.tup [x, y]), sF, same_upd hT, same_upd2 (s2.trans (same_upd hT)) upd_same, fun b hb => ?_, .tup upd_same (Reps.mono sF (.cons rx (.cons ry .nil)))⟩
  by_cases z : b = T
  · subst z; exact .inr hT
  · rw [upd_ne z] at hb; exact .inl hb
theorem wk_en {F H : Hp} {b : Bool} {a : Addr} {vs : List V} {ts : List T} (h : SQ b X.K F a vs) (r : Reps X.K X.mg F vs ts) : Wk X.K X.mg (ItE b X.K a 0) F H (enumT 0 ts) := by
  have hl := r.length
  refine ⟨fun H => SQ b X.K H a vs, fun i H v H' => ∃ T x, v = .ref T ∧ H T = none ∧ H' = upd H T (.tup [.int (i : Nat), x]) ∧ vs[i]? = some x, ?_, fun F' H' s1 s2 => SQ.mono (s1.trans s2) h, ?_⟩
  · rw [enumT_length]
    refine ⟨fun i H hi q => ⟨vs, vs[i], q, by simp [hl, hi]⟩, fun H q => ⟨vs, q, hl⟩, fun i H x H' hi q y => ?_⟩
    obtain ⟨T, z, e1, e2, e3, e4⟩ := y
    refine ⟨T, z, e1, e2, ?_, e4 vs q⟩
    rw [e3, Int.zero_add]
  · rintro i H1 x H2 F1 t ht s1 s2 ⟨T, z, e1, e2, e3, e4⟩
    rw [enumT_get, Nat.zero_add] at ht
    cases e5 : ts[i]? with
    | none => rw [e5] at ht; cases ht
    | some u =>
      rw [e5] at ht
      cases ht
      obtain ⟨v, hv, rv⟩ := r.get e5
      rw [e4] at hv; cases hv
      subst e1 e3
      exact wk_pair s2 e2 (.int _) (rv.mono s1)
theorem wk_zip {F H : Hp} {b1 b2 : Bool} {a c : Addr} {vs us : List V} {ts ss : List T} (h : SQ b1 X.K F a vs) (h' : SQ b2 X.K F c us) (r : Reps X.K X.mg F vs ts) (r' : Reps X.K X.mg F us ss) : Wk X.K X.mg (ItZ b1 b2 X.K a c) F H (zipT ts ss) := by
  have hl := r.length
  have hl' := r'.length
  refine ⟨fun H => SQ b1 X.K H a vs ∧ SQ b2 X.K H c us, fun i H v H' => ∃ T x y, v = .ref T ∧ H T = none ∧ H' = upd H T (.tup [x, y]) ∧ vs[i]? = some x ∧ us[i]? = some y, ?_, fun F' H' s1 s2 => ⟨SQ.mono (s1.trans s2) h, SQ.mono (s1.trans s2) h'⟩, ?_⟩
  · rw [zipT_length]
    refine ⟨fun i H hi q => ?_, fun H q => ⟨vs, us, q.1, q.2, by rw [hl, hl']⟩, fun i H x H' hi q y => ?_⟩
    · have h1 : i < vs.length := by omega
      have h2 : i < us.length := by omega
      exact ⟨vs, us, vs[i], us[i], q.1, q.2, by simp [h1], by simp [h2]⟩
    · obtain ⟨T, z, z2, e1, e2, e3, e4, e5⟩ := y
      exact ⟨T, z, z2, e1, e2, e3, e4 vs q.1, e5 us q.2⟩
  · rintro i H1 x H2 F1 t ht s1 s2 ⟨T, z, z2, e1, e2, e3, e4, e5⟩
    obtain ⟨t1, t2, a1, a2, rfl⟩ := zipT_get ts ss i t ht
    obtain ⟨v, hv, rv⟩ := r.get a1
    obtain ⟨v2, hv2, rv2⟩ := r'.get a2
    rw [e4] at hv; cases hv
    rw [e5] at hv2; cases hv2
    subst e1 e3
    exact wk_pair s2 e2 (rv.mono s1) (rv2.mono s1)
/-- a let-out tree that is a list or a tuple -/
theorem rep_sq {F H : Hp} {x : V} {t : T} {ts : List T} (r : Rep X.K X.mg F x t) (e : t.items = some ts) : ∃ b a vs, x = .ref a ∧ SQ b X.K F a vs ∧ Reps X.K X.mg F vs ts := by
  cases r with
  | tup hr rs => cases e; exact ⟨true, _, _, rfl, .of hr, rs⟩
  | tsq hr rs => cases e; exact ⟨true, _, _, rfl, hr, rs⟩
  | lst hr rs => cases e; exact ⟨false, _, _, rfl, .of hr, rs⟩
  | seq hr rs => cases e; exact ⟨false, _, _, rfl, hr, rs⟩
  | _ => cases e
def fEnum (fa : FX.Env → R (List Vl)) : FX.Env → R (List T) := fEsc fa fun ts ρ => match ts with
  | [t] => match t.items with
    | some us => .ok (enumT 0 us) ρ
    | none => .stuck
  | _ => .stuck
theorem ri_enum {elts : List Expr} {kk : Nat} {tpos p pos : Pos} {e : Expr} {fa : FX.Env → R (List Vl)} (hm : X.mg "enumerate" = none) (ha : RA X au W [e] fa) (hg : Gl X "enumerate" := by rfl) (hs : starEach [e] X.env = [(false, eval e X.env)] := by rfl) :
    RI X au W (.Tuple elts kk tpos) (.Call (.Name "enumerate" p) [e] [] pos) (fEnum fa) := by
  refine ⟨PI.imp (pi_en hg hm ha.pa hs) fun σ H R ⟨F, ρ, S, h⟩ => ⟨F, ρ, S, esc_post early_VW h fun xs ts ρ1 F1 H1 S1 r q1 => ?_⟩⟩
  split at q1
  · cases r with
    | cons r1 r =>
      cases r
      split at q1
      · rename_i us e1
        obtain ⟨b, a, vs, rfl, hq, rs⟩ := rep_sq (H := H1) r1 e1
        exact ⟨a, vs, b, rfl, hq.mono S1.sub, q1 _ F1 H1 S1 (Xt.refl _ _ _ _) (wk_en hq rs)⟩
      · exact q1.elim
  · exact q1.elim
def fZip (fa : FX.Env → R (List Vl)) : FX.Env → R (List T) := fEsc fa fun ts ρ => match ts with
  | [t, u] => match t.items, u.items with
    | some ts, some us => .ok (zipT ts us) ρ
    | _, _ => .stuck
  | _ => .stuck
theorem ri_zip {elts : List Expr} {kk : Nat} {tpos p pos : Pos} {e e2 : Expr} {fa : FX.Env → R (List Vl)} (hm : X.mg "zip" = none) (ha : RA X au W [e, e2] fa) (hg : Gl X "zip" := by rfl)
    (hs : starEach [e, e2] X.env = (false, eval e X.env) :: starEach [e2] X.env := by rfl) (hpl : (backTo pos (starEach [e2] X.env)).any (·.1) = false := by rfl) :
    RI X au W (.Tuple elts kk tpos) (.Call (.Name "zip" p) [e, e2] [] pos) (fZip fa) := by
  refine ⟨PI.imp (pi_zq hg hm ha.pa hs hpl) fun σ H R ⟨F, ρ, S, h⟩ => ⟨F, ρ, S, esc_post early_VW h fun xs ts ρ1 F1 H1 S1 r q1 => ?_⟩⟩
  split at q1
  · cases r with
    | cons r1 r =>
      cases r with
      | cons r2 r =>
        cases r
        split at q1
        · rename_i us ss e1 e2
          obtain ⟨b, a, vs, rfl, hq, rs⟩ := rep_sq (H := H1) r1 e1
          obtain ⟨b2, c, vs2, rfl, hq2, rs2⟩ := rep_sq (H := H1) r2 e2
          exact ⟨a, c, vs, vs2, b, b2, rfl, hq.mono S1.sub, hq2.mono S1.sub, q1 _ F1 H1 S1 (Xt.refl _ _ _ _) (wk_zip hq hq2 rs rs2)⟩
        · exact q1.elim
  · exact q1.elim
end
end FX
end

section
set_option Elab.async false
set_option linter.all false
set_option maxRecDepth 100000
set_option maxHeartbeats 4000000
namespace FX
open PySem PySem.Spec PyProof.Rows L2
/-! ### dict comprehensions: keys ints or texts -/
def dcL (vs : List Nat) (b : T → FX.Env → Option FX.Env) (ft : FX.Env → R Bool) (fk fv : FX.Env → R Vl) : List T → List (Key × T) → FX.Env → R (List (Key × T))
  | [], acc, ρ => .ok acc ρ
  | t :: ts, acc, ρ => match b t (wipeE ρ vs) with
    | none => .stuck
    | some ρ1 => match ft ρ1 with
      | .ok true ρ2 => match (fk ρ2).norm with
        | .ok kx ρ3 => match (fv ρ3).norm with
          | .ok vx ρ4 => match escs [kx, vx] ρ4 with
            | some ([kt, vt], ρ5) => match kt.key with
              | some k => if acc.length ≤ 1000000 then dcL vs b ft fk fv ts (putT acc k vt) (backE ρ vs ρ5) else .stuck
              | none => .stuck
            | _ => .stuck
          | _ => .stuck
        | _ => .stuck
      | .ok false ρ2 => dcL vs b ft fk fv ts acc (backE ρ vs ρ2)
      | _ => .stuck
def fDc (vs : List Nat) (fi : FX.Env → R (List T)) (b : T → FX.Env → Option FX.Env) (ft : FX.Env → R Bool) (fk fv : FX.Env → R Vl) : FX.Env → R Vl := fun ρ => (fi ρ).bind fun ts ρ1 => (dcL vs b ft fk fv ts [] ρ1).map fun ys => .own (.dK ys)
theorem dc_it {J : It} {n : Nat} {G : Hp → Prop} {Y : Nat → Hp → V → Hp → Prop} {g : TG} {tt : TT} {tk tv : TE} {vs : List Nat} {σ : L2.St} {H1 : Hp} {D : Addr} {Q : VK} (wk : Walk J n G Y) (Pv : Nat → Hp → Prop) (h0 : Pv 0 (upd H1 D (.dK []))) (hG : ∀ i H, i ≤ n → Pv i H → G H)
    (hs : ∀ i x H H2, i < n → Pv i H → Y i H x H2 → g x (wipe σ vs) H2 fun σ2 H2 => wipe σ2 vs = wipe σ vs ∧ tt σ2 H2 fun b H3 =>
      if b = true then tk σ2 H3 fun y H4 => tv σ2 H4 fun z H5 => ∃ kvs k, y = kV k ∧ H5 D = some (.dK kvs) ∧ kvs.length < sizeLine ∧ Pv (i + 1) (upd H5 D (.dK (putK kvs k z))) else Pv (i + 1) H3) (hd : ∀ H, Pv n H → Q (.ref D) H) :
    ∃ W : Nat → Nat → Hp → Prop, (∃ m, W 0 m (upd H1 D (.dK []))) ∧ ∀ i m H, W i m H →
      (J.stop i H ∧ Q (.ref D) H) ∨ (J.go i H ∧ ∃ Nx : Hp → Prop, (∀ H', Nx H' → ∃ m', m' < m ∧ W (i + 1) m' H') ∧ ∀ x H', J.yld i H x H' → g x (wipe σ vs) H' fun σ2 H2 => wipe σ2 vs = wipe σ vs ∧ tt σ2 H2 fun b H3 =>
        if b = true then tk σ2 H3 fun y H4 => tv σ2 H4 fun z H5 => ∃ kvs k, y = kV k ∧ H5 D = some (.dK kvs) ∧ kvs.length < sizeLine ∧ Nx (upd H5 D (.dK (putK kvs k z))) else Nx H3) := by
  refine ⟨fun i m H => m = n - i ∧ i ≤ n ∧ Pv i H, ⟨n, by simp, Nat.zero_le _, h0⟩, ?_⟩
  rintro i m H ⟨rfl, hi, p⟩
  have q := hG i H hi p
  by_cases hlt : i < n
  · exact .inr ⟨wk.goes i H hlt q, Pv (i + 1), fun H' p' => ⟨n - (i + 1), by omega, rfl, hlt, p'⟩, fun x H' y => hs i x H H' hlt p (wk.yields i H x H' hlt q y)⟩
  · have e : i = n := by omega
    subst e
    exact .inl ⟨wk.stops H q, hd H p⟩
section
variable {X : Cx} {au : Au} {W : WX}
theorem dc_of {vs ws : List Nat} {fi : FX.Env → R (List T)} {b : T → FX.Env → Option FX.Env} {ft : FX.Env → R Bool} {fk fv : FX.Env → R Vl} {σ : L2.St} {H : Hp} {Q : VK} (hws : ∀ i ∈ ws, i ∈ vs) (q : tF X au W (VE X) (fDc vs fi b ft fk fv) σ H Q) :
    tDc (tF X au W (VW X) fi) (tgR X au ws b) (tF X au WF VB ft) (tF X au WF (VE X) fk) (tF X au WF (VE X) fv) vs σ H Q := by
  obtain ⟨F, ρ, S, h⟩ := q
  refine ⟨F, ρ, S, Post.bind early_VE h fun J ts ρ1 F1 H1 e S1 X1 V1 h1 => ?_⟩
  intro D nD
  obtain ⟨G, Y, wk, hG, hY⟩ := V1
  have nFD : F1 D = none := S1.sub.free nD
  have Sd : SRel X.K X.mg au ρ1 σ F1 (upd H1 D (.dK [])) := S1.new (.refl _) (same_upd nD) (S1.sub.trans (same_upd nD)) (fun _ h => .inl h) S1.nt
  have Xd : Xtn au ρ1 σ F1 H1 ρ1 σ F1 (upd H1 D (.dK [])) := Xt.new (.refl _) (same_upd nD) fun _ h => .inl h
  refine dc_it wk (g := tgR X au ws b) (tt := tF X au WF VB ft) (tk := tF X au WF (VE X) fk) (tv := tF X au WF (VE X) fv) (fun i H' => ∃ F' ρ' accV acc, SRel X.K X.mg au ρ' σ F' H' ∧ Xtn au ρ1 σ F1 H1 ρ' σ F' H' ∧ Same F1 F' ∧ H' D = some (.dK accV) ∧ F' D = none ∧ ¬ OwnA ρ' σ D ∧ RepK X.K X.mg F' accV acc ∧
      Post X au W (VE X) ρ1 σ F1 H1 ((dcL vs b ft fk fv (ts.drop i) acc ρ').map fun ys => .own (.dK ys)) Q)
    ⟨F1, ρ1, [], [], Sd, Xd, .refl _, upd_same, nFD, fun ⟨i, k, t, h1, h2⟩ => ?_, .nil, by simpa using h1⟩ (fun i H' _ ⟨F', ρ', _, _, S', _, s, _⟩ => hG F' H' s S'.sub) ?_ ?_
  · obtain ⟨a, ea, _, oa, _⟩ := S1.ow h1
    rw [h2] at ea; cases ea
    obtain ⟨o, ho, _⟩ := oa.there
    rw [nD] at ho; cases ho
  · rintro i x H' H2 hi ⟨F', ρ', accV, acc, S', X', s', hD, fD, oD, rA, h'⟩ y
    have ht : ts[i]? = some ts[i] := by simp [hi]
    obtain ⟨F0, s1, s2, s3, nw, r⟩ := hY i H' x H2 F' ts[i] ht s' S'.sub y
    obtain ⟨F2, C⟩ := clean (K := X.K) (mg := X.mg) S'.nt s1 s3 nw
    replace s1 := C.s
    replace s3 := C.s3
    replace nw := C.nw
    replace r := C.rep r
    have S2 := S'.new s1 s2 s3 nw C.nt
    have X2 : Xtn au ρ' σ F' H' ρ' σ F2 H2 := Xt.new s1 s2 nw
    have S2w := S2.wipe vs
    have fD2 : F2 D = none := by
      cases q : F2 D with
      | none => rfl
      | some u =>
        rcases nw D (by rw [q]; simp) with z | z
        · exact absurd fD z
        · rw [hD] at z; cases z
    have hD2 : H2 D = some (.dK accV) := s2 _ _ hD
    have oD2 : ¬ OwnA (wipeE ρ' vs) (wipe σ vs) D := fun z => oD (wipeE_own z)
    rw [List.drop_eq_getElem_cons hi] at h'
    simp only [dcL] at h'
    cases eb : b ts[i] (wipeE ρ' vs) with
    | none => rw [eb] at h'; exact h'.elim
    | some ρ3 =>
      rw [eb] at h'
      dsimp only at h'
      refine ⟨F2, wipeE ρ' vs, ts[i], ρ3, S2w, r, eb, fun σ3 S3 o3 k3 l3' => ?_⟩
      have l3 : σ3.length = σ.length := by rw [l3', wipe_length]
      have hw : wipe σ3 vs = wipe σ vs := wipe_ext l3 fun j hj => (k3 j fun z => hj (hws j z)).trans (wipe_out hj)
      refine ⟨hw, F2, ρ3, S3, ?_⟩
      have X3 : Xtn au (wipeE ρ' vs) (wipe σ vs) F2 H2 ρ3 σ3 F2 H2 := (Xt.refl _ _ _ _).imp o3
      have out : ∀ {ρ4 : FX.Env} {F4 H4 : Hp}, SRel X.K X.mg au ρ4 σ3 F4 H4 → Xtn au ρ3 σ3 F2 H2 ρ4 σ3 F4 H4 →
          SRel X.K X.mg au (backE ρ' vs ρ4) σ F4 H4 ∧ Xtn au ρ1 σ F1 H1 (backE ρ' vs ρ4) σ F4 H4 ∧ Same F1 F4 ∧ H4 D = some (.dK accV) ∧ F4 D = none ∧ ¬ OwnA (backE ρ' vs ρ4) σ D ∧ RepK X.K X.mg F4 accV acc := by
        intro ρ4 F4 H4 S4 X4
        have X5 := X3.trans X4
        obtain ⟨Sb, Xb⟩ := S2.back S4 X5 hw
        have oD3 : ¬ OwnA ρ3 σ3 D := fun z => oD2 (o3 D z)
        have hD4 : H4 D = some (.dK accV) := X4.hh D _ hD2 (fun _ ps z => by cases z) oD3
        refine ⟨Sb, (X'.trans X2).trans Xb, (s'.trans s1).trans X4.ff, hD4, ?_, fun z => ?_, RepK.mono (s1.trans X4.ff) rA⟩
        · cases q : F4 D with
          | none => rfl
          | some u =>
            rcases X4.fn D (by rw [q]; simp) with z | z | z
            · exact absurd fD2 z
            · rw [hD2] at z; cases z
            · exact absurd z oD3
        · rcases Xb.ow D z with z | z
          · exact oD z
          · rw [hD2] at z; cases z
      cases et : ft ρ3 with
      | stuck => rw [et] at h'; exact h'.elim
      | err e' ρ4 => rw [et] at h'; exact h'.elim
      | ok bb ρ4 =>
        rw [et] at h'
        intro c F4 H4 S4 X4 V4
        have V4 : c = bb := V4
        subst V4
        cases c with
        | false =>
          rw [if_neg Bool.false_ne_true]
          obtain ⟨a1, a2, a3, a4, a5, a6, a7⟩ := out S4 X4
          exact ⟨F4, _, accV, acc, a1, a2, a3, a4, a5, a6, a7, h'⟩
        | true =>
          rw [if_pos rfl]
          refine ⟨F4, ρ4, S4, ?_⟩
          dsimp only at h'
          cases ek : (fk ρ4).norm with
          | stuck => rw [ek] at h'; exact h'.elim
          | err e' ρ5 => rw [ek] at h'; exact h'.elim
          | ok kx ρ5 =>
            rw [ek] at h'
            dsimp only at h'
            refine norm_post (Post.okF ek fun yk F5 H5 S5 X5 V5 => ?_)
            have hk : Held X.K X.mg σ3 F5 yk kx := norm_held ⟨_, ek⟩ V5
            refine ⟨F5, ρ5, S5, ?_⟩
            cases ee : (fv ρ5).norm with
            | stuck => rw [ee] at h'; exact h'.elim
            | err e' ρ6 => rw [ee] at h'; exact h'.elim
            | ok vx ρ6 =>
              rw [ee] at h'
              dsimp only at h'
              refine norm_post (Post.okF ee fun yv F6 H6 S6 X6 V6 => ?_)
              have hv : Held X.K X.mg σ3 F6 yv vx := norm_held ⟨_, ee⟩ V6
              split at h'
              · rename_i kt vt ρ7 ec
                obtain ⟨F7, S7, X7, ry⟩ := escs_ok (xs := [yk, yv]) (vs := [kx, vx]) S6 (.cons (hk.mono X6.ff) (.cons hv .nil)) ec
                split at h'
                · rename_i k e1
                  split at h'
                  · rename_i hlen
                    obtain ⟨a1, a2, a3, a4, a5, a6, a7⟩ := out S7 (((X4.trans X5).trans X6).trans X7)
                    cases ry with
                    | cons rk ry =>
                      cases ry with
                      | cons rv ry =>
                        refine ⟨accV, k, key_v rk e1, a4, le_mill (by rw [a7.length]; exact hlen), ?_⟩
                        refine ⟨F7, _, putK accV k yv, putT acc k vt, ?_, ?_, a3, upd_same, a5, a6, a7.put rv, h'⟩
                        · exact a1.tmp a5 a6 a4 (fun ps z => by cases z) (fun φ z => by cases z)
                        · exact a2.tmp nD
                  · exact h'.elim
                · exact h'.elim
              · exact h'.elim
  · rintro H' ⟨F', ρ', accV, acc, S', X', s', hD, fD, oD, rA, h'⟩
    rw [List.drop_length] at h'
    exact h' (.ref D) F' H' S' X' ⟨D, rfl, fD, .dK hD rA, nD, oD⟩
section
variable {kx vx tg iter : Expr} {ifs : List Expr} {scope : Scope} {own : List (Str × Nat)} {pos : Pos} {fi : FX.Env → R (List T)} {ws : List Nat} {b : T → FX.Env → Option FX.Env} {ft : FX.Env → R Bool} {fk fv : FX.Env → R Vl}
theorem re_dc (hN : X.N.Nodup) (hi : RI X au W tg iter fi) (ok : BlkOk X.N X.env.scope scope own) (hws : ∀ i ∈ ws, i ∈ own.map (·.2))
    (hg : ∀ (s : Shared) (H : Hp) (C : Addr) (cl : List (Str × Addr)) (fp : List Addr), RG (X.blk s H scope (compEnvC scope cl C X.env) fp) au ws tg b) (ht : ∀ (s : Shared) (H : Hp) (C : Addr) (cl : List (Str × Addr)) (fp : List Addr), RTs (X.blk s H scope (compEnvC scope cl C X.env) fp) au WF ifs ft)
    (hk : ∀ (s : Shared) (H : Hp) (C : Addr) (cl : List (Str × Addr)) (fp : List Addr), RE (X.blk s H scope (compEnvC scope cl C X.env) fp) au WF kx fk)
    (he : ∀ (s : Shared) (H : Hp) (C : Addr) (cl : List (Str × Addr)) (fp : List Addr), RE (X.blk s H scope (compEnvC scope cl C X.env) fp) au WF vx fv) (hc : X.calm = true := by rfl) (hs : ∀ x, foldedSetIterable iter X.env x = pure x := by intro _; rfl) :
    RE X au W (.DictComp kx vx [⟨tg, iter, ifs, 0⟩] scope pos) (fDc (own.map (·.2)) fi b ft fk fv) :=
  ⟨PE.imp (pe_dc (g := tgR X au ws b) (tt := tF X au WF VB ft) (tk := tF X au WF (VE X) fk) (tv := tF X au WF (VE X) fv) hc hN hi.pi ok (fun s H C cl fp => (hg s H C cl fp).pg) (fun s H C cl fp => (ht s H C cl fp).pts) (fun s H C cl fp => (hk s H C cl fp).pe) (fun s H C cl fp => (he s H C cl fp).pe) hs) fun σ H Q q => dc_of hws q⟩
end
end
end FX
end

section
set_option Elab.async false
set_option linter.all false
set_option maxRecDepth 100000
set_option maxHeartbeats 4000000
namespace FX
open PySem PySem.Spec PyProof.Rows L2
/-! ### {None: e} -/
theorem leafN_any {P P' : Program} {w w' : World} {h : Heap} {a : Addr} {u : Value} (d : h.DictOf (leafKind P w) a [(Leaf.none, u)]) : h.DictOf (leafKind P' w') a [(Leaf.none, u)] := by
  obtain ⟨o, es, ep, e1, e2, e3, k, p, n⟩ := d
  have one : ∃ e', es.toList = [e'] ∧ Leaf.isOf .none e'.key = true ∧ e'.val = u := by
    generalize es.toList = l at p
    cases p with
    | cons a b r =>
      cases r
      exact ⟨_, rfl, a, b⟩
  obtain ⟨e', el, a, b⟩ := one
  refine ⟨o, es, ep, e1, e2, e3, fun e he => ?_, ?_, by simp⟩
  · obtain ⟨k', h1, h2⟩ := k e he
    have : e ∈ es.toList := Array.mem_def.mp he
    rw [el] at this
    have : e = e' := by simpa using this
    subst this
    refine ⟨.none, a, ?_⟩
    have ek : k' = .none := (leafKind P w).inj _ _ _ h1 a
    subst ek
    rw [h2]
    rfl
  · rw [el]
    exact .cons a b .nil
theorem nd_ok {P : Program} {w : World} {H : Hp} {h : Heap} {a : Addr} {v : V} {u : Value} (hs : (a == sysModules) = false) (r : RelV v u) (d : h.DictOf (leafKind P w) a [(Leaf.none, u)]) : ObjOk P w H h a (.ext (ndA v a)) := by
  refine ⟨⟨hs, u, r, fun P' w' => leafN_any d⟩, ?_, fun h1 h2 x k => ?_⟩
  · obtain ⟨o, _, _, e, _⟩ := d; exact ⟨o, e⟩
  · obtain ⟨hs, u, r, d⟩ := x
    refine ⟨hs, u, r, fun P' w' => ?_⟩
    obtain ⟨o, es, ep, e1, rest⟩ := d P' w'
    exact ⟨o, es, ep, k _ e1, rest⟩
def tDN (te : TE) : TE := fun σ H Q => ∀ p, H p = none → te σ (upd H p (.dK [])) fun x H2 => H2 p = some (.dK []) ∧ Q (.ref p) (upd H2 p (.ext (ndA x p)))
theorem pe_dN {X : Cx} {pos p1 : Pos} {k : Nat} {e : Expr} {te : TE} (he : PE X e te) : PE X (.Dict [some (.Constant .none k p1)] [e] pos) (tDN te) := by
  refine ⟨fun pins s σ H Q I q => ?_⟩
  have hn := I.hok.fresh (Nat.le_refl s.heap.objs.size)
  have I1 := I.laid (a := s.heap.objs.size) (o := .dK []) (h' := s.heap.push { cls := .type "dict", data := .dict #[] }) (t' := s.toks) (fun _ _ q => Heap.get?_push_of_some _ q) (Nat.le_refl _) (dk_empty s.heap I.big)
  have pp : PPs X pos [some (.Constant .none k p1)] [e] [(tC .non, te)] := pps_cons pe_non he pps_nil
  refine wpAny_Dict_walk (knd := leafKind X.prog X.w) rfl rfl (by simp) (by simp) (thn (pp.run pins _ σ _ (fun ps H2 => match ps with | [(.non, x)] => H2 s.heap.objs.size = some (.dK []) ∧ Q (.ref s.heap.objs.size) (upd H2 s.heap.objs.size (.ext (ndA x s.heap.objs.size))) | _ => False) I1 (q _ hn)) fun ws s2 ⟨ps, H2, I2, rel, x⟩ => ?_)
  split at x
  · obtain ⟨e2, q2⟩ := x
    obtain ⟨z, hd, vs0, r0, dd⟩ := dk_of I2.hok e2
    cases r0
    cases rel with
    | @cons a b as bs hh t =>
      cases t
      obtain ⟨b1, b2⟩ := b
      obtain ⟨h1, h2⟩ := hh
      have hb1 : b1 = Value.none := h1
      subst hb1
      refine ⟨[(Leaf.none, b2)], ⟨rfl, rfl, trivial⟩, ?_, fun h' dd' hs => ⟨.ref s.heap.objs.size, _, ?_, rfl, q2⟩⟩
      · obtain ⟨o, es, ep, e1, e2, e3, k, p, n⟩ := dd
        refine ⟨o, es, ep, e1, e2, e3, fun e he => ?_, ?_, by simp⟩
        · have : es.toList = [] := List.length_eq_zero_iff.mp (by simpa using p.length)
          have : es = #[] := by simpa using this
          subst this
          simp at he
        · have : es.toList = [] := List.length_eq_zero_iff.mp (by simpa using p.length)
          rw [this]
          exact .nil
      · have he : ∃ q, h'.get? s.heap.objs.size = some q := let ⟨q, _, _, hq, _⟩ := dd'; ⟨q, hq⟩
        exact d_write I2 (by rw [e2]; exact True.intro) hs he (nd_ok hd h2 dd')
  · exact x.elim
section
variable {X : Cx} {au : Au} {W : WX}
def fDN (f : FX.Env → R Vl) : FX.Env → R Vl := fun ρ => (f ρ).norm.bind fun v ρ1 => match esc1 v ρ1 with
  | some (t, ρ2) => .ok (.fz (.dN t)) ρ2
  | none => .stuck
theorem re_dN {e : Expr} {f : FX.Env → R Vl} {k : Nat} {p1 pos : Pos} (he : RE X au W e f) : RE X au W (.Dict [some (.Constant .none k p1)] [e] pos) (fDN f) := by
  refine ⟨PE.imp (pe_dN he.pe) fun σ H Q ⟨F, ρ, S, h⟩ D nD => ?_⟩
  have nFD : F D = none := S.sub.free nD
  have Sd : SRel X.K X.mg au ρ σ F (upd H D (.dK [])) := S.new (.refl _) (same_upd nD) (S.sub.trans (same_upd nD)) (fun _ h => .inl h) S.nt
  have Xd : Xtn au ρ σ F H ρ σ F (upd H D (.dK [])) := Xt.new (.refl _) (same_upd nD) fun _ h => .inl h
  have oD : ¬ OwnA ρ σ D := fun ⟨i, k, t, h1, h2⟩ => by
    obtain ⟨a, ea, _, oa, _⟩ := S.ow h1
    rw [h2] at ea; cases ea
    obtain ⟨o, ho, _⟩ := oa.there
    rw [nD] at ho; cases ho
  refine ⟨F, ρ, Sd, ?_⟩
  have hh : ∀ {ρ1 : FX.Env} {F1 H1 : Hp}, SRel X.K X.mg au ρ1 σ F1 H1 → Xtn au ρ σ F (upd H D (.dK [])) ρ1 σ F1 H1 → H1 D = some (.dK []) ∧ F1 D = none ∧ ¬ OwnA ρ1 σ D := fun {ρ1 F1 H1} S1 X1 => by
    refine ⟨X1.hh D _ upd_same (fun _ ps z => by cases z) oD, ?_, fun z => ?_⟩
    · cases q : F1 D with
      | none => rfl
      | some u =>
        rcases X1.fn D (by rw [q]; simp) with z | z | z
        · exact absurd nFD z
        · rw [upd_same] at z; cases z
        · exact absurd z oD
    · rcases X1.ow D z with z | z
      · exact oD z
      · rw [upd_same] at z; cases z
  unfold fDN at h
  cases en : (f ρ).norm with
  | stuck => rw [en] at h; exact h.elim
  | err e' ρ1 =>
    rw [en] at h
    refine norm_post ?_
    rw [en]
    exact fun cls d F1 H1 S1 X1 E1 => h cls d F1 H1 S1 (Xd.trans X1) E1
  | ok v ρ1 =>
    rw [en] at h
    refine norm_post (Post.okF en fun x F1 H1 S1 X1 V1 => ?_)
    have hv : Held X.K X.mg σ F1 x v := norm_held ⟨_, en⟩ V1
    obtain ⟨d1, d2, d3⟩ := hh S1 X1
    refine ⟨d1, ?_⟩
    have h : Post X au W (VE X) ρ σ F H (match esc1 v ρ1 with | some (t, ρ2) => R.ok (Vl.fz (.dN t)) ρ2 | none => .stuck) Q := h
    cases e1 : esc1 v ρ1 with
    | none => rw [e1] at h; exact h.elim
    | some p =>
      obtain ⟨t, ρ2⟩ := p
      rw [e1] at h
      obtain ⟨F2, S2, X2, r⟩ := esc1_ok S1 hv e1
      have X12 := X1.trans X2
      obtain ⟨e1, e2, e3⟩ := hh S2 X12
      have S3 := S2.tmp (o' := .ext (ndA x D)) e2 e3 e1 (fun ps z => by cases z) (fun φ z => by cases z)
      have S4 : SRel X.K X.mg au ρ2 σ (upd F2 D (.ext (ndA x D))) (upd H1 D (.ext (ndA x D))) := S3.grow (same_upd e2) (same_upd2 S3.sub upd_same) (fun a oa => by
        rw [upd_ne (fun z => e3 (by rw [← z]; exact oa))]
        obtain ⟨i, k, t, h1, h2⟩ := oa
        obtain ⟨a', ea, na, _⟩ := S2.ow h1
        rw [h2] at ea; cases ea
        exact na) (nt_upd S2.nt fun ps z => by cases z)
      have X3 : Xtn au ρ σ F H ρ2 σ F2 (upd H1 D (.ext (ndA x D))) := (Xd.trans X12).tmp nD
      have X4 : Xtn au ρ σ F H ρ2 σ (upd F2 D (.ext (ndA x D))) (upd H1 D (.ext (ndA x D))) := ⟨X3.ff.trans (same_upd e2), X3.hh, X3.nn, fun b hb => by
        by_cases z : b = D
        · subst z; exact .inr (.inl nD)
        · rw [upd_ne z] at hb; exact X3.fn b hb, X3.ow⟩
      exact h _ _ _ S4 X4 (.dN (.inl upd_same) (r.mono (same_upd e2)))
/-- found[last], a dict of any kind -/
def aIxA (t u : T) : Option Nv := match t with
  | .dN c => match u with
    | .non => some (.fz c)
    | _ => none
  | _ => aIx t u
theorem ix_dN : IxR X fun x y H Q => ∃ a v, x = .ref a ∧ y = .non ∧ Rd H a (.ext (ndA v a)) ∧ Q v H := by
  intro value slice pins s σ H x y v u Q I rx ry h hs
  obtain ⟨a, z, rfl, rfl, g, q⟩ := h
  cases rx
  have hu : u = Value.none := ry
  subst hu
  obtain ⟨⟨hd, u, ru, dd⟩, _⟩ := g.ok I.hok
  have D := dd X.prog X.w
  have hT : s.TypeIs (.ref a) "dict" := D.typeIs
  exact tail_any hT PySem.F.slot_dict_getitem.lookup (wpAny_getItem_of (knd := leafKind X.prog X.w) (k := Leaf.none) (v := u) rfl D.mapOf (by simp [valueAt]) ⟨z, H, I.tok _, ru, q⟩) hs
theorem o2_ixA : Op2 X (fun x y H Q => (rIx X.K x y H Q ∨ rIxD x y H Q) ∨ ∃ a v, x = .ref a ∧ y = .non ∧ Rd H a (.ext (ndA v a)) ∧ Q v H) aIxA := by
  intro F H x y t u Q s rx ry q
  cases t with
  | dN c =>
    cases rx with
    | dN h r =>
      cases ry with
      | non => exact .inr ⟨_, _, rfl, rfl, rd_mono s h, q.flat s r⟩
      | _ => exact q.elim
  | _ => exact .inl (o2_ix F H x y _ u Q s rx ry q)
theorem re_ixA {a b : Expr} {fa fb : FX.Env → R Vl} {pos : Pos} {k : Nat} (hr : Room k X.A) (ha : RE X au W a fa) (hb : RE X au W b fb) (hs : PlainIx b := by exact fun _ _ => rfl) : RE X au W (.Subscript a b pos) (fBin aIxA fa fb) :=
  ⟨PE.imp (pe_ix ((ix_seq.or (ix_dict (hu_of hr))).or ix_dN) ha.pe hb.pe hs) fun σ H Q q => bin_of o2_ixA q⟩
/-! ### a dict that is walked is locked -/
def isD : HO → Prop
  | .dK _ => True
  | .dT _ => True
  | .ext _ => True
  | _ => False
section
variable {K : PySem.W.Frag} {mg : Str → Option Value} {F F' H H' : Hp} {d : Addr} {od : Obj} {u : HO}
theorem rd_lock (hd : F d = some u) (hu : isD u) {a : Addr} {o : HO} (h : Rd F a o) : Rd (upd F d (.frz od u)) a o := by
  by_cases z : a = d
  · subst z
    rcases h with h | ⟨o', h⟩
    · rw [hd] at h; cases h; exact .inr ⟨od, upd_same⟩
    · rw [hd] at h; cases h; exact hu.elim
  · rcases h with h | ⟨o', h⟩
    · exact .inl (by rw [upd_ne z]; exact h)
    · exact .inr ⟨o', by rw [upd_ne z]; exact h⟩
theorem rd_unlock (hd : F d = some (.frz od u)) {a : Addr} {o : HO} (h : Rd F a o) (ho : ∀ o' x, o ≠ .frz o' x) : Rd (upd F d u) a o := by
  by_cases z : a = d
  · subst z
    rcases h with h | ⟨o', h⟩
    · rw [hd] at h; cases h; exact absurd rfl (ho _ _)
    · rw [hd] at h; cases h; exact .inl upd_same
  · rcases h with h | ⟨o', h⟩
    · exact .inl (by rw [upd_ne z]; exact h)
    · exact .inr ⟨o', by rw [upd_ne z]; exact h⟩
theorem st_lock (hd : F d = some u) (hu : isD u) {a : Addr} {o w : HO} (h : F a = some o) (ho : ¬ isD o) : (upd F d w) a = some o := by
  rw [upd_ne (fun z => by rw [z, hd] at h; cases h; exact ho hu)]; exact h
theorem st_unlock (hd : F d = some (.frz od u)) {a : Addr} {o w : HO} (h : F a = some o) (ho : ∀ o' x, o ≠ .frz o' x) : (upd F d w) a = some o := by
  rw [upd_ne (fun z => by rw [z, hd] at h; cases h; exact ho _ _ rfl)]; exact h
theorem sqT_lock (hd : F d = some u) (hu : isD u) {a : Addr} {xs : List V} (h : SqT K F a xs) : SqT K (upd F d (.frz od u)) a xs := by
  rcases h with h | h
  · exact .inl (rd_lock hd hu h)
  · exact .inr h
theorem sqL_lock (hd : F d = some u) (hu : isD u) {a : Addr} {xs : List V} (h : SqL K F a xs) : SqL K (upd F d (.frz od u)) a xs := by
  rcases h with h | h
  · exact .inl (rd_lock hd hu h)
  · exact .inr h
theorem sqT_unlock (hd : F d = some (.frz od u)) {a : Addr} {xs : List V} (h : SqT K F a xs) : SqT K (upd F d u) a xs := by
  rcases h with h | h
  · exact .inl (rd_unlock hd h (fun _ _ z => by cases z))
  · exact .inr h
theorem sqL_unlock (hd : F d = some (.frz od u)) {a : Addr} {xs : List V} (h : SqL K F a xs) : SqL K (upd F d u) a xs := by
  rcases h with h | h
  · exact .inl (rd_unlock hd h (fun _ _ z => by cases z))
  · exact .inr h
mutual
theorem Rep.lock (hd : F d = some u) (hu : isD u) : ∀ {v : V} {t : T}, Rep K mg F v t → Rep K mg (upd F d (.frz od u)) v t
  | _, _, .non => .non
  | _, _, .bl b => .bl b
  | _, _, .int b => .int b
  | _, _, .str b => .str b
  | _, _, .tup h r => .tup (st_lock hd hu h (fun z => z)) (Reps.lock hd hu r)
  | _, _, .tsq h r => .tsq (sqT_lock hd hu h) (Reps.lock hd hu r)
  | _, _, .lst h r => .lst (st_lock hd hu h (fun z => z)) (Reps.lock hd hu r)
  | _, _, .seq h r => .seq (sqL_lock hd hu h) (Reps.lock hd hu r)
  | _, _, .dK h r => .dK (rd_lock hd hu h) (RepK.lock hd hu r)
  | _, _, .dT h r => .dT (rd_lock hd hu h) (RepT.lock hd hu r)
  | _, _, .ins hc h r => .ins hc (st_lock hd hu h (fun z => z)) (RepF.lock hd hu r)
  | _, _, .fn h => .fn h
  | _, _, .ty n => .ty n
  | _, _, .dN h r => .dN (rd_lock hd hu h) (Rep.lock hd hu r)
theorem Reps.lock (hd : F d = some u) (hu : isD u) : ∀ {v : List V} {t : List T}, Reps K mg F v t → Reps K mg (upd F d (.frz od u)) v t
  | _, _, .nil => .nil
  | _, _, .cons h r => .cons (Rep.lock hd hu h) (Reps.lock hd hu r)
theorem RepK.lock (hd : F d = some u) (hu : isD u) : ∀ {v : List (Key × V)} {t : List (Key × T)}, RepK K mg F v t → RepK K mg (upd F d (.frz od u)) v t
  | _, _, .nil => .nil
  | _, _, .cons h r => .cons (Rep.lock hd hu h) (RepK.lock hd hu r)
theorem RepT.lock (hd : F d = some u) (hu : isD u) : ∀ {v : List (List Key × V)} {t : List (List Key × T)}, RepT K mg F v t → RepT K mg (upd F d (.frz od u)) v t
  | _, _, .nil => .nil
  | _, _, .cons h r => .cons (Rep.lock hd hu h) (RepT.lock hd hu r)
theorem RepF.lock (hd : F d = some u) (hu : isD u) : ∀ {v : List (Str × V)} {t : List (Str × T)}, RepF K mg F v t → RepF K mg (upd F d (.frz od u)) v t
  | _, _, .nil => .nil
  | _, _, .cons h r => .cons (Rep.lock hd hu h) (RepF.lock hd hu r)
end
mutual
theorem Rep.unlock (hd : F d = some (.frz od u)) : ∀ {v : V} {t : T}, Rep K mg F v t → Rep K mg (upd F d u) v t
  | _, _, .non => .non
  | _, _, .bl b => .bl b
  | _, _, .int b => .int b
  | _, _, .str b => .str b
  | _, _, .tup h r => .tup (st_unlock hd h (fun _ _ z => by cases z)) (Reps.unlock hd r)
  | _, _, .tsq h r => .tsq (sqT_unlock hd h) (Reps.unlock hd r)
  | _, _, .lst h r => .lst (st_unlock hd h (fun _ _ z => by cases z)) (Reps.unlock hd r)
  | _, _, .seq h r => .seq (sqL_unlock hd h) (Reps.unlock hd r)
  | _, _, .dK h r => .dK (rd_unlock hd h (fun _ _ z => by cases z)) (RepK.unlock hd r)
  | _, _, .dT h r => .dT (rd_unlock hd h (fun _ _ z => by cases z)) (RepT.unlock hd r)
  | _, _, .ins hc h r => .ins hc (st_unlock hd h (fun _ _ z => by cases z)) (RepF.unlock hd r)
  | _, _, .fn h => .fn h
  | _, _, .ty n => .ty n
  | _, _, .dN h r => .dN (rd_unlock hd h (fun _ _ z => by cases z)) (Rep.unlock hd r)
theorem Reps.unlock (hd : F d = some (.frz od u)) : ∀ {v : List V} {t : List T}, Reps K mg F v t → Reps K mg (upd F d u) v t
  | _, _, .nil => .nil
  | _, _, .cons h r => .cons (Rep.unlock hd h) (Reps.unlock hd r)
theorem RepK.unlock (hd : F d = some (.frz od u)) : ∀ {v : List (Key × V)} {t : List (Key × T)}, RepK K mg F v t → RepK K mg (upd F d u) v t
  | _, _, .nil => .nil
  | _, _, .cons h r => .cons (Rep.unlock hd h) (RepK.unlock hd r)
theorem RepT.unlock (hd : F d = some (.frz od u)) : ∀ {v : List (List Key × V)} {t : List (List Key × T)}, RepT K mg F v t → RepT K mg (upd F d u) v t
  | _, _, .nil => .nil
  | _, _, .cons h r => .cons (Rep.unlock hd h) (RepT.unlock hd r)
theorem RepF.unlock (hd : F d = some (.frz od u)) : ∀ {v : List (Str × V)} {t : List (Str × T)}, RepF K mg F v t → RepF K mg (upd F d u) v t
  | _, _, .nil => .nil
  | _, _, .cons h r => .cons (Rep.unlock hd h) (RepF.unlock hd r)
end
end
end
end FX
end

section
set_option Elab.async false
set_option linter.all false
set_option maxRecDepth 100000
set_option maxHeartbeats 4000000
namespace FX
open PySem PySem.Spec PyProof.Rows L2
/-! ### for k in a dict -/
def Itn (d : Addr) (o : Obj) (v : V) : It :=
  ⟨fun i H => H d = some (.frz o (.ext (ndA v d))) ∧ i < 1, fun i H x H' => H' = H ∧ x = .non, fun i H => H d = some (.frz o (.ext (ndA v d))) ∧ 1 ≤ i⟩
section
variable {X : Cx} {pins : List (Addr × Obj)} {σ : L2.St} {H : Hp} {s : Shared} {d : Addr} {o : Obj} {v : V}
theorem frzN (I : Inv X pins σ H s) (h : H d = some (.frz o (.ext (ndA v d)))) :
    (d == sysModules) = false ∧ s.heap.get? d = some o ∧ o.ExactDict ∧ ∃ (es : Array DictEntry) (ep : Nat) (u : Value), o.data = .dict es ep ∧ es.size = 1 ∧ s.heap.DictAt (leafKind X.prog X.w) d [(Leaf.none, u)] ep := by
  obtain ⟨hd, ⟨hs, u, ru, dd⟩, _⟩ := I.hok d _ h
  obtain ⟨o', es, ep, ho, hx, hdt, k, p, n⟩ := dd X.prog X.w
  rw [hd] at ho
  cases ho
  refine ⟨hs, hd, hx, es, ep, u, hdt, ?_, o, es, hd, hx, hdt, k, p, n⟩
  have l1 := p.length
  rw [Array.length_toList] at l1
  simpa using l1
end
section
variable {P : Program} {w : World} {K : PySem.W.Frag} {tg : Expr} {d : Addr} {o : Obj} {es : Array DictEntry} {ep : Nat}
theorem turn_kN {v : V} (it : Addr) (hod : o.data = .dict es ep) : Turn P w K tg (Itn d o v) [it] it (fun i h => h.IsKeyIter it d i 1 ep) where
  mem := by simp
  obj := fun i h st b hb => by
    have e : b = it := by simpa using hb
    subst e
    obtain ⟨oi, e, c, dd⟩ := st
    exact ⟨oi, e, fun v z => by rw [dd] at z; cases z⟩
  keep := fun i h h' st k => st.at fun oi e => k it (by simp) oi e
  item := by
    intro X hP hw hK hc i pins s σ H E I hf st hg
    subst hP hw hK
    obtain ⟨hd, hi⟩ := hg
    obtain ⟨f0, f1, f2, f3, f4, f5⟩ := hf it (by simp)
    obtain ⟨hs, hgd, hx, es', ep', u, hdt, hsz, hm⟩ := frzN I hd
    obtain ⟨rfl, rfl⟩ := dict_ep hod hdt
    have ei : i = 0 := by omega
    subst ei
    refine wpAny_pyNext_dict_item (knd := leafKind X.prog X.w) (kvs := [(Leaf.none, u)]) (k := Leaf.none) (v := u) st hm rfl fun key h' hkey st' sb => ?_
    have I1 : Inv X pins σ H { s with heap := h' } := I.turned (t' := s.toks) (fun b ob hb e => (sb.2 b hb).trans e) f0 f1 f3 f4 f5
    obtain ⟨oi, e, c, dd⟩ := id st'
    have hk : key = Value.none := by
      have hkey : Leaf.isOf .none key = true := hkey
      cases key <;> first | rfl | exact absurd hkey Bool.false_ne_true
    subst hk
    exact ⟨.none, rfl, go_of (s := { s with heap := h' }) e c dd (by decide) ⟨.non, H, I1, rfl, ⟨rfl, rfl⟩, st', fun b hb => (hf b hb).1⟩⟩
  done := by
    intro X hP hw hK hc i pins s σ H E I hf st hg
    subst hP hw hK
    obtain ⟨hd, hi⟩ := hg
    obtain ⟨f0, f1, f2, f3, f4, f5⟩ := hf it (by simp)
    obtain ⟨hs, hgd, hx, es', ep', u, hdt, hsz, hm⟩ := frzN I hd
    obtain ⟨rfl, rfl⟩ := dict_ep hod hdt
    exact next_key_end (I.ok.hd hc) st hgd hdt hsz hi fun h' eb => ⟨rfl, I.turned (t' := s.toks) (fun b ob hb e => eb b ob hb e) f0 f1 f3 f4 f5⟩
  self := fun A i s Q E st h => wpAny_pyIter_keyiter st h
end
def iKA (td : TE) : TI := fun σ H R => td σ H fun x H1 => ∃ d o, x = .ref d ∧ ((∃ kvs, H1 d = some (.frz o (.dK kvs)) ∧ R (Itk d o kvs) H1) ∨ ∃ v, H1 d = some (.frz o (.ext (ndA v d))) ∧ R (Itn d o v) H1)
section
variable {X : Cx} {au : Au} {W : WX}
theorem pi_kA {tg e : Expr} {td : TE} (he : PE X e td) : PI X tg e (iKA td) := by
  refine ⟨fun pins s σ H R I h => ?_⟩
  refine thn (he.run pins s σ H _ I h) fun u s1 ⟨x, H1, I1, rx, d, o, ex, q⟩ => ?_
  subst ex
  obtain rfl : u = Value.ref d := rx
  rcases q with ⟨kvs, hd, q⟩ | ⟨v, hd, q⟩
  · obtain ⟨hs, hgd, hx, es, ep, vs, hdt, hsz, kv, hm⟩ := I1.frzK hd
    refine iter_keys hs hgd hx hdt (pi_one (tk := s1.toks) I1 _ (turn_keys _ hdt) ⟨_, Heap.get?_push_size _ rfl, rfl, ?_⟩ q)
    rw [hsz] <;> rfl
  · obtain ⟨hs, hgd, hx, es, ep, u, hdt, hsz, hm⟩ := frzN I1 hd
    refine iter_keys hs hgd hx hdt (pi_one (tk := s1.toks) I1 _ (turn_kN _ hdt) ⟨_, Heap.get?_push_size _ rfl, rfl, ?_⟩ q)
    rw [hsz] <;> rfl
def kT : Key → T
  | .inl i => .int i
  | .inr x => .str x
/-- the keys of a dict; the one with None only where n -/
def dkeys (n : Bool) : T → Option (List T)
  | .dK kvs => some (kvs.map fun p => kT p.1)
  | .dN _ => if n = true then some [.non] else none
  | _ => none
theorem RepK.getK {K : PySem.W.Frag} {mg : Str → Option Value} {F : Hp} : ∀ {kvs : List (Key × V)} {ts : List (Key × T)}, RepK K mg F kvs ts → ∀ {i : Nat} {k : Key} {v : V}, kvs[i]? = some (k, v) → ∃ u, ts[i]? = some (k, u)
  | _, _, .nil, _, _, _, h => by cases h
  | _, _, .cons h r, 0, _, _, e => by cases e; exact ⟨_, rfl⟩
  | _, _, .cons h r, i + 1, _, _, e => RepK.getK r (i := i) e
theorem wk_keys {F H : Hp} {d : Addr} {o : Obj} {kvs : List (Key × V)} {ts : List (Key × T)} (h : F d = some (.frz o (.dK kvs))) (r : RepK X.K X.mg F kvs ts) : Wk X.K X.mg (Itk d o kvs) F H (ts.map fun p => kT p.1) := by
  have hl := r.length
  refine ⟨fun H => H d = some (.frz o (.dK kvs)), fun i H x H' => H' = H ∧ ∃ k v, kvs[i]? = some (k, v) ∧ x = kV k, ?_, fun F' H' s1 s2 => s2 _ _ (s1 _ _ h), ?_⟩
  · rw [List.length_map, ← hl]
    exact ⟨fun i H hi q => ⟨q, hi⟩, fun H q => ⟨q, Nat.le_refl _⟩, fun i H x H' hi q y => y⟩
  · rintro i H1 x H2 F1 t ht s1 s2 ⟨e, k, v, hkv, ex⟩
    subst e ex
    refine ⟨F1, .refl _, .refl _, s2, fun _ h => .inl h, ?_⟩
    have : ∃ u, ts[i]? = some (k, u) := r.getK hkv
    obtain ⟨u, hu⟩ := this
    rw [List.getElem?_map, hu] at ht
    cases ht
    cases k with
    | inl i => exact .int i
    | inr x => exact .str x
theorem wk_N {F H : Hp} {d : Addr} {o : Obj} {v : V} (h : F d = some (.frz o (.ext (ndA v d)))) : Wk X.K X.mg (Itn d o v) F H [.non] := by
  refine ⟨fun H => H d = some (.frz o (.ext (ndA v d))), fun i H x H' => H' = H ∧ x = .non, ?_, fun F' H' s1 s2 => s2 _ _ (s1 _ _ h), ?_⟩
  · exact ⟨fun i H hi q => ⟨q, hi⟩, fun H q => ⟨q, Nat.le_refl _⟩, fun i H x H' hi q y => y⟩
  · rintro i H1 x H2 F1 t ht s1 s2 ⟨e, ex⟩
    subst e ex
    refine ⟨F1, .refl _, .refl _, s2, fun _ h => .inl h, ?_⟩
    cases i with
    | zero => cases ht; exact .non
    | succ i => cases ht
/-! #### the lock, told of states -/
section
variable {K : PySem.W.Frag} {mg : Str → Option Value} {F F' H H' : Hp} {d a : Addr} {od : Obj} {u : HO} {t : T} {ρ ρ' : FX.Env} {σ σ' : L2.St}
theorem OwnAt.lock (hd : F d = some u) (hu : isD u) (fa : F a = none) (h : OwnAt K mg F H a t) : OwnAt K mg (upd F d (.frz od u)) (upd H d (.frz od u)) a t := by
  have ne : a ≠ d := fun z => by rw [z, hd] at fa; cases fa
  cases h with
  | lst h r => exact .lst (by rw [upd_ne ne]; exact h) (r.lock hd hu)
  | dK h r => exact .dK (by rw [upd_ne ne]; exact h) (r.lock hd hu)
  | dT h r => exact .dT (by rw [upd_ne ne]; exact h) (r.lock hd hu)
  | ins hc h r => exact .ins hc (by rw [upd_ne ne]; exact h) (r.lock hd hu)
theorem OwnAt.unlock (hd : F d = some (.frz od u)) (fa : F a = none) (h : OwnAt K mg F H a t) : OwnAt K mg (upd F d u) (upd H d u) a t := by
  have ne : a ≠ d := fun z => by rw [z, hd] at fa; cases fa
  cases h with
  | lst h r => exact .lst (by rw [upd_ne ne]; exact h) (r.unlock hd)
  | dK h r => exact .dK (by rw [upd_ne ne]; exact h) (r.unlock hd)
  | dT h r => exact .dT (by rw [upd_ne ne]; exact h) (r.unlock hd)
  | ins hc h r => exact .ins hc (by rw [upd_ne ne]; exact h) (r.unlock hd)
theorem upd_same3 {F H : Hp} {d : Addr} {w : HO} (s : Same F H) : Same (upd F d w) (upd H d w) := fun b o h => by
  by_cases z : b = d
  · subst z; rw [upd_same] at h ⊢; exact h
  · rw [upd_ne z] at h ⊢; exact s _ _ h
theorem upd_none {H : Hp} {d b : Addr} {w : HO} (h : upd H d w b = none) : b ≠ d ∧ H b = none := by
  by_cases z : b = d
  · subst z; rw [upd_same] at h; cases h
  · rw [upd_ne z] at h; exact ⟨z, h⟩
theorem SRel.lock (S : SRel K mg au ρ σ F H) (hd : F d = some u) (hu : isD u) (hn : (∀ φ, u ≠ .ext φ) ∨ au.tb = []) : SRel K mg au ρ σ (upd F d (.frz od u)) (upd H d (.frz od u)) where
  nt := nt_upd S.nt fun ps z => by cases z
  sub := upd_same3 S.sub
  nw := fun b h => S.nw b (upd_none h).2
  tabs := by
    rcases hn with hn | hn
    · exact tabs_upd S.tabs (S.sub _ _ hd) (fun ps z => by subst z; exact hu) hn
    · intro p hp; rw [hn] at hp; cases hp
  len := S.len
  fz := fun h => by obtain ⟨v, a, b⟩ := S.fz h; exact ⟨v, a, b.lock hd hu⟩
  ow := fun h => by
    obtain ⟨a, e, n, o, i⟩ := S.ow h
    exact ⟨a, e, by rw [upd_ne (fun z => by rw [z, hd] at n; cases n)]; exact n, o.lock hd hu n, i⟩
  ds := S.ds
theorem SRel.unlock (S : SRel K mg au ρ σ F H) (hd : F d = some (.frz od u)) (hu : isD u) : SRel K mg au ρ σ (upd F d u) (upd H d u) where
  nt := nt_upd S.nt fun ps z => by subst z; exact hu
  sub := upd_same3 S.sub
  nw := fun b h => S.nw b (upd_none h).2
  tabs := tabs_upd S.tabs (S.sub _ _ hd) (fun ps z => by cases z) (fun φ z => by cases z)
  len := S.len
  fz := fun h => by obtain ⟨v, a, b⟩ := S.fz h; exact ⟨v, a, b.unlock hd⟩
  ow := fun h => by
    obtain ⟨a, e, n, o, i⟩ := S.ow h
    exact ⟨a, e, by rw [upd_ne (fun z => by rw [z, hd] at n; cases n)]; exact n, o.unlock hd n, i⟩
  ds := S.ds
theorem Xt.unlock {lam : Prop} {A A' : Addr → Prop} (x : Xt lam A (upd F d (.frz od u)) (upd H d (.frz od u)) A' F' H') (hF : F d = some u) (hH : H d = some u) (hA : ¬ A d) : Xt lam A F H A' (upd F' d u) (upd H' d u) where
  ff := fun b o h => by
    by_cases z : b = d
    · subst z; rw [hF] at h; cases h; exact upd_same
    · rw [upd_ne z]; exact x.ff b o (by rw [upd_ne z]; exact h)
  hh := fun b o h n na => by
    by_cases z : b = d
    · subst z; rw [hH] at h; cases h; exact upd_same
    · rw [upd_ne z]; exact x.hh b o (by rw [upd_ne z]; exact h) n na
  nn := fun b h => (upd_none (x.nn b (upd_none h).2)).2
  fn := fun b h => by
    by_cases z : b = d
    · subst z; exact .inl (by rw [hF]; simp)
    · rw [upd_ne z] at h
      rcases x.fn b h with q | q | q
      · rw [upd_ne z] at q; exact .inl q
      · exact .inr (.inl (upd_none q).2)
      · exact .inr (.inr q)
  ow := fun b h => (x.ow b h).elim .inl fun q => .inr (upd_none q).2
theorem xt_locked {lam : Prop} {A A' : Addr → Prop} (x : Xt lam A (upd F d (.frz od u)) H A' F' H') : F' d = some (.frz od u) := x.ff _ _ upd_same
end
/-- no exception -/
def noEr : O → O
  | .er _ _ => .stuck
  | o => o
/-- the i-th slot's dict is locked -/
def Lkd (i : Nat) (σ : L2.St) (H : Hp) : Prop := ∃ d od u, σ[i]? = some (some (.ref d)) ∧ H d = some (.frz od u)
def fiK (n : Bool) (i : Nat) : FX.Env → R (List T) := fun ρ => match ρ[i]? with
  | some (.fz t) => match dkeys n t with
    | some ks => .ok ks ρ
    | none => .stuck
  | _ => .stuck
/-- the slot's own dict is let out first -/
def thaw (i : Nat) (ρ : FX.Env) : FX.Env := match ρ[i]? with
  | some (.own _ t) => ρ.set i (.fz t)
  | _ => ρ
theorem pi_lkd {tg : Expr} {x : Str} {p : Pos} (n : Bool) (i : Nat) (hN : X.N[i]? = some x) (hv : Vis X.env.scope x) (hd : (x == ("__debug__" : Str)) = false) (hcd : (x == ("__classdict__" : Str)) = false) :
    PI X tg (.Name x p) fun σ H R => Lkd i σ H ∧ tF X au W (VW X) (fiK n i) σ H R := by
  refine PI.imp (pi_kA (pe_var hN hv hd hcd)) fun σ H R ⟨⟨d, od, u, hs, hl⟩, F, ρ, S, h⟩ => ?_
  unfold fiK at h
  split at h
  · rename_i t et
    obtain ⟨v, ev, rv⟩ := S.fz et
    rw [hs] at ev; cases ev
    split at h
    · rename_i ks ek
      refine ⟨_, hs, d, ?_⟩
      cases rv with
      | dK hr r =>
        cases ek
        rcases hr with hr | ⟨o, hr⟩
        · have := S.sub _ _ hr; rw [hl] at this; cases this
        · exact ⟨o, rfl, .inl ⟨_, S.sub _ _ hr, h _ F H S (Xt.refl _ _ _ _) (wk_keys hr r)⟩⟩
      | dN hr r =>
        simp only [dkeys] at ek
        split at ek
        · cases ek
          rcases hr with hr | ⟨o, hr⟩
          · have := S.sub _ _ hr; rw [hl] at this; cases this
          · exact ⟨o, rfl, .inr ⟨_, S.sub _ _ hr, h _ F H S (Xt.refl _ _ _ _) (wk_N hr)⟩⟩
        · cases ek
      | _ => cases ek
    · exact h.elim
  · exact h.elim
/-- a tree that is walked as a dict stands at an address: it is locked, or may be -/
theorem rd_d {n : Bool} {F : Hp} {x : V} {t : T} {ks : List T} (r : Rep X.K X.mg F x t) (e : dkeys n t = some ks) (hn : n = true → au.tb = []) : ∃ d, x = .ref d ∧ ((∃ od u, F d = some (.frz od u)) ∨ ∃ u, F d = some u ∧ isD u ∧ Mut (some u) ∧ ((∀ φ, u ≠ .ext φ) ∨ au.tb = [])) := by
  cases r with
  | dK h r =>
    refine ⟨_, rfl, ?_⟩
    rcases h with h | ⟨o, h⟩
    · exact .inr ⟨_, h, trivial, trivial, .inl fun φ z => by cases z⟩
    · exact .inl ⟨_, _, h⟩
  | dN h r =>
    simp only [dkeys] at e
    split at e
    · rename_i hh
      refine ⟨_, rfl, ?_⟩
      rcases h with h | ⟨o, h⟩
      · exact .inr ⟨_, h, trivial, trivial, .inr (hn hh)⟩
      · exact .inl ⟨_, _, h⟩
    · cases e
  | _ => cases e
def gForD (n : Bool) (i : Nat) (b : T → FX.Env → Option FX.Env) (g : FX.Env → O) : FX.Env → O := fun ρ => noEr (gFor (fiK n i) b g (thaw i ρ))
theorem noEr_post {ρ : FX.Env} {σ : L2.St} {F H : Hp} {o : O} {D : Ends} (h : PostS X au W ρ σ F H (noEr o) D) : PostS X au WF ρ σ F H o D := by
  cases o <;> first | exact h | exact h.elim
theorem PostS.lock {ρ : FX.Env} {σ : L2.St} {F H : Hp} {o : O} {D : Ends} {d : Addr} {u : HO} {od : Obj} (h : PostS X au WF ρ σ F H o D) (hF : F d = some u) (hH : H d = some u) (hu : isD u) (hA : ¬ OwnA ρ σ d) :
    PostS X au WF ρ σ (upd F d (.frz od u)) (upd H d (.frz od u)) o ⟨fun σ' H' => H' d = some (.frz od u) ∧ D.nx σ' (upd H' d u), fun v H' => H' d = some (.frz od u) ∧ D.rt v (upd H' d u), fun σ' H' => H' d = some (.frz od u) ∧ D.bk σ' (upd H' d u), fun σ' H' => H' d = some (.frz od u) ∧ D.ct σ' (upd H' d u)⟩ := by
  cases o with
  | stuck => exact h
  | er e ρ' =>
    intro cls dd σ' F' H' S' X' E'
    refine h cls dd σ' (upd F' d u) (upd H' d u) (S'.unlock (xt_locked X') hu) (X'.unlock hF hH hA) ?_
    obtain ⟨C, dx, fs, e1, e2, e3, e4, e5⟩ := E'
    refine ⟨C, dx, fs, e1, e2, e3, ?_, e5.unlock (xt_locked X')⟩
    rw [upd_ne (fun z => by have := S'.sub _ _ (xt_locked X'); rw [z, this] at e4; cases e4)]
    exact e4
  | nx ρ' => exact fun σ' F' H' S' X' => ⟨S'.sub _ _ (xt_locked X'), h σ' _ _ (S'.unlock (xt_locked X') hu) (X'.unlock hF hH hA)⟩
  | bk ρ' => exact fun σ' F' H' S' X' => ⟨S'.sub _ _ (xt_locked X'), h σ' _ _ (S'.unlock (xt_locked X') hu) (X'.unlock hF hH hA)⟩
  | ct ρ' => exact fun σ' F' H' S' X' => ⟨S'.sub _ _ (xt_locked X'), h σ' _ _ (S'.unlock (xt_locked X') hu) (X'.unlock hF hH hA)⟩
  | rt v ρ' =>
    refine fun x σ' F' H' S' X' V' => ⟨S'.sub _ _ (xt_locked X'), h x σ' _ _ (S'.unlock (xt_locked X') hu) (X'.unlock hF hH hA) ?_⟩
    cases v with
    | fz t => exact Rep.unlock (xt_locked X') V'
    | bor i => exact V'
    | own t =>
      obtain ⟨p, e, n, ow, n0, no⟩ := V'
      have ne : p ≠ d := fun z => by rw [z, xt_locked X'] at n; cases n
      exact ⟨p, e, by rw [upd_ne ne]; exact n, ow.unlock (xt_locked X') n, (upd_none n0).2, no⟩
theorem thaw_state {i : Nat} {ρ : FX.Env} {σ : L2.St} {F H : Hp} (S : SRel X.K X.mg au ρ σ F H) : ∃ F', SRel X.K X.mg au (thaw i ρ) σ F' H ∧ Xtn au ρ σ F H (thaw i ρ) σ F' H := by
  unfold thaw
  split
  · rename_i k t e
    obtain ⟨a, o, ea, S', X', r⟩ := S.thaw_set e
    exact ⟨_, S', X'⟩
  · exact ⟨F, S, Xt.refl _ _ _ _⟩
theorem rs_forD (n : Bool) (i : Nat) {ws : List Nat} {x : Str} {p : Pos} {tg : Expr} {body : List Stmt} {b : T → FX.Env → Option FX.Env} {g : FX.Env → O} {pos : Pos} (hn : n = true → au.tb = []) (hg : RG X au ws tg b) (hb : RSs X au WF body g) (hp : PassesOwn (model X.prog X.w) X.A X.env X.xe) (hN : X.N[i]? = some x := by rfl)
    (hv : Vis X.env.scope x := by first | exact Or.inl rfl | exact Or.inr (Or.inl rfl) | exact Or.inr (Or.inr rfl)) (hd : (x == ("__debug__" : Str)) = false := by decide) (hcd : (x == ("__classdict__" : Str)) = false := by decide) (hc : X.calm = true := by rfl)
    (hs : ∀ x', foldedSetIterable (.Name x p) X.env x' = pure x' := by intro _; rfl) : RS X au W (.For tg (.Name x p) body [] pos) (gForD n i b g) := by
  have A : PS X (.For tg (.Name x p) body [] pos) fun D σ H => Lkd i σ H ∧ tS X au WF (gFor (fiK n i) b g) D σ H :=
    PS.imp (ps_for hp hc (pi_lkd (au := au) (W := WF) n i hN hv hd hcd) hg.pg hb.pss hs) fun D σ H ⟨l, q⟩ => ⟨l, for_core q⟩
  refine ⟨⟨fun pins s σ H D I ⟨F, ρ, S, q⟩ => ?_⟩⟩
  obtain ⟨F', S', X'⟩ := thaw_state (i := i) S
  have q' : PostS X au WF (thaw i ρ) σ F' H (gFor (fiK n i) b g (thaw i ρ)) D := noEr_post (q.step X')
  have ex : ∃ t ks, (thaw i ρ)[i]? = some (.fz t) ∧ dkeys n t = some ks := by
    unfold gFor at q'
    cases e : fiK n i (thaw i ρ) with
    | stuck => rw [e] at q'; exact q'.elim
    | err e' ρ' => rw [e] at q'; exact absurd e (by unfold fiK; split <;> (try split) <;> simp)
    | ok ks ρ1 =>
      unfold fiK at e
      split at e
      · rename_i t et
        split at e
        · rename_i ks' ek; exact ⟨t, _, et, ek⟩
        · cases e
      · cases e
  obtain ⟨t, ks, et, ek⟩ := ex
  obtain ⟨v, ev, rv⟩ := S'.fz et
  obtain ⟨d, rfl, h⟩ := rd_d (au := au) rv ek hn
  rcases h with ⟨od, u, h⟩ | ⟨u, h, hu, mu, hx⟩
  · exact A.run pins s σ H D I ⟨⟨d, od, u, ev, S'.sub _ _ h⟩, F', _, S', q'⟩
  · have hA : ¬ OwnA (thaw i ρ) σ d := fun ⟨j, k, t', h1, h2⟩ => by
      obtain ⟨a, ea, na, _⟩ := S'.ow h1
      rw [h2] at ea; cases ea
      rw [h] at na; cases na
    exact (ps_lock A).run pins s σ H D I ⟨d, u, S'.sub _ _ h, mu, fun od => ⟨⟨d, od, u, ev, upd_same⟩, _, _, S'.lock h hu hx, q'.lock h (S'.sub _ _ h) hu hA⟩⟩
def noErR {α : Type} : R α → R α
  | .err _ _ => .stuck
  | r => r
theorem noErR_post {ρ : FX.Env} {σ : L2.St} {F H : Hp} {r : R Vl} {Q : VK} (h : Post X au W (VE X) ρ σ F H (noErR r) Q) : Post X au WF (VE X) ρ σ F H r Q := by
  cases r <;> first | exact h | exact h.elim
theorem Post.lock {ρ : FX.Env} {σ : L2.St} {F H : Hp} {r : R Vl} {Q : VK} {d : Addr} {u : HO} {od : Obj} (h : Post X au WF (VE X) ρ σ F H r Q) (hF : F d = some u) (hH : H d = some u) (hu : isD u) (hA : ¬ OwnA ρ σ d) :
    Post X au WF (VE X) ρ σ (upd F d (.frz od u)) (upd H d (.frz od u)) r fun v H' => H' d = some (.frz od u) ∧ Q v (upd H' d u) := by
  cases r with
  | stuck => exact h
  | err e ρ' =>
    intro cls dd F' H' S' X' E'
    refine h cls dd (upd F' d u) (upd H' d u) (S'.unlock (xt_locked X') hu) (X'.unlock hF hH hA) ?_
    obtain ⟨C, dx, fs, e1, e2, e3, e4, e5⟩ := E'
    refine ⟨C, dx, fs, e1, e2, e3, ?_, e5.unlock (xt_locked X')⟩
    rw [upd_ne (fun z => by have := S'.sub _ _ (xt_locked X'); rw [z, this] at e4; cases e4)]
    exact e4
  | ok v ρ' =>
    refine fun x F' H' S' X' V' => ⟨S'.sub _ _ (xt_locked X'), h x _ _ (S'.unlock (xt_locked X') hu) (X'.unlock hF hH hA) ?_⟩
    cases v with
    | fz t => exact Rep.unlock (xt_locked X') V'
    | bor i => exact V'
    | own t =>
      obtain ⟨p, e, n, ow, n0, no⟩ := V'
      have ne : p ≠ d := fun z => by rw [z, xt_locked X'] at n; cases n
      exact ⟨p, e, by rw [upd_ne ne]; exact n, ow.unlock (xt_locked X') n, (upd_none n0).2, no⟩
def fLcD (n : Bool) (i : Nat) (vs : List Nat) (b : T → FX.Env → Option FX.Env) (ft : FX.Env → R Bool) (fe : FX.Env → R Vl) : FX.Env → R Vl := fun ρ => noErR (fLc vs (fiK n i) b ft fe (thaw i ρ))
theorem fiK_ok {n : Bool} {i : Nat} {ρ : FX.Env} {α : Type} {k : List T → FX.Env → R α} (h : (fiK n i ρ).bind k ≠ .stuck) : ∃ t ks, ρ[i]? = some (.fz t) ∧ dkeys n t = some ks := by
  unfold fiK at h
  split at h
  · rename_i t et
    split at h
    · rename_i ks ek; exact ⟨t, ks, et, ek⟩
    · exact absurd rfl h
  · exact absurd rfl h
/-- an expression that walks the slot's dict -/
theorem pe_lockD {e : Expr} {n : Bool} {i : Nat} {k : List T → FX.Env → R Vl} (hn : n = true → au.tb = []) (A : PE X e fun σ H Q => Lkd i σ H ∧ tF X au WF (VE X) (fun ρ => (fiK n i ρ).bind k) σ H Q) : RE X au W e fun ρ => noErR ((fiK n i (thaw i ρ)).bind k) := by
  refine ⟨⟨fun pins s σ H D I ⟨F, ρ, S, q⟩ => ?_⟩⟩
  obtain ⟨F', S', X'⟩ := thaw_state (i := i) S
  have q' : Post X au WF (VE X) (thaw i ρ) σ F' H ((fiK n i (thaw i ρ)).bind k) D := noErR_post (q.step early_VE X')
  obtain ⟨t, ks, et, ek⟩ := fiK_ok (n := n) (i := i) (ρ := thaw i ρ) (k := k) fun z => by rw [z] at q'; exact q'
  obtain ⟨v, ev, rv⟩ := S'.fz et
  obtain ⟨d, rfl, h⟩ := rd_d (au := au) rv ek hn
  rcases h with ⟨od, u, h⟩ | ⟨u, h, hu, mu, hx⟩
  · exact A.run pins s σ H D I ⟨⟨d, od, u, ev, S'.sub _ _ h⟩, F', _, S', q'⟩
  · have hA : ¬ OwnA (thaw i ρ) σ d := fun ⟨j, k, t', h1, h2⟩ => by
      obtain ⟨a, ea, na, _⟩ := S'.ow h1
      rw [h2] at ea; cases ea
      rw [h] at na; cases na
    exact (pe_lock A).run pins s σ H D I ⟨d, u, S'.sub _ _ h, mu, fun od => ⟨⟨d, od, u, ev, upd_same⟩, _, _, S'.lock h hu hx, q'.lock h (S'.sub _ _ h) hu hA⟩⟩
section
variable {elt tg : Expr} {ifs : List Expr} {scope : Scope} {own : List (Str × Nat)} {x : Str} {p pos : Pos} {ws : List Nat} {b : T → FX.Env → Option FX.Env} {ft : FX.Env → R Bool} {fe : FX.Env → R Vl}
theorem re_lcD (n : Bool) (i : Nat) (hN' : X.N.Nodup) (hn : n = true → au.tb = []) (ok : BlkOk X.N X.env.scope scope own) (hws : ∀ i ∈ ws, i ∈ own.map (·.2))
    (hg : ∀ (s : Shared) (H : Hp) (C : Addr) (cl : List (Str × Addr)) (fp : List Addr), RG (X.blk s H scope (compEnvC scope cl C X.env) fp) au ws tg b) (ht : ∀ (s : Shared) (H : Hp) (C : Addr) (cl : List (Str × Addr)) (fp : List Addr), RTs (X.blk s H scope (compEnvC scope cl C X.env) fp) au WF ifs ft)
    (he : ∀ (s : Shared) (H : Hp) (C : Addr) (cl : List (Str × Addr)) (fp : List Addr), RE (X.blk s H scope (compEnvC scope cl C X.env) fp) au WF elt fe) (hN : X.N[i]? = some x := by rfl)
    (hv : Vis X.env.scope x := by first | exact Or.inl rfl | exact Or.inr (Or.inl rfl) | exact Or.inr (Or.inr rfl)) (hd : (x == ("__debug__" : Str)) = false := by decide) (hcd : (x == ("__classdict__" : Str)) = false := by decide) (hc : X.calm = true := by rfl)
    (hs : ∀ x', foldedSetIterable (.Name x p) X.env x' = pure x' := by intro _; rfl) : RE X au W (.ListComp elt [⟨tg, .Name x p, ifs, 0⟩] scope pos) (fLcD n i (own.map (·.2)) b ft fe) :=
  pe_lockD hn (PE.imp (pe_lc (g := tgR X au ws b) (tt := tF X au WF VB ft) (te := tF X au WF (VE X) fe) hc hN' (pi_lkd (au := au) (W := WF) n i hN hv hd hcd) ok (fun s H C cl fp => (hg s H C cl fp).pg) (fun s H C cl fp => (ht s H C cl fp).pts) (fun s H C cl fp => (he s H C cl fp).pe) hs) fun σ H Q ⟨l, q⟩ => ⟨l, lc_of hws q⟩)
end
end
end FX
end

section
set_option Elab.async false
set_option linter.all false
set_option maxRecDepth 100000
set_option maxHeartbeats 4000000
namespace FX
open PySem PySem.Spec PyProof.Rows L2
/-! ### defs that change their first argument -/
inductive RpM where
  | ok (t : T) (v : Nv) | stuck
def own0 (ρ : FX.Env) : Option T := match ρ[(0 : Nat)]? with
  | some (.own (some 0) t) => some t
  | _ => none
def endM : O → RpM
  | .nx ρ => match own0 ρ with
    | some t => .ok t (.fz .non)
    | none => .stuck
  | .rt v ρ => match own0 ρ with
    | some t => match v with
      | .fz w => .ok t (.fz w)
      | .own w => .ok t (.own w)
      | .bor i => match ρ[i]? with
        | some (.own none w) => .ok t (.own w)
        | some (.fz w) => .ok t (.fz w)
        | _ => .stuck
    | none => .stuck
  | _ => .stuck
def RpO (K : PySem.W.Frag) (mg : Str → Option Value) (F H : Hp) (a : Addr) (r : RpM) (Q : VK) : Prop := match r with
  | .ok t v => ∀ x F' H', Same F F' → (∀ b o, H b = some o → b ≠ a → H' b = some o) → (∀ b, H' b = none → H b = none) → Same F' H' → (∀ b, F' b ≠ none → F b ≠ none ∨ H b = none) → F' a = none → OwnAt K mg F' H' a t →
      (match v with | .fz w => Rep K mg F' x w | .own w => ∃ p, x = .ref p ∧ H p = none ∧ F' p = none ∧ OwnAt K mg F' H' p w) → Q x H'
  | .stuck => False
def spM (K : PySem.W.Frag) (mg : Str → Option Value) (g : T → List T → RpM) : Sp := fun vs H Q _ => ∃ F a t vs' ts, vs = .ref a :: vs' ∧ Same F H ∧ F a = none ∧ OwnAt K mg F H a t ∧ Reps K mg F vs' ts ∧ RpO K mg F H a (g t ts) Q
def startM (N n : Nat) (t : T) (ts : List T) : FX.Env := .own (some 0) t :: (ts.map .fz ++ List.replicate (N - 1 - n) .un)
/-- n: how many more arguments -/
def mkM (n N : Nat) (G : FX.Env → O) : T → List T → RpM := fun t ts => if ts.length = n then endM (G (startM N n t ts)) else .stuck
theorem startM_get {N n : Nat} {t : T} {ts : List T} {i : Nat} {x : Sl} (h : (startM N n t ts)[i]? = some x) : (i = 0 ∧ x = .own (some 0) t) ∨ ∃ j, i = j + 1 ∧ (x = .un ∨ ∃ u, x = .fz u ∧ ts[j]? = some u) := by
  cases i with
  | zero => cases h; exact .inl ⟨rfl, rfl⟩
  | succ j =>
    refine .inr ⟨j, rfl, ?_⟩
    have h : (startP (N - 1) n ts)[j]? = some x := h
    exact startP_get h
theorem own0_some {ρ : FX.Env} {t : T} (h : own0 ρ = some t) : ρ[(0 : Nat)]? = some (.own (some 0) t) := by
  unfold own0 at h
  split at h
  · cases h; assumption
  · cases h
theorem endM_post {X : Cx} {au : Au} {a : Addr} {ρ : FX.Env} {σ : L2.St} {F H : Hp} {o : O} {Q : VK} {W : WX} (hn : ∀ b, OwnA ρ σ b → b = a) (ha : F a = none) (hH : H a ≠ none) (e0 : au.as 0 = a) (ht : au.tb = []) (hnew : ∀ b, au.new b → H b = none) (h : RpO X.K X.mg F H a (endM o) Q) :
    PostS X au W ρ σ F H o { nx := fun _ H' => Q .non H', rt := Q } := by
  have ext : ∀ {ρ' : FX.Env} {σ' : L2.St} {F' H' : Hp} {t : T}, SRel X.K X.mg au ρ' σ' F' H' → Xtn au ρ σ F H ρ' σ' F' H' → own0 ρ' = some t → (∀ b o, H b = some o → b ≠ a → H' b = some o) ∧ (∀ b, F' b ≠ none → F b ≠ none ∨ H b = none) ∧ F' a = none ∧ OwnAt X.K X.mg F' H' a t := by
    intro ρ' σ' F' H' t S x e
    obtain ⟨a', ea, na, oa, da⟩ := S.ow (own0_some e)
    have : a' = a := by have da : a' = au.as 0 := da; rw [da, e0]
    subst this
    refine ⟨fun b o q ne => x.hh b o q (fun z => absurd ht z) fun z => ne (hn b z), fun b q => ?_, na, oa⟩
    rcases x.fn b q with z | z | z
    · exact .inl z
    · exact .inr z
    · rw [hn b z] at q; exact absurd na q
  cases o with
  | stuck => exact h
  | bk ρ' => exact h.elim
  | ct ρ' => exact h.elim
  | er e ρ' => exact h.elim
  | nx ρ' =>
    simp only [endM] at h
    split at h
    · rename_i t e
      intro σ' F' H' S' X'
      obtain ⟨h1, h2, h3, h4⟩ := ext S' X' e
      exact h .non F' H' X'.ff h1 X'.nn S'.sub h2 h3 h4 .non
    · exact h.elim
  | rt v ρ' =>
    simp only [endM] at h
    split at h
    · rename_i t e
      intro x σ' F' H' S' X' V'
      obtain ⟨h1, h2, h3, h4⟩ := ext S' X' e
      cases v with
      | fz w => exact h x F' H' X'.ff h1 X'.nn S'.sub h2 h3 h4 V'
      | own w =>
        obtain ⟨p, e, n, ow, n0, no⟩ := V'
        subst e
        exact h (.ref p) F' H' X'.ff h1 X'.nn S'.sub h2 h3 h4 ⟨p, rfl, n0, n, ow⟩
      | bor i =>
        obtain ⟨k, w, e1, e2⟩ := V'
        simp only [e1] at h
        obtain ⟨b, eb, nb, ob, db⟩ := S'.ow e1
        rw [e2] at eb; cases eb
        cases k with
        | some j => exact h.elim
        | none => exact h (.ref b) F' H' X'.ff h1 X'.nn S'.sub h2 h3 h4 ⟨b, rfl, hnew b db, nb, ob⟩
    · exact h.elim
section
variable {P : Program} {w : World} {K : PySem.W.Frag} {mg : Str → Option Value} {base : Heap}
theorem fnM {x qual : Str} {st : Stmt} {f : Addr} {fd : FuncData} {N ps : List Str} {k n : Nat} {G : FX.Env → O} (Fn : Fun K x qual st f fd) (S : FnScope N ps (defScope st)) (hps : ps.length = n + 1)
    (hb : ∀ (cdv : Value) (A : Around) (outer : List PySem.Env) (s : Shared) (H : Hp) (E : XK) (au : Au), au.tb = [] → Room k (A.deeper (envOfC qual (defScope st) s.heap.objs.size f cdv)) →
      RSs (cxOf (L2.CX P w) P w K mg base N qual (defScope st) f cdv A outer s H E) au (fun cls d _ H => E cls d H) (defBody st) G) : FnOk P w K mg base (L2.CX P w) (k + 1) f fd ps (spM K mg (mkM n N.length G)) := by
  have hlen : ∀ {t : T} {ts : List T} {F H : Hp} {a : Addr} {Q : VK}, RpO K mg F H a (mkM n N.length G t ts) Q → ts.length = n ∧ RpO K mg F H a (endM (G (startM N.length n t ts))) Q := fun {t ts F H a Q} h => by
    unfold mkM at h
    split at h
    · rename_i e; exact ⟨e, h⟩
    · exact h.elim
  refine Fn.okX S (fun vs H Q E ⟨F, a, t, vs', ts, e, s0, na, ow, r, h⟩ => by rw [e, List.length_cons, r.length, (hlen h).1, hps]) fun cdv A outer s H vs Q E hr ⟨F, a, t, vs', ts, e, s0, na, ow, r, h⟩ => ?_
  obtain ⟨hl, h⟩ := hlen h
  subst e
  obtain ⟨o, ho, nt, _⟩ := ow.there
  have hst : L2.start N (.ref a :: vs') = some (.ref a) :: (vs'.map some ++ List.replicate (N.length - 1 - n) none) := by
    unfold L2.start
    rw [List.map_cons, List.cons_append, List.length_cons, r.length, hl, Nat.sub_sub, Nat.add_comm 1 n]
  have get : ∀ {i : Nat} {v : Option V}, (L2.start N (.ref a :: vs'))[i + 1]? = some v → True := fun _ => trivial
  refine ⟨_, (hb cdv A outer s H E ⟨fun _ => a, fun b => H b = none, []⟩ rfl hr).pss, F, startM N.length n t ts, ⟨s0, fun _ h => h, (fun p hp => by cases hp), ?_, fun {i u} hi => ?_, fun {i k u} hi => ?_, fun {i j k k' u u' b} h1 h2 e1 e2 => ?_, fun h => absurd rfl h⟩, ?_⟩
  · rw [hst]; simp [startM, r.length]
  · rcases startM_get hi with ⟨_, z⟩ | ⟨j, ej, z | ⟨u', z, hj⟩⟩
    · cases z
    · cases z
    · cases z
      subst ej
      obtain ⟨v, hv, rv⟩ := r.get hj
      have hj' : j < vs'.length := (List.getElem?_eq_some_iff.mp hv).1
      refine ⟨v, ?_, rv⟩
      rw [hst, List.getElem?_cons_succ, List.getElem?_append_left (by simpa using hj'), List.getElem?_map, hv]
      rfl
  · rcases startM_get hi with ⟨ei, z⟩ | ⟨j, ej, z | ⟨u', z, hj⟩⟩
    · cases z
      subst ei
      exact ⟨a, by rw [hst]; rfl, na, ow, rfl⟩
    · cases z
    · cases z
  · have z0 : ∀ {i : Nat} {k : Option Nat} {u : T}, (startM N.length n t ts)[i]? = some (.own k u) → i = 0 := fun {i k u} h => by
      rcases startM_get h with ⟨ei, z⟩ | ⟨j, ej, z | ⟨u', z, hj⟩⟩
      · exact ei
      · cases z
      · cases z
    rw [z0 h1, z0 h2]
  · refine endM_post (a := a) (fun b ⟨i, k, u, h1, h2⟩ => ?_) na (by rw [ho]; simp) rfl rfl (fun b h => h) h
    rcases startM_get h1 with ⟨ei, z⟩ | ⟨j, ej, z | ⟨u', z, hj⟩⟩
    · subst ei
      rw [hst] at h2
      cases h2
      rfl
    · cases z
    · cases z
end
section
variable {X : Cx} {au : Au} {W : WX}
theorem tabs_but {T : List (Addr × Str)} {H H' : Hp} {a : Addr} {o : HO} (t : LamX.Tabs T H) (ha : H a = some o) (n1 : ∀ ps, o ≠ .tbl ps) (n2 : ∀ φ, o ≠ .ext φ) (k : ∀ b o, H b = some o → b ≠ a → H' b = some o) : LamX.Tabs T H' := fun p hp => by
  obtain ⟨ps, h1, h2, h3⟩ := t p hp
  refine ⟨ps, k _ _ h1 fun e => n1 ps (by rw [e, ha] at h1; exact Option.some.inj h1), h2, fun pos cv hc => ?_⟩
  obtain ⟨c, e1, e2⟩ := h3 pos cv hc
  exact ⟨c, e1, k _ _ e2 fun e => by rw [e, ha] at e2; exact n2 _ (Option.some.inj e2)⟩
theorem OwnAt.kind {K : PySem.W.Frag} {mg : Str → Option Value} {F H : Hp} {a : Addr} {t : T} (h : OwnAt K mg F H a t) : ∃ o, H a = some o ∧ (∀ ps, o ≠ .tbl ps) ∧ ∀ φ, o ≠ .ext φ := by
  cases h with
  | lst h r => exact ⟨_, h, (fun ps z => by cases z), fun φ z => by cases z⟩
  | dK h r => exact ⟨_, h, (fun ps z => by cases z), fun φ z => by cases z⟩
  | dT h r => exact ⟨_, h, (fun ps z => by cases z), fun φ z => by cases z⟩
  | ins hc h r => exact ⟨_, h, (fun ps z => by cases z), fun φ z => by cases z⟩
/-- a slot's object behind a call that has changed it -/
theorem SRel.called {K : PySem.W.Frag} {mg : Str → Option Value} {ρ : FX.Env} {σ : L2.St} {F H F' H' : Hp} {i : Nat} {k : Option Nat} {t t' : T} {a : Addr} (S : SRel K mg au ρ σ F H) (h : ρ[i]? = some (.own k t)) (e : σ[i]? = some (some (.ref a)))
    (s1 : Same F F') (kp : ∀ b o, H b = some o → b ≠ a → H' b = some o) (nn : ∀ b, H' b = none → H b = none) (s3 : Same F' H') (nw : ∀ b, F' b ≠ none → F b ≠ none ∨ H b = none) (fa : F' a = none) (ow : OwnAt K mg F' H' a t') (nt : au.tb ≠ [] → ∀ b ps, F' b ≠ some (.tbl ps)) :
    SRel K mg au (ρ.set i (.own k t')) σ F' H' ∧ Xtn au ρ σ F H (ρ.set i (.own k t')) σ F' H' := by
  obtain ⟨a', ea, na, oa, da⟩ := S.ow h
  rw [e] at ea; cases ea
  obtain ⟨o, ho, n1, n2⟩ := oa.kind
  have own : ∀ {j : Nat} {k' : Option Nat} {t2 : T} {b : Addr}, (ρ.set i (.own k t'))[j]? = some (.own k' t2) → σ[j]? = some (some (.ref b)) → ∃ t3, ρ[j]? = some (.own k' t3) := by
    intro j k' t2 b h1 h2
    rcases set_get h1 with ⟨z, z2⟩ | ⟨ne, h1⟩
    · cases z2; exact ⟨t, by rw [z]; exact h⟩
    · exact ⟨t2, h1⟩
  refine ⟨⟨s3, fun b hb => S.nw b (nn b hb), tabs_but S.tabs ho n1 n2 kp, by rw [List.length_set]; exact S.len, fun {j t2} hj => ?_, fun {j k2 t2} hj => ?_, fun h1 h2 e1 e2 => ?_, nt⟩, ⟨s1, fun b u q _ nb => ?_, nn, fun b hb => (nw b hb).elim .inl fun z => .inr (.inl z), fun b ⟨j, k2, t2, h1, h2⟩ => ?_⟩⟩
  · rcases set_get hj with ⟨_, z⟩ | ⟨_, hj⟩
    · cases z
    · obtain ⟨v, q, r⟩ := S.fz hj; exact ⟨v, q, r.mono s1⟩
  · rcases set_get hj with ⟨q, z⟩ | ⟨ne, hj⟩
    · cases z; exact ⟨a, by rw [q]; exact e, fa, ow, da⟩
    · obtain ⟨b, eb, nb, ob, db⟩ := S.ow hj
      have hne : b ≠ a := fun z => ne (S.ds hj h (by rw [eb, z]) e)
      refine ⟨b, eb, ?_, ob.mono s1 (fun u q _ => kp b u q hne), db⟩
      obtain ⟨o', ho', _⟩ := ob.there
      cases q : F' b with
      | none => rfl
      | some u =>
        rcases nw b (by rw [q]; simp) with z | z
        · exact absurd nb z
        · rw [ho'] at z; cases z
  · obtain ⟨_, g1⟩ := own h1 e1
    obtain ⟨_, g2⟩ := own h2 e2
    exact S.ds g1 g2 e1 e2
  · exact kp b u q fun z => nb (by rw [z]; exact ⟨_, _, _, h, e⟩)
  · obtain ⟨_, g⟩ := own h1 h2
    exact .inl ⟨_, _, _, g, h2⟩
def fCallM (g : T → List T → RpM) (fa : FX.Env → R (List Vl)) : FX.Env → R Vl := fun ρ => (fa ρ).bind fun vs ρ1 => match vs with
  | .bor i :: us => match escs us ρ1 with
    | some (ts, ρ2) => match ownT ρ2 i with
      | some (k, t) => match g t ts with
        | .ok t' v => R.of (some v) (ρ2.set i (.own k t'))
        | .stuck => .stuck
      | none => .stuck
    | none => .stuck
  | _ => .stuck
theorem re_callM {x : Str} {f : Addr} {fd : FuncData} {ps : List Str} {k : Nat} {g : T → List T → RpM} {e : Expr} {es : List Expr} {fa : FX.Env → R (List Vl)} {p pos : Pos} (F : FnOk X.prog X.w X.K X.mg X.base (L2.CX X.prog X.w) k f fd ps (spM X.K X.mg g)) (tk : Takes X W) (hr : Room k X.A) (hm : X.mg x = some (.ref f)) (hk : PySem.W.keepIn X.K (.ref f) = true)
    (hb : Binds X.K fd ps []) (ha : RA X au W (e :: es) fa) (hg : Gl X x := by rfl) (hdb : (x == ("__debug__" : Str)) = false := by decide) (he : starEach (e :: es) X.env = (false, eval e X.env) :: starEach es X.env := by rfl) (hpl : (backTo pos (starEach es X.env)).any (·.1) = false := by rfl) :
    RE X au W (.Call (.Name x p) (e :: es) [] pos) (fCallM g fa) := by
  refine ⟨PE.imp (pe_callS (E := fun σ cls d H => W cls d σ H) F hr hg hm hk hb (fun σ => passAt tk σ) ha.pa hdb he hpl) fun σ H Q ⟨F, ρ, S, q⟩ => ⟨F, ρ, S, ?_⟩⟩
  refine Post.bind early_VE q fun xs vs ρ1 F1 H1 e1 S1 X1 V1 h1 => ?_
  split at h1
  · rename_i i us
    cases xs with
    | nil => exact V1.elim
    | cons x xs =>
      obtain ⟨hx, V1⟩ := V1
      have hx : σ[i]? = some (some x) := hx
      split at h1
      · rename_i ts ρ2 e2
        obtain ⟨F2, S2, X2, r⟩ := escs_ok S1 V1 e2
        split at h1
        · rename_i kk t e3
          have e4 := ownT_get e3
          obtain ⟨a, ea, na, oa, da⟩ := S2.ow e4
          rw [hx] at ea; cases ea
          split at h1
          · rename_i t' v e5
            refine ⟨F2, a, t, xs, ts, rfl, S2.sub, na, oa, r, ?_⟩
            rw [e5]
            intro y F' H' s1 kp nn s3 nw fa ow hv
            obtain ⟨F3, C⟩ := clean (K := X.K) (mg := X.mg) S2.nt s1 s3 nw
            obtain ⟨S3, X3⟩ := S2.called e4 hx C.s kp nn C.s3 C.nw (C.le.free fa) (C.own ow) C.nt
            have hq := Post.step early_VE h1 X2
            cases v with
            | fz w => exact hq y F3 H' S3 X3 (C.rep hv)
            | own w =>
              obtain ⟨p, ep, n0, fp, op⟩ := hv
              subst ep
              refine hq (.ref p) F3 H' S3 X3 ⟨p, rfl, C.le.free fp, C.own op, n0, fun ⟨j, k2, t2, h1, h2⟩ => ?_⟩
              have : OwnA ρ2 σ p := by
                rcases set_get h1 with ⟨z, z2⟩ | ⟨ne, h1⟩
                · subst z; exact ⟨_, _, _, e4, h2⟩
                · exact ⟨j, k2, t2, h1, h2⟩
              obtain ⟨j', k3, t3, g1, g2⟩ := this
              obtain ⟨b, eb, _, ob, _⟩ := S2.ow g1
              rw [g2] at eb; cases eb
              obtain ⟨o, ho, _⟩ := ob.there
              rw [n0] at ho; cases ho
          · exact h1.elim
        · exact h1.elim
      · exact h1.elim
  · exact h1.elim
end
end FX
end

section
set_option Elab.async false
set_option linter.all false
set_option maxRecDepth 100000
set_option maxHeartbeats 4000000
namespace FX
open PySem PySem.Spec PyProof.Rows L2
/-- a def of the text, found in the module -/
def Fn0 (K : PySem.W.Frag) (mg : Str → Option Value) (x : Str) (st : Stmt) (ps : List Str) : Prop := ∃ (f : Addr) (fd : FuncData), Fun K x x st f fd ∧ mg x = some (.ref f) ∧ PySem.W.keepIn K (.ref f) = true ∧ Binds K fd ps []
/-- a def that keeps its promise -/
def Cal (P : Program) (w : World) (K : PySem.W.Frag) (mg : Str → Option Value) (base : Heap) (x : Str) (ps : List Str) (k : Nat) (sp : Sp) : Prop := ∃ (f : Addr) (fd : FuncData), FnOk P w K mg base (L2.CX P w) k f fd ps sp ∧ mg x = some (.ref f) ∧ PySem.W.keepIn K (.ref f) = true ∧ Binds K fd ps []
section
variable {P : Program} {w : World} {K : PySem.W.Frag} {mg : Str → Option Value} {base : Heap} {x : Str} {st : Stmt} {ps N : List Str} {k n : Nat} {G : FX.Env → O}
theorem cal_p (F : Fn0 K mg x st ps) (S : FnScope N ps (defScope st))
    (hb : ∀ (f : Addr) (cdv : Value) (A : Around) (outer : List PySem.Env) (s : Shared) (H : Hp) (E : XK) (au : Au), au.tb = [] → Room k (A.deeper (envOfC x (defScope st) s.heap.objs.size f cdv)) →
      RSs (cxOf (L2.CX P w) P w K mg base N x (defScope st) f cdv A outer s H E) au (fun cls d _ H => E cls d H) (defBody st) G) : Cal P w K mg base x ps (k + 1) (spP K mg (mkP ps.length N.length G)) := by
  obtain ⟨f, fd, F, m, kp, b⟩ := F
  exact ⟨f, fd, fnP F S (hb f), m, kp, b⟩
theorem cal_m (F : Fn0 K mg x st ps) (S : FnScope N ps (defScope st)) (hps : ps.length = n + 1)
    (hb : ∀ (f : Addr) (cdv : Value) (A : Around) (outer : List PySem.Env) (s : Shared) (H : Hp) (E : XK) (au : Au), au.tb = [] → Room k (A.deeper (envOfC x (defScope st) s.heap.objs.size f cdv)) →
      RSs (cxOf (L2.CX P w) P w K mg base N x (defScope st) f cdv A outer s H E) au (fun cls d _ H => E cls d H) (defBody st) G) : Cal P w K mg base x ps (k + 1) (spM K mg (mkM n N.length G)) := by
  obtain ⟨f, fd, F, m, kp, b⟩ := F
  exact ⟨f, fd, fnM F S hps (hb f), m, kp, b⟩
/-- nothing is promised -/
theorem cal_no (F : Fn0 K mg x st ps) (S : FnScope N ps (defScope st)) : Cal P w K mg base x ps 1 (spP K mg fun _ => .stuck) := by
  obtain ⟨f, fd, F, m, kp, b⟩ := F
  refine ⟨f, fd, F.okX S (fun vs H Q E ⟨_, _, _, _, h⟩ => h.elim) (fun cdv A outer s H vs Q E hr ⟨_, _, _, _, h⟩ => h.elim), m, kp, b⟩
end
section
variable {X : Cx} {au : Au} {W : WX}
theorem re_callC {x : Str} {ps : List Str} {k : Nat} {g : List T → Rp} {e : Expr} {es : List Expr} {fa : FX.Env → R (List Vl)} {p pos : Pos} (C : Cal X.prog X.w X.K X.mg X.base x ps k (spP X.K X.mg g)) (tk : Takes X W) (hr : Room k X.A)
    (ha : RA X au W (e :: es) fa) (hg : Gl X x := by rfl) (hdb : (x == ("__debug__" : Str)) = false := by decide) (he : starEach (e :: es) X.env = (false, eval e X.env) :: starEach es X.env := by rfl) (hpl : (backTo pos (starEach es X.env)).any (·.1) = false := by rfl) :
    RE X au W (.Call (.Name x p) (e :: es) [] pos) (fCall g fa) := by
  obtain ⟨f, fd, F, m, kp, b⟩ := C
  exact re_call F tk hr m kp b ha hg hdb he hpl
theorem re_callMC {x : Str} {ps : List Str} {k : Nat} {g : T → List T → RpM} {e : Expr} {es : List Expr} {fa : FX.Env → R (List Vl)} {p pos : Pos} (C : Cal X.prog X.w X.K X.mg X.base x ps k (spM X.K X.mg g)) (tk : Takes X W) (hr : Room k X.A)
    (ha : RA X au W (e :: es) fa) (hg : Gl X x := by rfl) (hdb : (x == ("__debug__" : Str)) = false := by decide) (he : starEach (e :: es) X.env = (false, eval e X.env) :: starEach es X.env := by rfl) (hpl : (backTo pos (starEach es X.env)).any (·.1) = false := by rfl) :
    RE X au W (.Call (.Name x p) (e :: es) [] pos) (fCallM g fa) := by
  obtain ⟨f, fd, F, m, kp, b⟩ := C
  exact re_callM F tk hr m kp b ha hg hdb he hpl
/-- an own exception's class, its __init__ -/
def Exc1 (P : Program) (w : World) (K : PySem.W.Frag) (mg : Str → Option Value) (base : Heap) (c : Str) : Prop := ∃ (C fI : Addr) (fd : FuncData), ExcC K C fI ∧ FnOk P w K mg base (L2.CX P w) 1 fI fd ["self", "value"] (spXI K) ∧ Binds K fd ["self", "value"] [] ∧ mg c = some (.ref C)
theorem rs_raiseC {c : Str} {e : Expr} {fa : FX.Env → R (List Vl)} {p p2 pos : Pos} (T : Exc1 X.prog X.w X.K X.mg X.base c) (tk : Takes X W) (hr : Room 2 X.A) (ha : RA X au W [e] fa) (hg : Gl X c := by rfl) (hc : X.calm = true := by rfl) (hdb : (c == ("__debug__" : Str)) = false := by decide)
    (he : starEach [e] X.env = (false, eval e X.env) :: starEach [] X.env := by rfl) (hpl : (backTo p2 (starEach [] X.env)).any (·.1) = false := by rfl) : RS X au W (.Raise (some (.Call (.Name c p) [e] [] p2)) none pos) (gRaise c fa) := by
  obtain ⟨C, fI, fd, a, F, b, m⟩ := T
  exact rs_raise a F tk hr b m ha hg hc hdb he hpl
end
/-! #### what the generator's lines lean on -/
section
variable {X : Cx} {k : Nat}
theorem units_of (hr : Room k X.A) : X.A.units + 64 < cLine := hr.units
end
end FX
end

section
set_option Elab.async false
set_option linter.all false
set_option maxRecDepth 100000
set_option maxHeartbeats 4000000
namespace FX
open PySem PySem.Spec PyProof.Rows L2 LamX
/-! ### a lambda without parameters, handed to a def that asks it (after LamX.lam_make2, LamX.pe_lamcall: here what stays is told closer) -/
section
variable {X : Cx} {pins : List (Addr × Obj)} {σ : L2.St} {H : Hp} {s : Shared}
/-- all but the table at P is kept, nothing is lost -/
structure Kpt (P : Addr) (H H1 : Hp) : Prop where
  k : ∀ b o, b ≠ P → H b = some o → H1 b = some o
  n : ∀ b, H1 b = none → H b = none
theorem lam_made {T : List (Addr × Str)} {c P : Addr} {params : Arguments} {body : Expr} {scope : Scope} {pos : Pos} {E : Value → Shared → Prop} {Q : Value → Shared → Prop} (I : Inv X pins σ H s) (TB : TabB X.base X.mg c P) (hcode : X.env.code = .ref c)
    (hm : (P, X.env.qual ++ "<lambda>") ∈ T) (hu : ∀ p ∈ T, p.1 = P → p.2 = X.env.qual ++ "<lambda>") (hT : Tabs T H) (hdef : defaultsOf params X.env = ([], [])) (hfree : ∀ y ∈ scope.names, y.2 = .free → ∃ c, X.env.cells.lookup y.1 = some c)
    (h : ∀ (f c' : Addr) (pm ctv : Value) (H1 : Hp) (s' : Shared), Inv X pins σ H1 s' → Kpt P H H1 → Tabs T H1 → s'.heap.get? f = some (PySem.W.kla_obj "<lambda>" (X.env.qual ++ "<lambda>") params body scope (cloFrom X.env.cells scope.names []) pm c' ctv) →
      H1 f = none → f ∉ frs X.stack → H1 c' = some (CodeO c' (X.env.qual ++ "<lambda>")) → Q (.ref f) s') : wpAny (model X.prog X.w) X.A (eval (.Lambda params body scope pos) X.env) Q E s := by
  obtain ⟨ps, tP, tk3, all⟩ := hT _ hm
  have stP : s.heap.get? P = some { cls := .none, data := .fields ps } := I.hok P _ tP
  have far : ∀ f, s.heap.objs.size ≤ f → f ∉ frs X.stack := fun f hf z => (List.mem_cons.mp (I.stkSub _ z)).elim (fun e => by
    have := I.lt
    rw [← e] at this
    exact absurd (Nat.lt_of_lt_of_le this hf) (Nat.lt_irrefl _)) fun e => I.nofs hf e
  refine PySem.W.kla_eval hdef ?_
  cases among : codeAmong pos ps.toList with
  | some cv =>
    obtain ⟨c', rfl, known⟩ := all pos cv among
    refine PySem.W.kla_makeFunctionHit (mg := X.mg) (c := c) (P := P) (ps := ps) (closure_ok hfree) I.ok.glob (I.mod.glob.keeps I.bk) hcode (TB.code.keeps I.bk) stP tk3 among (TB.bm.keeps I.bk) fun ctv h' tk grow size => ?_
    exact h _ c' ((X.mg "__name__").getD .none) ctv H _ (I.kept fun b o e => Heap.get?_push_of_some _ (grow b o e)) ⟨fun _ _ _ e => e, fun _ e => e⟩ hT (Heap.get?_push_size _ rfl) (I.hok.fresh size) (far _ size) known
  | none =>
    refine PySem.W.kla_makeFunction (mg := X.mg) (c := c) (P := P) (ps := ps) (closure_ok hfree) I.ok.glob (I.mod.glob.keeps I.bk) hcode (TB.code.keeps I.bk) stP tk3 among TB.gP (TB.bm.keeps I.bk) fun c' ctv h' tk grow new less record table => ?_
    obtain ⟨_, oc, vs, t, e2, hoc, hd, hv⟩ := record
    cases e2
    have size : s.heap.objs.size ≤ h'.objs.size := Nat.le_trans new (Nat.le_of_lt less)
    have noC : H c' = none := I.hok.fresh new
    have cP : P ≠ c' := ne_of_none tP noC
    have J := inv_table (t' := tk) (more := #[rawInt pos.line, rawInt pos.col, .ref c']) (h' := h'.push (PySem.W.kla_obj "<lambda>" (X.env.qual ++ "<lambda>") params body scope (cloFrom X.env.cells scope.names []) ((X.mg "__name__").getD .none) c' ctv)) I tP
      (fun b o hb e => Heap.get?_push_of_some _ (grow b o hb e)) (Heap.get?_push_of_some _ table) new ⟨oc, vs, t, Heap.get?_push_of_some _ hoc, hd, hv⟩
    have kept : Kpt P H (upd (upd H P (.tbl (ps ++ #[rawInt pos.line, rawInt pos.col, .ref c']))) c' (CodeO c' (X.env.qual ++ "<lambda>"))) :=
      ⟨fun b o hb e => by rw [upd_ne (ne_of_none e noC), upd_ne hb]; exact e, fun b e => by
        by_cases z : b = c'
        · rw [z]; exact noC
        · rw [upd_ne z] at e
          by_cases z2 : b = P
          · rw [z2, upd_same] at e; cases e
          · rw [upd_ne z2] at e; exact e⟩
    have split : (ps ++ #[rawInt pos.line, rawInt pos.col, .ref c']).toList = ps.toList ++ [rawInt pos.line, rawInt pos.col, .ref c'] := by simp
    refine h h'.objs.size c' ((X.mg "__name__").getD .none) ctv _ _ J kept (fun p hp => ?_) (Heap.get?_push_size _ rfl) ?_ (far _ size) upd_same
    · by_cases hb : p.1 = P
      · rw [hu p hp hb, hb]
        refine ⟨_, by rw [upd_ne cP, upd_same], by rw [split]; exact PySem.TriplesOk_snoc _ _ _ _ tk3, fun p' cv found => ?_⟩
        rw [split] at found
        rcases among_app _ tk3 found with z | z
        · obtain ⟨c0, e1, e2⟩ := all p' cv z
          exact ⟨c0, e1, kept.k _ _ (fun w => by rw [w, tP] at e2; exact codeO_ne ps (Option.some.inj e2).symm) e2⟩
        · exact ⟨c', z, upd_same⟩
      · obtain ⟨ps', a1, a2, a3⟩ := hT p hp
        refine ⟨ps', kept.k _ _ hb a1, a2, fun p' cv found => ?_⟩
        obtain ⟨c0, e1, e2⟩ := a3 p' cv found
        exact ⟨c0, e1, kept.k _ _ (fun w => by rw [w, tP] at e2; exact codeO_ne ps (Option.some.inj e2).symm) e2⟩
    · have n1 : h'.objs.size ≠ c' := Nat.ne_of_gt less
      have n2 : h'.objs.size ≠ P := fun w => by
        have := Heap.lt_size stP
        rw [← w] at this
        exact absurd (Nat.lt_of_lt_of_le this size) (Nat.lt_irrefl _)
      rw [upd_ne n1, upd_ne n2]
      exact I.hok.fresh size
end
def tLamK (T : List (Addr × Str)) (P : Addr) (TT : (XK → Hp → VK → Prop) → Hp → VK → Prop) (t : XK → TE) : TE := fun σ H Q => Tabs T H ∧ ∀ H1, Kpt P H H1 → Tabs T H1 → TT (fun E H' Q' => t E σ H' Q') H1 Q
section
variable {X : Cx}
/-- x(lambda: body) -/
theorem pe_lamK {T : List (Addr × Str)} {TT : (XK → Hp → VK → Prop) → Hp → VK → Prop} {x a : Str} {g c P : Addr} {k : Nat} {pg : Arguments} {bg : List Stmt} {sg : Scope} {dV kV doc pm cdv ct oc : Value} {an od : Option Addr} {osl : Array (Option Value)} {Ng : List Str}
    {params : Arguments} {body : Expr} {scope : Scope} {t : XK → TE} {p lpos pos : Pos} (hg : Gl X x) (hm : X.mg x = some (.ref g)) (hk : PySem.W.keepIn X.K (.ref g) = true)
    (lk : X.K.lookup g = some ⟨oc, od, .func (PySem.W.fnOf x x pg bg sg dV kV doc pm an cdv ct), osl⟩) (hcg : PySem.W.codeIn X.K cdv x = true) (hb : L2.Binds X.K (PySem.W.fnOf x x pg bg sg dV kV doc pm an cdv ct) [a] []) (Sg : FnScope Ng [a] sg) (hNg : Ng[0]? = some a) (hva : Vis sg a)
    (hG : GivesTo X Ng x sg g cdv bg a (X.env.qual ++ "<lambda>") TT) (TB : TabB X.base X.mg c P) (hcode : X.env.code = .ref c) (hmT : (P, X.env.qual ++ "<lambda>") ∈ T) (hu : ∀ p ∈ T, p.1 = P → p.2 = X.env.qual ++ "<lambda>") (hr : Room (k + 2) X.A) (L : LamS X.env.scope scope) (hdef : defaultsOf params X.env = ([], []))
    (hbind : ∀ (q : Str) (cl : List (Str × Addr)) (pm cv ctv : Value), bindArgs (PySem.W.kla_fn "<lambda>" q params body scope cl pm cv ctv) ⟨[], []⟩ = pure [])
    (hbody : ∀ (A : Around) (outer : List PySem.Env) (s : Shared) (H : Hp) (E : XK) (f c' : Addr), Room k (A.deeper (lamEnv X scope s.heap.objs.size f c')) → PE (lamCx X A outer s H E scope f c') body (t E))
    (hdb : (x == ("__debug__" : Str)) = false) (hd : (a == ("__debug__" : Str)) = false) (hcd : (a == ("__classdict__" : Str)) = false) : PE X (.Call (.Name x p) [.Lambda params body scope lpos] [] pos) (tLamK T P TT t) := by
  constructor
  rintro pins s σ H Q I ⟨hT, h⟩
  refine wpAny_Call_Name_kw (ld_glob I hg hm (PySem.W.callWith_K (h₀ := X.base) I.ok.mod.kin hk ?_ (by rfl) (by rfl)) hdb)
  show wpAny _ _ (spliced ((false, eval (.Lambda params body scope lpos) X.env) :: backTo pos (starEach [] X.env))) _ _ s
  refine Calls.spliced_cons (lam_made I TB hcode hmT hu hT hdef (L.has I.ok) fun f c' pm' ctv H1 s' J kept T1 hf hfn hfr hco => Calls.spliced_nil ⟨J.kIn, ?_⟩)
  have run : codeAny (model X.prog X.w) X.A (.call (.ref g) ⟨[.ref f], []⟩) (CR C8.CX0 X.stack X.prog X.w H1 s' Q C8.E0) s' := by
    refine run_ofS (N := Ng) (ps := [a]) (us := [.ref f]) (vs := [.ref f]) lk hcg Sg hr J.env0 (hb s' [.ref f] J.kIn rfl) (.cons rfl .nil) rfl fun hr' => ?_
    have act := hG f c' s' H1 Q (fun E H' Q' => t E σ H' Q') (fun W pn xe E p1 p2 tk hW => pe_act (i := 0) J L hf hfn hfr (hbind _ _ _ _ _) tk hW hr' (fun A outer s H hr2 => hbody A outer s H E f c' hr2) hNg hva hd hcd) hco (h H1 kept T1)
    exact act.elim fun t' z => ⟨t', z.1.nox, z.2⟩
  refine wpAny_call (codeAny_mono run fun r s2 hq => ?_)
  match r, hq with
  | .error _, hq => exact (show False from hq).elim
  | .ok (.ret u), hq => exact J.after hq
  | .ok .next, hq => exact False.elim hq
  | .ok .brk, hq => exact False.elim hq
  | .ok .cont, hq => exact False.elim hq
/-- told: try: a() / except C as e: return (word, e.value); return (none's word, None) -/
def TRef (C : Addr) (w0 w1 : Str) : (XK → Hp → VK → Prop) → Hp → VK → Prop := fun tl H Q =>
  tl (fun cls d H' => cls = .ref C ∧ ∃ (dd : Addr) (fs : List (Str × V)) (v : V), d = some dd ∧ H' dd = some (.xd fs) ∧ fs.lookup ("value" : Str) = some v ∧ ∀ p, H' p = none → Q (.ref p) (upd H' p (.tup [.str w1, v]))) H fun _ H' => ([V.str w0, V.non] : List V).length ≤ sizeLine ∧ ∀ p, H' p = none → Q (.ref p) (upd H' p (.tup [.str w0, .non]))
theorem ref_gives {x a cn n w0 w1 q : Str} {sg : Scope} {g C : Addr} {cdg : Value} {j j' j2 j3 k1 k2 : Nat} {p1 p2 p3 p4 p5 p6 p7 p8 p9 p10 p11 p12 p13 p14 p15 p16 : Pos} (hN : ([a, n] : List Str).Nodup) (hge : sg.names.lookup cn = some .globalImplicit) (hme : X.mg cn = some (.ref C)) (hde : (cn == ("__debug__" : Str)) = false)
    (hln : sg.names.lookup n = some .local) (hdn : (n == ("__debug__" : Str)) = false) (hcn : (n == ("__classdict__" : Str)) = false) (XF : XfC X.K C) (hno : PySem.W.findIn X.K (.ref C) "value" = some none) (hex : PySem.W.exmOne X.K (.ref C) (.ref C) = some true) :
    GivesTo X [a, n] x sg g cdg [.Try [.Expr (.Call (.Name a p1) [] [] p2) p3] [.ExceptHandler (some (.Name cn p4)) (some n) [.Return (some (.Tuple [.Constant (.str w1) j p5, .Attribute (.Name n p6) "value" p7] k1 p8)) p9] p10] [] [] p11,
      .Return (some (.Tuple [.Constant (.str w0) j2 p12, .Constant .none j3 p13] k2 p14)) p15] a q (TRef C w0 w1) := by
  intro f c' s H Q tl act hc h
  have gl : Gl (cxOf C8.CX0 X.prog X.w X.K X.mg X.base [a, n] x sg g cdg X.A X.stack s H C8.E0).nox cn := hge
  refine ⟨_, pss_cons (ps_try_as (i := 1) (X := (cxOf C8.CX0 X.prog X.w X.K X.mg X.base [a, n] x sg g cdg X.A X.stack s H C8.E0).nox) (c := .ref C)
      (tb := fun W D σ H => ∃ Ech : XK, (∀ cls d σ' H', σ'.length = 2 → Ech cls d H' → W cls d σ' H') ∧ σ[0]? = some (some (.ref f)) ∧ H c' = some (CodeO c' q) ∧ tl Ech H (fun _ H' => D.nx σ H'))
      rfl rfl hN rfl hln ⟨gl, hde, .inl hme⟩ LamX.takes0 (fun W pn xe tk _ => ?_) (fun a' oe cls d pn hz hf => pss_one (ps_ret (pe_tup (pa_cons pe_str (pa_cons (pe_xf XF hno hz hf (pe_var (i := 1) rfl (.inl hln) hdn hcn)) pa_nil))))))
    (pss_one (ps_ret (pe_tup (pa_cons pe_str (pa_cons pe_non pa_nil))))), ?_⟩
  · refine ⟨fun pins s' σ H' D I h' => ?_⟩
    obtain ⟨Ech, hW, h1, h2, h3⟩ := h'
    have tk2 : Takes ((cxOf C8.CX0 X.prog X.w X.K X.mg X.base [a, n] x sg g cdg X.A X.stack s H C8.E0).tr pn xe) fun cls d σ' H' => σ'.length = 2 → W cls d σ' H' := fun u s'' ⟨b1, b2, b3, b4, b5, b6, b7, b8, b9, J, b10, b11, b12, b13, b14, b15, w⟩ =>
      tk u s'' ⟨b1, b2, b3, b4, b5, b6, b7, b8, b9, J, b10, b11, b12, b13, b14, b15, w J.len⟩
    exact (pss_one (ps_expr (pos := p3) (act _ pn xe Ech p1 p2 tk2 fun cls d σ' H' e l => hW cls d σ' H' l e))).run pins s' σ H' D I ⟨h1, h2, h3⟩
  · refine ⟨_, fun cls d σ' H' hl2 hE => ?_, rfl, hc, h⟩
    obtain ⟨ec, dd, fs, v, ed, hd, hl, k⟩ := hE
    subst ec
    refine ⟨true, hex, fun _ a' _ => ?_, fun z => by cases z⟩
    refine ⟨.ref a', by rw [List.getElem?_set_self (by omega)], rfl, rfl, dd, fs, v, ed, hd, hl, ?_⟩
    exact ⟨by show 2 ≤ sizeLine; decide, fun p hp => k p hp⟩
end
/-! ### in the functional layer -/
def fRef (cn w0 w1 : Str) (fb : FX.Env → R Vl) : FX.Env → R Vl := fun ρ => match fb ρ with
  | .ok _ ρ1 => .ok (.fz (.tup [.str w0, .non])) ρ1
  | .err e ρ1 => match e.fs with
    | [(f, t)] => if e.cls = cn ∧ f = ("value" : Str) then .ok (.fz (.tup [.str w1, t])) ρ1 else .stuck
    | _ => .stuck
  | .stuck => .stuck
/-- the def that asks, found in the module; the exception's class that it catches -/
def RefD (K : PySem.W.Frag) (mg : Str → Option Value) (x : Str) (st : Stmt) (a cn : Str) : Prop :=
  ∃ (g C : Addr) (dV kV doc pm cdv ct oc : Value) (an od : Option Addr) (osl : Array (Option Value)), mg x = some (.ref g) ∧ PySem.W.keepIn K (.ref g) = true ∧ K.lookup g = some ⟨oc, od, .func (PySem.W.fnOf x x (defArgs st) (defBody st) (defScope st) dV kV doc pm an cdv ct), osl⟩ ∧ PySem.W.codeIn K cdv x = true ∧
    L2.Binds K (PySem.W.fnOf x x (defArgs st) (defBody st) (defScope st) dV kV doc pm an cdv ct) [a] [] ∧ mg cn = some (.ref C) ∧ XfC K C ∧ PySem.W.findIn K (.ref C) "value" = some none ∧ PySem.W.exmOne K (.ref C) (.ref C) = some true
section
variable {X : Cx} {au : Au} {W : WX}
theorem SRel.kpt {K : PySem.W.Frag} {mg : Str → Option Value} {ρ : FX.Env} {σ : L2.St} {F H H1 : Hp} {P : Addr} {ps : Array Value} (S : SRel K mg au ρ σ F H) (k : Kpt P H H1) (hP : H P = some (.tbl ps)) (ht : au.tb ≠ []) (t : Tabs au.tb H1) : SRel K mg au ρ σ F H1 ∧ Xtn au ρ σ F H ρ σ F H1 := by
  have np : ∀ b o, H b = some o → (∀ ps, o ≠ .tbl ps) → H1 b = some o := fun b o h n => k.k b o (fun z => by rw [z, hP] at h; exact n ps (Option.some.inj h).symm) h
  refine ⟨⟨fun b o h => np b o (S.sub _ _ h) fun ps z => S.nt ht b ps (by rw [h, z]), fun b h => S.nw b (k.n b h), t, S.len, S.fz, fun h => ?_, S.ds, S.nt⟩, ⟨.refl _, fun b o h n _ => np b o h (n ht), k.n, fun b h => .inl h, fun b h => .inl h⟩⟩
  obtain ⟨a, e, n, o, i⟩ := S.ow h
  exact ⟨a, e, n, o.mono (.refl _) (fun u hu nu => np a u hu nu), i⟩
theorem re_ref {x a n cn w0 w1 : Str} {st : Stmt} {c P : Addr} {k j j2 j3 k1 k2 : Nat} {params : Arguments} {body : Expr} {scope : Scope} {fb : FX.Env → R Vl} {p lpos pos p1 p2 p3 p4 p5 p6 p7 p8 p9 p10 p11 p12 p13 p14 p15 : Pos} (D : RefD X.K X.mg x st a cn) (Sg : FnScope [a, n] [a] (defScope st))
    (hb : defBody st = [.Try [.Expr (.Call (.Name a p1) [] [] p2) p3] [.ExceptHandler (some (.Name cn p4)) (some n) [.Return (some (.Tuple [.Constant (.str w1) j p5, .Attribute (.Name n p6) "value" p7] k1 p8)) p9] p10] [] [] p11,
      .Return (some (.Tuple [.Constant (.str w0) j2 p12, .Constant .none j3 p13] k2 p14)) p15])
    (hge : (defScope st).names.lookup cn = some .globalImplicit) (hln : (defScope st).names.lookup n = some .local) (hla : (defScope st).names.lookup a = some .local) (TB : TabB X.base X.mg c P) (hcode : X.env.code = .ref c) (hmT : (P, X.env.qual ++ "<lambda>") ∈ au.tb) (hu : ∀ p ∈ au.tb, p.1 = P → p.2 = X.env.qual ++ "<lambda>")
    (hr : Room (k + 2) X.A) (L : LamS X.env.scope scope) (hbody : ∀ (A : Around) (outer : List PySem.Env) (s : Shared) (H : Hp) (E : XK) (f c' : Addr), Room k (A.deeper (lamEnv X scope s.heap.objs.size f c')) → RE (lamCx X A outer s H E scope f c') au (fun cls d _ H => E cls d H) body fb)
    (hg : Gl X x := by rfl) (hdef : defaultsOf params X.env = ([], []) := by rfl) (hbind : ∀ (q : Str) (cl : List (Str × Addr)) (pm cv ctv : Value), bindArgs (PySem.W.kla_fn "<lambda>" q params body scope cl pm cv ctv) ⟨[], []⟩ = pure [] := by intros; rfl)
    (hdx : (x == ("__debug__" : Str)) = false := by decide) (hda : (a == ("__debug__" : Str)) = false := by decide) (hca : (a == ("__classdict__" : Str)) = false := by decide) (hdn : (n == ("__debug__" : Str)) = false := by decide) (hcn : (n == ("__classdict__" : Str)) = false := by decide) (hde : (cn == ("__debug__" : Str)) = false := by decide) :
    RE X au W (.Call (.Name x p) [.Lambda params body scope lpos] [] pos) (fRef cn w0 w1 fb) := by
  obtain ⟨g, C, dV, kV, doc, pm, cdv, ct, oc, an, od, osl, m, kp, lk, hc, bi, mC, XF, hno, hex⟩ := D
  have hG : GivesTo X [a, n] x (defScope st) g cdv (defBody st) a (X.env.qual ++ "<lambda>") (TRef C w0 w1) := by
    rw [hb]
    exact ref_gives (p16 := p15) (j' := j) Sg.nd hge mC hde hln hdn hcn XF hno hex
  refine ⟨PE.imp (pe_lamK (t := fun E => tF X au (fun cls d _ H => E cls d H) (VE X) fb) hg m kp lk hc bi Sg rfl (.inl hla) hG TB hcode hmT hu hr L hdef hbind (fun A outer s H E f c' hr => (hbody A outer s H E f c' hr).pe) hdx hda hca) fun σ H Q ⟨F, ρ, S, q⟩ => ⟨S.tabs, fun H1 kept T1 => ?_⟩⟩
  have ht : au.tb ≠ [] := fun z => by rw [z] at hmT; cases hmT
  obtain ⟨ps, hP, _⟩ := S.tabs _ hmT
  obtain ⟨S1, X1⟩ := S.kpt kept hP ht T1
  refine ⟨F, ρ, S1, ?_⟩
  have q : Post X au W (VE X) ρ σ F H1 (fRef cn w0 w1 fb ρ) Q := q.step early_VE X1
  unfold fRef at q
  cases e : fb ρ with
  | stuck => rw [e] at q; exact q.elim
  | ok v ρ1 =>
    rw [e] at q
    refine fun y F2 H2 S2 X2 V2 => ⟨by show 2 ≤ sizeLine; decide, fun p hp => ?_⟩
    have sF : Same F2 (upd F2 p (.tup [.str w0, .non])) := same_upd (S2.sub.free hp)
    have nw : ∀ b, upd F2 p (.tup [.str w0, .non]) b ≠ none → F2 b ≠ none ∨ H2 b = none := fun b hb => by
      by_cases z : b = p
      · rw [z]; exact .inr hp
      · rw [upd_ne z] at hb; exact .inl hb
    exact q (.ref p) (upd F2 p (.tup [.str w0, .non])) (upd H2 p (.tup [.str w0, .non])) (S2.new sF (same_upd hp) (same_upd2 (S2.sub.trans (same_upd hp)) upd_same) nw (nt_upd S2.nt fun _ z => by cases z)) (X2.trans (Xt.new sF (same_upd hp) nw)) (.tup upd_same (.cons (.str _) (.cons .non .nil)))
  | err e1 ρ1 =>
    rw [e] at q
    dsimp only at q
    split at q
    · rename_i f t efs
      split at q
      · rename_i hh
        refine fun cls d F2 H2 S2 X2 E2 => ?_
        obtain ⟨C', dx, fs, m1, c1, d1, h1, r1⟩ := E2
        rw [hh.1] at m1
        have m1 := mC.symm.trans m1
        cases m1
        rw [efs] at r1
        cases r1 with
        | @cons _ v _ _ _ rv r1 =>
          cases r1
          refine ⟨c1, dx, _, v, d1, h1, by rw [hh.2]; simp [List.lookup], fun p hp => ?_⟩
          have sF : Same F2 (upd F2 p (.tup [.str w1, v])) := same_upd (S2.sub.free hp)
          have nw : ∀ b, upd F2 p (.tup [.str w1, v]) b ≠ none → F2 b ≠ none ∨ H2 b = none := fun b hb => by
            by_cases z : b = p
            · rw [z]; exact .inr hp
            · rw [upd_ne z] at hb; exact .inl hb
          exact q (.ref p) (upd F2 p (.tup [.str w1, v])) (upd H2 p (.tup [.str w1, v])) (S2.new sF (same_upd hp) (same_upd2 (S2.sub.trans (same_upd hp)) upd_same) nw (nt_upd S2.nt fun _ z => by cases z)) (X2.trans (Xt.new sF (same_upd hp) nw)) (.tup upd_same (.cons (.str _) (.cons (rv.mono sF) .nil)))
      · exact q.elim
    · exact q.elim
end
end FX
end

section
set_option Elab.async false
set_option linter.all false
set_option maxRecDepth 100000
set_option maxHeartbeats 4000000
namespace FX
open PySem PySem.Spec PyProof.Rows L2
section
variable {X : Cx} {au : Au} {W : WX}
/-! ### a local that holds a def -/
def isFn (i : Nat) (x : Str) (ρ : FX.Env) : Bool := match ρ[i]? with
  | some (.fz (.fn y)) => decide (y = x)
  | _ => false
def fAlt (p : FX.Env → Bool) (f g : FX.Env → R Vl) : FX.Env → R Vl := fun ρ => if p ρ = true then f ρ else g ρ
theorem re_alt {p : FX.Env → Bool} {e : Expr} {f g : FX.Env → R Vl} (hf : RE X au W e fun ρ => if p ρ = true then f ρ else .stuck) (hg : RE X au W e g) : RE X au W e (fAlt p f g) := by
  refine ⟨⟨fun pins s σ H Q I ⟨F, ρ, S, h⟩ => ?_⟩⟩
  unfold fAlt at h
  by_cases hp : p ρ = true
  · rw [if_pos hp] at h
    exact hf.pe.run pins s σ H Q I ⟨F, ρ, S, by show Post X au W (VE X) ρ σ F H (if p ρ = true then f ρ else .stuck) Q; rw [if_pos hp]; exact h⟩
  · rw [if_neg hp] at h
    exact hg.pe.run pins s σ H Q I ⟨F, ρ, S, h⟩
theorem re_callL {E : XK} (i : Nat) {x y : Str} {ps : List Str} {k : Nat} {g : List T → Rp} {e : Expr} {es : List Expr} {fa : FX.Env → R (List Vl)} {p pos : Pos} (C : FX.Cal X.prog X.w X.K X.mg X.base x ps k (spP X.K X.mg g)) (tk : Takes X (fun cls d _ H => E cls d H)) (hr : Room k X.A)
    (ha : RA X au (fun cls d _ H => E cls d H) (e :: es) fa) (hN : X.N[i]? = some y := by rfl) (hv : Vis X.env.scope y := by first | exact Or.inl rfl | exact Or.inr (Or.inl rfl) | exact Or.inr (Or.inr rfl)) (hdb : (y == ("__debug__" : Str)) = false := by decide) (hcd : (y == ("__classdict__" : Str)) = false := by decide)
    (he : starEach (e :: es) X.env = (false, eval e X.env) :: starEach es X.env := by rfl) (hpl : (backTo pos (starEach es X.env)).any (·.1) = false := by rfl) :
    RE X au (fun cls d _ H => E cls d H) (.Call (.Name y p) (e :: es) [] pos) (fun ρ => if isFn i x ρ = true then fCall g fa ρ else .stuck) := by
  obtain ⟨f, fd, F, m, kp, b⟩ := C
  refine ⟨PE.imp (pe_callL (i := i) (dvs := []) (E := E) F hr hN hv kp b .nil (passes_call tk fun _ _ _ _ h => h) ha.pa hdb hcd he hpl) fun σ H Q ⟨F', ρ, S, q⟩ => ?_⟩
  dsimp only at q
  split at q
  · rename_i hf
    have hs : σ[i]? = some (some (.ref f)) := by
      unfold isFn at hf
      split at hf
      · rename_i y' e1
        have ey : y' = x := of_decide_eq_true hf
        subst ey
        obtain ⟨v, ev, rv⟩ := S.fz e1
        cases rv with
        | fn hm => rw [m] at hm; cases hm; exact ev
      · cases hf
    refine ⟨hs, F', ρ, S, esc_post early_VE q fun xs ts ρ1 F1 H1 S1 r q1 => ?_⟩
    rw [List.append_nil]
    exact ⟨F1, ts, S1.sub, r, rp_post S1 q1⟩
  · exact q.elim
end
/-! ### the law -/
def spLaw (K : PySem.W.Frag) (cs : List (Addr × Addr)) : Sp := fun vs H Q _ => ∃ (a : Addr) (ns : List Int), vs = [.ref a] ∧ SqL K H a (ns.map V.int) ∧ ns.length ≤ 63 ∧ (∀ z ∈ ns, Builtin.Int.intBits z ≤ 1048576) ∧ (∀ p ∈ cs, H p.2 = some (.tbl #[])) ∧ ∀ H', Q (.bl true) H'
def startL (N : Nat) (ns : List Int) : FX.Env := .fz (.seq (ns.map .int)) :: List.replicate (N - 1) .un
def tbsOf (cs : List (Addr × Addr)) : List (Addr × Str) := cs.map fun p => (p.2, (("law" : Str) ++ ".<locals>.") ++ "<lambda>")
theorem reps_ints {K : PySem.W.Frag} {mg : Str → Option Value} {F : Hp} : ∀ ns : List Int, Reps K mg F (ns.map V.int) (ns.map T.int)
  | [] => .nil
  | n :: ns => .cons (.int n) (reps_ints ns)
theorem law_ok {P : Program} {w : World} {K : PySem.W.Frag} {mg : Str → Option Value} {base : Heap} {k : Nat} {f : Addr} {st : Stmt} {dV kV doc pm cdv ct oc : Value} {an od : Option Addr} {osl : Array (Option Value)} {N : List Str} {cs : List (Addr × Addr)} {G : FX.Env → O}
    (lk : K.lookup f = some ⟨oc, od, .func (PySem.W.fnOf "law" "law" (defArgs st) (defBody st) (defScope st) dV kV doc pm an cdv ct), osl⟩) (hcd : PySem.W.codeIn K cdv "law" = true) (S : FnScope N ["script"] (defScope st))
    (hb : ∀ (A : Around) (outer : List PySem.Env) (s : Shared) (H : Hp) (E : XK) (au : Au), au.tb = tbsOf cs → Room k (A.deeper (envOfC "law" (defScope st) s.heap.objs.size f cdv)) → RSs (cxOf (L2.CX P w) P w K mg base N "law" (defScope st) f cdv A outer s H E) au (fun cls d _ H => E cls d H) (defBody st) G)
    (hG : ∀ ns : List Int, ns.length ≤ 63 → (∀ z ∈ ns, Builtin.Int.intBits z ≤ 1048576) → ∃ ρ, G (startL N.length ns) = .rt (.fz (.bl true)) ρ) :
    FnOk P w K mg base (L2.CX P w) (k + 1) f (PySem.W.fnOf "law" "law" (defArgs st) (defBody st) (defScope st) dV kV doc pm an cdv ct) ["script"] (spLaw K cs) := by
  refine fn_of lk hcd S (fun vs H Q E ⟨a, ns, e, _⟩ => by rw [e]; rfl) fun A outer s H vs Q E hr ⟨a, ns, e, hs, hl, hbits, ht, hQ⟩ => ?_
  subst e
  refine ⟨_, (hb A outer s H E ⟨fun _ => 0, fun b => H b = none, tbsOf cs⟩ rfl hr).pss, cl H, startL N.length ns, ⟨fun b o h => (cl_of h).1, fun _ h => h, fun p hp => ?_, ?_, fun {i t} hi => ?_, fun {i k t} hi => ?_, fun {i j k k' t t' b} h1 h2 e1 e2 => ?_, fun _ b ps h => (cl_of h).2 ps rfl⟩, ?_⟩
  · obtain ⟨q, hq, e⟩ := List.mem_map.mp hp
    subst e
    exact LamX.TabS.nil (ht q hq)
  · simp [startL, L2.start]
  · have : i = 0 ∧ t = .seq (ns.map .int) := by
      cases i with
      | zero => cases hi; exact ⟨rfl, rfl⟩
      | succ i =>
        have hi : (List.replicate (N.length - 1) Sl.un)[i]? = some (.fz t) := hi
        rw [List.getElem?_replicate] at hi
        split at hi <;> cases hi
    obtain ⟨e1, e2⟩ := this
    subst e1 e2
    exact ⟨.ref a, rfl, .seq (sqL_cl hs) (reps_ints ns)⟩
  · cases i with
    | zero => cases hi
    | succ i =>
      have hi : (List.replicate (N.length - 1) Sl.un)[i]? = some (.own k t) := hi
      rw [List.getElem?_replicate] at hi
      split at hi <;> cases hi
  · cases i with
    | zero => cases h1
    | succ i =>
      have h1 : (List.replicate (N.length - 1) Sl.un)[i]? = some (.own k t) := h1
      rw [List.getElem?_replicate] at h1
      split at h1 <;> cases h1
  · obtain ⟨ρ, e⟩ := hG ns hl hbits
    rw [e]
    intro x σ' F' H' S' X' V'
    cases (show Rep K mg F' x (.bl true) from V')
    exact hQ H'
theorem cx_none {P : Program} {w : World} {H : Hp} {s : Shared} {e : Value} {s' : Shared} (h : L2.CX P w [] H s (fun _ _ _ => False) e s') : False := by
  obtain ⟨_, _, _, _, _, _, _, _, _, _, _, _, z⟩ := h
  exact z
end FX
end

section
set_option Elab.async false
set_option linter.all false
set_option maxRecDepth 100000
set_option maxHeartbeats 4000000
namespace FX
open PySem PySem.Spec PyProof.Rows L2
section
variable {P : Program} {w : World} {K : PySem.W.Frag} {mg : Str → Option Value} {base : Heap}
/-- an own exception class with PartError's __init__(self, value=None) -/
theorem exc1_of {c q : Str} {st : Stmt} {C fI Td : Addr} {kV doc pm cdv ct oc oc2 : Value} {an od od2 : Option Addr} {osl osl2 : Array (Option Value)} {n2 : Nat} {p1 p2 p3 p4 : Pos}
    (lk : K.lookup fI = some ⟨oc, od, .func (PySem.W.fnOf "__init__" q (defArgs st) (defBody st) (defScope st) (.ref Td) kV doc pm an cdv ct), osl⟩) (hcd : PySem.W.codeIn K cdv q = true) (kp : PySem.W.keepIn K (.ref fI) = true) (lT : K.lookup Td = some ⟨oc2, od2, .seq #[.none] n2, osl2⟩)
    (S : FnScope ["self", "value"] ["self", "value"] (defScope st)) (hb : defBody st = [.Assign [.Attribute (.Name "self" p1) "value" p2] (.Name "value" p3) p4])
    (hbind : ∀ (T : Addr) (kV doc pm : Value) (an : Option Addr) (cdv ct : Value) (us its : List Value), us.length = 2 → its.length = 1 → ∃ k, bindArgs (PySem.W.fnOf "__init__" q (defArgs st) (defBody st) (defScope st) (.ref T) kV doc pm an cdv ct) ⟨us, []⟩ = seqItems? (.ref T) >>= k ∧ k (some its.toArray) = pure ((["self", "value"] : List Str).zip (us ++ its.drop 1)))
    (hs : (defScope st).names.lookup ("self" : Str) = some .local) (hv : (defScope st).names.lookup ("value" : Str) = some .local)
    (ox : OexC K C) (nv : PySem.W.findIn K (.ref C) "value" = some none) (init : PySem.W.findIn K (.ref C) "__init__" = some (some (.ref fI))) (tyI : PySem.W.typeIn K (.ref fI) = some (.type "function")) (mC : mg c = some (.ref C)) : Exc1 P w K mg base c := by
  have F : FunD K "__init__" q (defArgs st) (defBody st) (defScope st) [.non] [] fI (PySem.W.fnOf "__init__" q (defArgs st) (defBody st) (defScope st) (.ref Td) kV doc pm an cdv ct) :=
    ⟨⟨oc, od, .ref Td, kV, doc, pm, an, cdv, ct, osl, rfl, lk, hcd, .inr ⟨by simp, Td, _, [.none], n2, rfl, lT, rfl, .cons rfl .nil⟩, .inl rfl⟩, kp⟩
  obtain ⟨ds, vd, B⟩ := F.binds1 (ps := ["self", "value"]) 2 1 (by simp) rfl hbind
  cases vd
  refine ⟨C, fI, _, ⟨ox, nv, init, tyI⟩, ?_, B, mC⟩
  refine F.ok S (fun vs H Q E ⟨a, C, v, e, _⟩ => by rw [e]; rfl) fun cdv A outer s H vs Q E hr ⟨a, C', v, e, ox', nv', ha, k⟩ => ?_
  subst e
  rw [hb]
  refine ⟨_, pss_one (ps_ost (pe_var (i := 0) rfl (.inl hs)) (pe_var (i := 1) rfl (.inl hv)) rfl), ?_⟩
  exact ⟨v, rfl, .ref a, rfl, a, C', rfl, ox', nv', .inl ⟨ha, k⟩⟩
end
end FX
end

section
set_option Elab.async false
set_option linter.all false
set_option maxRecDepth 100000
set_option maxHeartbeats 4000000
namespace FX
open PySem PySem.Spec PyProof.Rows L2
/-- what the top has written of a def -/
def Fct (K : PySem.W.Frag) (x : Str) (st : Stmt) : Prop := ∃ (f : Addr) (oc : Value) (od : Option Addr) (kV doc pm : Value) (an : Option Addr) (cdv ct : Value) (osl : Array (Option Value)), PySem.W.nsIn K mainGlobals x = some (some (.ref f)) ∧
  K.lookup f = some ⟨oc, od, .func (PySem.W.fnOf x x (defArgs st) (defBody st) (defScope st) .none kV doc pm an cdv ct), osl⟩ ∧ PySem.W.codeIn K cdv x = true ∧ PySem.W.keepIn K (.ref f) = true
theorem Fct.mk {K : PySem.W.Frag} {x : Str} {st : Stmt} {f : Addr} {oc : Value} {od : Option Addr} {kV doc pm : Value} {an : Option Addr} {cdv ct : Value} {osl : Array (Option Value)} (a : PySem.W.nsIn K mainGlobals x = some (some (.ref f)))
    (l : K.lookup f = some ⟨oc, od, .func (PySem.W.fnOf x x (defArgs st) (defBody st) (defScope st) .none kV doc pm an cdv ct), osl⟩) (c : PySem.W.codeIn K cdv x = true) (k : PySem.W.keepIn K (.ref f) = true) : Fct K x st := ⟨f, oc, od, kV, doc, pm, an, cdv, ct, osl, a, l, c, k⟩
theorem int_mk {K : PySem.W.Frag} {x : Str} {i : Int} {tk : Tok} (a : PySem.W.nsIn K mainGlobals x = some (some (.int i tk))) : ∃ tk, PySem.W.nsIn K mainGlobals x = some (some (.int i tk)) := ⟨tk, a⟩
theorem oex_mk {K : PySem.W.Frag} {C : Addr} {nm q N bs bm sn sub ab col dd k0 k1 k2 k3 k5} (a : K.lookup C = some (excClassObj nm q C N bs bm true sn sub ab col dd k0 k1 k2 k3 k5 "ValueError.__new__")) (b : PySem.HandSPX.refsVE bm = true)
    (c : PySem.W.findIn K (.ref C) "__setattr__" = some (some (.builtin "object.__setattr__"))) (d : PySem.W.subIn K (.ref C) (.type "BaseException") = some true) (e : PySem.W.typeIn K (.ref C) = some (.type "type")) (f : PySem.W.keepIn K (.ref C) = true) : OexC K C :=
  ⟨⟨nm, q, N, bs, bm, sn, sub, ab, col, dd, k0, k1, k2, k3, k5, a, b⟩, c, d, e, f⟩
theorem exm_mk {K : PySem.W.Frag} {C : Addr} (a : PySem.W.subIn K (.ref C) (.type "BaseException") = some true) (t : PySem.W.typeIn K (.ref C) = some (.type "type")) {o1 : Value} {o2 : Option Addr} {cd : ClassData} {o3 : Array (Option Value)} (l : K.lookup C = some ⟨o1, o2, .cls cd, o3⟩) (s : PySem.W.subIn K (.ref C) (.ref C) = some true) : PySem.W.exmOne K (.ref C) (.ref C) = some true := by
  unfold PySem.W.exmOne PySem.W.kitCls
  have c : PySem.W.clsIn K C = some cd := by unfold PySem.W.clsIn; rw [l]
  rw [a]
  simp [c, t, s]
theorem no_of {K : Params → PySem.W.Frag} {as : List Addr} {e : ∀ P, as = (K P).map (·.1)} {ts : List Addr} {w : World} {h : Heap} (Y : (PySem.W.kmHook K as e ts).says w h) {P : Addr} (n : as.contains P = false) : (K w.params).lookup P = none := by
  have n : ((K w.params).map (·.1)).contains P = false := by rw [← e w.params]; exact n
  generalize K w.params = l at n
  induction l with
  | nil => rfl
  | cons p l ih =>
    obtain ⟨a, o⟩ := p
    simp only [List.map_cons, List.contains_cons, Bool.or_eq_false_iff] at n
    show List.lookup P ((a, o) :: l) = none
    rw [List.lookup_cons, n.1]
    exact ih n.2
theorem chd_mk {K : PySem.W.Frag} {c P : Addr} {d : Option Addr} {vs : Array Value} {sl : Array (Option Value)} (l : K.lookup c = some ⟨.type "code", d, .fields vs, sl⟩) (v : (vs[11]? : Option Value) = some (.ref P))
    (e : ((match vs.getD 18 .none with | .str _ _ => true | _ => false) && (match vs.getD 7 .none with | .int _ _ => true | _ => false) && (match vs.getD 9 .none with | .bool _ => true | _ => false) && (match vs.getD 10 .none with | .int _ _ => true | _ => false) && c != P) = true) : PySem.W.codeHdIn K c P = true := by
  unfold PySem.W.codeHdIn
  rw [l]
  simp only [v]
  simp only [Bool.and_eq_true] at e ⊢
  obtain ⟨⟨⟨⟨e1, e2⟩, e3⟩, e4⟩, e5⟩ := e
  exact ⟨⟨⟨⟨⟨by simp, e1⟩, e2⟩, e3⟩, e4⟩, e5⟩
theorem Fct.fn0 {K : PySem.W.Frag} {h : Heap} {mg : Str → Option Value} {x : Str} {st : Stmt} {ps : List Str} (D : Fct K x st) (X : K.In h) (G : h.Ns mainGlobals mg)
    (hb : ∀ (kV doc pm : Value) (an : Option Addr) (cdv ct : Value) (us : List Value), us.length = ps.length → bindArgs (PySem.W.fnOf x x (defArgs st) (defBody st) (defScope st) .none kV doc pm an cdv ct) ⟨us, []⟩ = pure (ps.zip us)) : Fn0 K mg x st ps := by
  obtain ⟨f, oc, od, kV, doc, pm, an, cdv, ct, osl, a, l, c, k⟩ := D
  have F := fun_mk (st := st) l c k
  exact ⟨f, _, F, PySem.W.mg_of X G a, k, F.binds hb⟩
theorem none_of {K : PySem.W.Frag} {h : Heap} {mg : Str → Option Value} {x : Str} (X : K.In h) (G : h.Ns mainGlobals mg) (e : PySem.W.nsIn K mainGlobals x = some none) : mg x = none := PySem.W.mg_none_of X G e
theorem int_of {K : PySem.W.Frag} {h : Heap} {mg : Str → Option Value} {x : Str} {i : Int} (X : K.In h) (G : h.Ns mainGlobals mg) (e : ∃ tk, PySem.W.nsIn K mainGlobals x = some (some (.int i tk))) : ∃ tk, mg x = some (.int i tk) := e.elim fun tk e => ⟨tk, PySem.W.mg_of X G e⟩
theorem fn_glob {K : PySem.W.Frag} {mg : Str → Option Value} {x : Str} {st : Stmt} {ps : List Str} (D : Fn0 K mg x st ps) : ∃ f : Addr, mg x = some (.ref f) := let ⟨f, _, _, m, _⟩ := D; ⟨f, m⟩
/-- what is known of an own exception class -/
structure ExcF (K : PySem.W.Frag) (c : Str) (C fI : Addr) : Prop where
  m : PySem.W.nsIn K mainGlobals c = some (some (.ref C))
  ox : OexC K C
  nv : PySem.W.findIn K (.ref C) "value" = some none
  init : PySem.W.findIn K (.ref C) "__init__" = some (some (.ref fI))
  tyI : PySem.W.typeIn K (.ref fI) = some (.type "function")
theorem ref_of {K : PySem.W.Frag} {h : Heap} {mg : Str → Option Value} {x a cn : Str} {st : Stmt} {C : Addr} (D : Fct K x st) (X : K.In h) (G : h.Ns mainGlobals mg)
    (hb : ∀ (kV doc pm : Value) (an : Option Addr) (cdv ct : Value) (us : List Value), us.length = 1 → bindArgs (PySem.W.fnOf x x (defArgs st) (defBody st) (defScope st) .none kV doc pm an cdv ct) ⟨us, []⟩ = pure (([a] : List Str).zip us))
    (mC : PySem.W.nsIn K mainGlobals cn = some (some (.ref C))) (XF : XfC K C) (nv : PySem.W.findIn K (.ref C) "value" = some none) (ex : PySem.W.exmOne K (.ref C) (.ref C) = some true) : RefD K mg x st a cn := by
  obtain ⟨f, oc, od, kV, doc, pm, an, cdv, ct, osl, a', l, c, k⟩ := D
  have F := fun_mk (st := st) l c k
  exact ⟨f, C, .none, kV, doc, pm, cdv, ct, oc, an, od, osl, PySem.W.mg_of X G a', k, l, c, Binds.all fun us hl => hb kV doc pm an cdv ct us hl, PySem.W.mg_of X G mC, XF, nv, ex⟩
end FX
end

section
set_option Elab.async false
set_option linter.all false
set_option maxRecDepth 100000
/-! how mirrors are evaluated: equations that ask for the environment -/
namespace FX
namespace Ev
open PySem L2
theorem bind_ok {α β : Type} (a : α) (ρ : FX.Env) (f : α → FX.Env → R β) : (R.ok a ρ).bind f = f a ρ := rfl
theorem bind_err {α β : Type} (e : Ex) (ρ : FX.Env) (f : α → FX.Env → R β) : (R.err e ρ : R α).bind f = .err e ρ := rfl
theorem map_ok {α β : Type} (a : α) (ρ : FX.Env) (f : α → β) : (R.ok a ρ).map f = .ok (f a) ρ := rfl
theorem map_err {α β : Type} (e : Ex) (ρ : FX.Env) (f : α → β) : (R.err e ρ : R α).map f = .err e ρ := rfl
theorem norm_fz (t : T) (ρ : FX.Env) : (R.ok (Vl.fz t) ρ).norm = .ok (.fz t) ρ := rfl
theorem norm_own (t : T) (ρ : FX.Env) : (R.ok (Vl.own t) ρ).norm = .ok (.fz t) ρ := rfl
theorem norm_bor (i : Nat) (ρ : FX.Env) : (R.ok (Vl.bor i) ρ).norm = .ok (.bor i) ρ := rfl
theorem norm_err (e : Ex) (ρ : FX.Env) : (R.err e ρ).norm = .err e ρ := rfl
theorem of_fz (t : T) (ρ : FX.Env) : R.of (some (.fz t)) ρ = .ok (.fz t) ρ := rfl
theorem of_own (t : T) (ρ : FX.Env) : R.of (some (.own t)) ρ = .ok (.own t) ρ := rfl
theorem ofB_some (b : Bool) (ρ : FX.Env) : R.ofB (some b) ρ = .ok b ρ := rfl
theorem o_ok {α : Type} (a : α) (ρ : FX.Env) (f : α → FX.Env → O) : (R.ok a ρ).o f = f a ρ := rfl
theorem o_err {α : Type} (e : Ex) (ρ : FX.Env) (f : α → FX.Env → O) : (R.err e ρ : R α).o f = .er e ρ := rfl
theorem after_nx (ρ : FX.Env) (h : FX.Env → O) : (O.nx ρ).after h = h ρ := rfl
theorem after_rt (v : Vl) (ρ : FX.Env) (h : FX.Env → O) : (O.rt v ρ).after h = .rt v ρ := rfl
theorem after_er (e : Ex) (ρ : FX.Env) (h : FX.Env → O) : (O.er e ρ).after h = .er e ρ := rfl
theorem look_fz (ρ : FX.Env) (t : T) : look ρ (.fz t) = some t := rfl
theorem look_bor (ρ : FX.Env) (i : Nat) : look ρ (.bor i) = (match ρ[i]? with | some (.own _ t) => some t | some (.fz t) => some t | _ => none) := rfl
theorem looks_nil (ρ : FX.Env) : looks ρ [] = some [] := rfl
theorem looks_cons (ρ : FX.Env) (v : Vl) (vs : List Vl) : looks ρ (v :: vs) = (match look ρ v, looks ρ vs with | some t, some ts => some (t :: ts) | _, _ => none) := rfl
theorem look2_eq {α : Type} (ρ : FX.Env) (v u : Vl) (g : T → T → Option α) : look2 ρ v u g = (match look ρ v, look ρ u with | some t, some s => g t s | _, _ => none) := rfl
theorem esc1_fz (t : T) (ρ : FX.Env) : esc1 (.fz t) ρ = some (t, ρ) := rfl
theorem esc1_bor (i : Nat) (ρ : FX.Env) : esc1 (.bor i) ρ = (match ρ[i]? with | some (.own _ t) => some (t, ρ.set i (.fz t)) | some (.fz t) => some (t, ρ) | _ => none) := rfl
theorem escs_nil (ρ : FX.Env) : escs [] ρ = some ([], ρ) := rfl
theorem escs_cons (v : Vl) (vs : List Vl) (ρ : FX.Env) : escs (v :: vs) ρ = (match esc1 v ρ with | some (t, ρ1) => (match escs vs ρ1 with | some (ts, ρ2) => some (t :: ts, ρ2) | none => none) | none => none) := rfl
theorem ap_var (i : Nat) (ρ : FX.Env) : fVar i ρ = (match ρ[i]? with | some (.fz t) => .ok (.fz t) ρ | some (.own _ _) => .ok (.bor i) ρ | _ => .stuck) := rfl
theorem ap_c (t : T) (ρ : FX.Env) : fC t ρ = .ok (.fz t) ρ := rfl
theorem ap_nil (ρ : FX.Env) : fANil ρ = .ok [] ρ := rfl
theorem ap_cons (f : FX.Env → R Vl) (g : FX.Env → R (List Vl)) (ρ : FX.Env) : fACons f g ρ = (f ρ).norm.bind fun v ρ1 => (g ρ1).bind fun vs ρ2 => .ok (v :: vs) ρ2 := rfl
theorem ap_star (f : FX.Env → R Vl) (g : FX.Env → R (List Vl)) (ρ : FX.Env) : fAStar f g ρ = (f ρ).norm.bind fun v ρ1 => match (look ρ1 v).bind T.items with | some ts => (g ρ1).bind fun vs ρ2 => .ok (ts.map .fz ++ vs) ρ2 | none => .stuck := rfl
theorem ap_cb (g : List T → Option Nv) (fa : FX.Env → R (List Vl)) (ρ : FX.Env) : fCB g fa ρ = (fa ρ).bind fun vs ρ1 => R.of ((looks ρ1 vs).bind g) ρ1 := rfl
theorem ap_bin (g : T → T → Option Nv) (fa fb : FX.Env → R Vl) (ρ : FX.Env) : fBin g fa fb ρ = (fa ρ).norm.bind fun v ρ1 => (fb ρ1).norm.bind fun u ρ2 => R.of (look2 ρ2 v u g) ρ2 := rfl
theorem ap_cmp (g : T → T → Option Bool) (fa fb : FX.Env → R Vl) (ρ : FX.Env) : fCmpT g fa fb ρ = (fa ρ).norm.bind fun v ρ1 => (fb ρ1).norm.bind fun u ρ2 => R.ofB (look2 ρ2 v u g) ρ2 := rfl
theorem gcm_eq (g : T → T → Option Bool) (t u : T) : gCm g t u = (g t u).map fun b => .fz (.bl b) := rfl
theorem ap_tru (f : FX.Env → R Vl) (ρ : FX.Env) : fTru f ρ = (f ρ).norm.bind fun v ρ1 => R.ofB ((look ρ1 v).bind T.tru) ρ1 := rfl
theorem tru_bl (b : Bool) : T.tru (.bl b) = some b := rfl
theorem ap_and (f g : FX.Env → R Bool) (ρ : FX.Env) : fAnd f g ρ = (f ρ).bind fun b ρ1 => if b = true then g ρ1 else .ok false ρ1 := rfl
theorem ap_or (f g : FX.Env → R Bool) (ρ : FX.Env) : fOr f g ρ = (f ρ).bind fun b ρ1 => if b = true then .ok true ρ1 else g ρ1 := rfl
theorem ap_not (f : FX.Env → R Bool) (ρ : FX.Env) : fNot f ρ = (f ρ).map fun b => !b := rfl
theorem ap_andv (f g : FX.Env → R Vl) (ρ : FX.Env) : fAndV f g ρ = (f ρ).norm.bind fun v ρ1 => match v with | .fz (.bl true) => g ρ1 | .fz (.bl false) => .ok (.fz (.bl false)) ρ1 | _ => .stuck := rfl
theorem ap_orv (f g : FX.Env → R Vl) (ρ : FX.Env) : fOrV f g ρ = (f ρ).norm.bind fun v ρ1 => match v with | .fz (.bl true) => .ok (.fz (.bl true)) ρ1 | .fz (.bl false) => g ρ1 | _ => .stuck := rfl
theorem ap_notv (f : FX.Env → R Vl) (ρ : FX.Env) : fNotV f ρ = (f ρ).norm.bind fun v ρ1 => match v with | .fz (.bl b) => .ok (.fz (.bl (!b))) ρ1 | _ => .stuck := rfl
theorem ap_if (f : FX.Env → R Bool) (g h : FX.Env → R Vl) (ρ : FX.Env) : fIf f g h ρ = (f ρ).bind fun b ρ1 => if b = true then g ρ1 else h ρ1 := rfl
theorem ap_esc {α : Type} (g : FX.Env → R (List Vl)) (k : List T → FX.Env → R α) (ρ : FX.Env) : fEsc g k ρ = (g ρ).bind fun vs ρ1 => match escs vs ρ1 with | some (ts, ρ2) => k ts ρ2 | none => .stuck := rfl
theorem ap_tup (g : FX.Env → R (List Vl)) (ρ : FX.Env) : fTup g ρ = fEsc g (fun ts ρ => R.of (lim ts.length (.fz (.tup ts))) ρ) ρ := rfl
theorem ap_lst (g : FX.Env → R (List Vl)) (ρ : FX.Env) : fLst g ρ = fEsc g (fun ts ρ => R.of (lim ts.length (.own (.lst ts))) ρ) ρ := rfl
theorem lim_eq (n : Nat) (v : Nv) : lim n v = if n ≤ 1000 then some v else none := rfl
theorem ap_call (g : List T → Rp) (fa : FX.Env → R (List Vl)) (ρ : FX.Env) : fCall g fa ρ = fEsc fa (fun ts ρ => (g ts).r ρ) ρ := rfl
theorem r_fz (t : T) (ρ : FX.Env) : (Rp.ok (.fz t)).r ρ = .ok (.fz t) ρ := rfl
theorem r_own (t : T) (ρ : FX.Env) : (Rp.ok (.own t)).r ρ = .ok (.own t) ρ := rfl
theorem r_err (e : Ex) (ρ : FX.Env) : (Rp.err e).r ρ = .err e ρ := rfl
theorem ap_v (f : FX.Env → R Bool) (ρ : FX.Env) : fV f ρ = (f ρ).map fun b => .fz (.bl b) := rfl
theorem ap_chain (g g2 : T → T → Option Bool) (fa fb fc : FX.Env → R Vl) (ρ : FX.Env) : fChain g g2 fa fb fc ρ = (fa ρ).norm.bind fun v ρ1 => (fb ρ1).norm.bind fun u ρ2 => match look2 ρ2 v u g with | some true => (fc ρ2).norm.bind fun z ρ3 => R.ofB (look2 ρ3 u z g2) ρ3 | some false => .ok false ρ2 | none => .stuck := rfl
theorem ap_neg (f : FX.Env → R Vl) (ρ : FX.Env) : fNeg f ρ = (f ρ).norm.bind fun v ρ1 => match v with | .fz (.int i) => .ok (.fz (.int (-i))) ρ1 | _ => .stuck := rfl
theorem ap_items (f : FX.Env → R Vl) (ρ : FX.Env) : fItems f ρ = (f ρ).norm.bind fun v ρ1 => match esc1 v ρ1 with | some (t, ρ2) => (match t.items with | some ts => .ok ts ρ2 | none => .stuck) | none => .stuck := rfl
theorem items_tup (ts : List T) : (T.tup ts).items = some ts := rfl
theorem items_lst (ts : List T) : (T.lst ts).items = some ts := rfl
theorem ap_yes (ρ : FX.Env) : fYes ρ = .ok true ρ := rfl
theorem ap_lc (vs : List Nat) (fi : FX.Env → R (List T)) (b : T → FX.Env → Option FX.Env) (ft : FX.Env → R Bool) (fe : FX.Env → R Vl) (ρ : FX.Env) : fLc vs fi b ft fe ρ = (fi ρ).bind fun ts ρ1 => (lcL vs b ft fe ts [] ρ1).map fun ys => .own (.lst ys) := rfl
theorem ap_dc (vs : List Nat) (fi : FX.Env → R (List T)) (b : T → FX.Env → Option FX.Env) (ft : FX.Env → R Bool) (fk fv : FX.Env → R Vl) (ρ : FX.Env) : fDc vs fi b ft fk fv ρ = (fi ρ).bind fun ts ρ1 => (dcL vs b ft fk fv ts [] ρ1).map fun ys => .own (.dK ys) := rfl
theorem ap_rev (f : FX.Env → R Vl) (ρ : FX.Env) : fRev f ρ = (f ρ).norm.bind fun v ρ1 => R.of ((look ρ1 v).bind aRev) ρ1 := rfl
theorem ap_dk (ρ : FX.Env) : fDK ρ = .ok (.own (.dK [])) ρ := rfl
theorem ap_dn (f : FX.Env → R Vl) (ρ : FX.Env) : fDN f ρ = (f ρ).norm.bind fun v ρ1 => match esc1 v ρ1 with | some (t, ρ2) => .ok (.fz (.dN t)) ρ2 | none => .stuck := rfl
theorem ap_none (ρ : FX.Env) : fNone ρ = .ok none ρ := rfl
theorem ap_some (f : FX.Env → R Vl) (ρ : FX.Env) : fSome f ρ = (f ρ).norm.bind fun v ρ1 => match v with | .fz (.int i) => .ok (some i) ρ1 | _ => .stuck := rfl
theorem ap_cut (fa : FX.Env → R Vl) (fl fh : FX.Env → R (Option Int)) (ρ : FX.Env) : fCut fa fl fh ρ = (fa ρ).norm.bind fun v ρ1 => (fl ρ1).bind fun lo ρ2 => (fh ρ2).bind fun hi ρ3 => R.of ((look ρ3 v).bind fun t => aCut t lo hi) ρ3 := rfl
theorem ap_enum (fa : FX.Env → R (List Vl)) (ρ : FX.Env) : fEnum fa ρ = fEsc fa (fun ts ρ => match ts with | [t] => (match t.items with | some us => .ok (enumT 0 us) ρ | none => .stuck) | _ => .stuck) ρ := rfl
theorem ap_zip (fa : FX.Env → R (List Vl)) (ρ : FX.Env) : fZip fa ρ = fEsc fa (fun ts ρ => match ts with | [t, u] => (match t.items, u.items with | some ts, some us => .ok (zipT ts us) ρ | _, _ => .stuck) | _ => .stuck) ρ := rfl
theorem ap_range1 (fa : FX.Env → R (List Vl)) (ρ : FX.Env) : fRange1 fa ρ = (fa ρ).bind fun vs ρ1 => match vs with | [.fz (.int n)] => if okR n = true then .ok (rangeT 0 n) ρ1 else .stuck | _ => .stuck := rfl
theorem ap_range2 (fa : FX.Env → R (List Vl)) (ρ : FX.Env) : fRange2 fa ρ = (fa ρ).bind fun vs ρ1 => match vs with | [.fz (.int m), .fz (.int n)] => if okR m = true ∧ okR n = true then .ok (rangeT m n) ρ1 else .stuck | _ => .stuck := rfl
theorem ap_callM (g : T → List T → RpM) (fa : FX.Env → R (List Vl)) (ρ : FX.Env) : fCallM g fa ρ = (fa ρ).bind fun vs ρ1 => match vs with | .bor i :: us => (match escs us ρ1 with | some (ts, ρ2) => (match ownT ρ2 i with | some (k, t) => (match g t ts with | .ok t2 v => R.of (some v) (ρ2.set i (.own k t2)) | .stuck => .stuck) | none => .stuck) | none => .stuck) | _ => .stuck := rfl
theorem ownT_eq (ρ : FX.Env) (i : Nat) : ownT ρ i = (match ρ[i]? with | some (.own k t) => some (k, t) | _ => none) := rfl
theorem ap_gd (p : T → Bool) (i : Nat) (f : FX.Env → R Vl) (ρ : FX.Env) : gd p i f ρ = (match ownT ρ i with | some (_, t) => if p t = true then f ρ else .stuck | none => .stuck) := rfl
theorem ap_mut (i : Nat) (m : T → List T → Option (T × T)) (fa : FX.Env → R (List Vl)) (ρ : FX.Env) : fMut i m fa ρ = (match ownT ρ i with | none => .stuck | some _ => fEsc fa (fun ts ρ1 => match ownT ρ1 i with | none => .stuck | some (k, t) => match m t ts with | some (t2, w) => .ok (.fz w) (ρ1.set i (.own k t2)) | none => .stuck) ρ) := rfl
theorem isL_lst (ts : List T) : isL (.lst ts) = true := rfl
theorem app_eq (ts : List T) (t : T) : mAppend (.lst ts) [t] = if ts.length ≤ 1000000 then some (.lst (ts ++ [t]), .non) else none := rfl
theorem ap_seq (g h : FX.Env → O) (ρ : FX.Env) : gSeq g h ρ = (g ρ).after h := rfl
theorem ap_gif (c : FX.Env → R Bool) (g h : FX.Env → O) (ρ : FX.Env) : gIf c g h ρ = (c ρ).o fun b ρ1 => if b = true then g ρ1 else h ρ1 := rfl
theorem ap_set (i : Nat) (f : FX.Env → R Vl) (ρ : FX.Env) : gSet i f ρ = (f ρ).o (put1 i) := rfl
theorem put_fz (i : Nat) (t : T) (ρ : FX.Env) : put1 i (.fz t) ρ = .nx (ρ.set i (.fz t)) := rfl
theorem put_own (i : Nat) (t : T) (ρ : FX.Env) : put1 i (.own t) ρ = .nx (ρ.set i (.own none t)) := rfl
theorem put_bor (i j : Nat) (ρ : FX.Env) : put1 i (.bor j) ρ = (match esc1 (.bor j) ρ with | some (t, ρ1) => .nx (ρ1.set i (.fz t)) | none => .stuck) := rfl
theorem ap_ret (f : FX.Env → R Vl) (ρ : FX.Env) : gRet f ρ = (f ρ).o fun v ρ1 => .rt v ρ1 := rfl
theorem ap_drop (f : FX.Env → R Vl) (ρ : FX.Env) : gDrop f ρ = (f ρ).o fun _ ρ1 => .nx ρ1 := rfl
theorem ap_gnil (ρ : FX.Env) : FX.gNil ρ = .nx ρ := rfl
theorem ap_raise (c : Str) (fa : FX.Env → R (List Vl)) (ρ : FX.Env) : gRaise c fa ρ = (fa ρ).o fun vs ρ1 => match escs vs ρ1 with | some ([t], ρ2) => .er ⟨c, [("value", t)]⟩ ρ2 | _ => .stuck := rfl
theorem ap_for (fi : FX.Env → R (List T)) (b : T → FX.Env → Option FX.Env) (g : FX.Env → O) (ρ : FX.Env) : gFor fi b g ρ = (fi ρ).o fun ts ρ1 => forL b g ts ρ1 := rfl
theorem ap_aug (i : Nat) (g : T → T → Option Nv) (f : FX.Env → R Vl) (ρ : FX.Env) : gAug i g f ρ = (match ρ[i]? with | some (.fz t) => (f ρ).norm.o fun v ρ1 => (match (look ρ1 v).bind (g t) with | some w => put1 i w.vl ρ1 | none => .stuck) | _ => .stuck) := rfl
theorem ap_asg (b : T → FX.Env → Option FX.Env) (f : FX.Env → R Vl) (ρ : FX.Env) : gAsg b f ρ = (f ρ).norm.o fun v ρ1 => match esc1 v ρ1 with | some (t, ρ2) => (match b t ρ2 with | some ρ3 => .nx ρ3 | none => .stuck) | none => .stuck := rfl
theorem ap_store (st : T → T → T → Option T) (i : Nat) (fv fk : FX.Env → R Vl) (ρ : FX.Env) : gStore st i fv fk ρ = (fv ρ).norm.o fun v ρ1 => match ownT ρ1 i with | none => .stuck | some _ => (fk ρ1).norm.o fun kx ρ2 => match escs [v, kx] ρ2 with | some ([t, k], ρ3) => (match ownT ρ3 i with | some (id, c) => (match st c k t with | some c2 => .nx (ρ3.set i (.own id c2)) | none => .stuck) | none => .stuck) | _ => .stuck := rfl
theorem ap_bname (i : Nat) (t : T) (ρ : FX.Env) : bName i t ρ = some (ρ.set i (.fz t)) := rfl
theorem ap_bnil (ρ : FX.Env) : bNil [] ρ = some ρ := rfl
theorem ap_bcons (b : T → FX.Env → Option FX.Env) (c : List T → FX.Env → Option FX.Env) (t : T) (ts : List T) (ρ : FX.Env) : bCons b c (t :: ts) ρ = (b t ρ).bind (c ts) := rfl
theorem ap_btup (n : Nat) (c : List T → FX.Env → Option FX.Env) (ts : List T) (ρ : FX.Env) : bTup n c (.tup ts) ρ = if ts.length = n then c ts ρ else none := rfl
theorem end_rt (t : T) (ρ : FX.Env) : endP (.rt (.fz t) ρ) = .ok (.fz t) := rfl
theorem end_own (t : T) (ρ : FX.Env) : endP (.rt (.own t) ρ) = .ok (.own t) := rfl
theorem end_nx (ρ : FX.Env) : endP (.nx ρ) = .ok (.fz .non) := rfl
theorem end_er (e : Ex) (ρ : FX.Env) : endP (.er e ρ) = .err e := rfl
theorem end_bor (i : Nat) (ρ : FX.Env) : endP (.rt (.bor i) ρ) = (match ρ[i]? with | some (.own none t) => .ok (.own t) | some (.fz t) => .ok (.fz t) | _ => .stuck) := rfl
theorem vl_fz (t : T) : (Nv.fz t).vl = .fz t := rfl
theorem vl_own (t : T) : (Nv.own t).vl = .own t := rfl
end Ev
end FX
end

section
set_option Elab.async false
set_option linter.all false
set_option maxRecDepth 100000
set_option maxHeartbeats 4000000
namespace K24
open PySem PySem.Spec PyProof.Rows L2 FX
def top (i : Nat) : Stmt := PySem.Challenge.pw_layerstand_k24_whole_swaps.main.body.getD i (.Pass ⟨0, 0, 0, 0⟩)
structure TX (mg : Str → Option Value) : Prop where
  b_all : mg "all" = none
  b_bool : mg "bool" = none
  b_dict : mg "dict" = none
  b_enumerate : mg "enumerate" = none
  b_int : mg "int" = none
  b_isinstance : mg "isinstance" = none
  b_len : mg "len" = none
  b_list : mg "list" = none
  b_min : mg "min" = none
  b_range : mg "range" = none
  b_sorted : mg "sorted" = none
  b_str : mg "str" = none
  b_tuple : mg "tuple" = none
  c_MOST_LAYERS : ∃ tk, mg "MOST_LAYERS" = some (.int 200 tk)
  c_MOST_STUFF : ∃ tk, mg "MOST_STUFF" = some (.int 5 tk)
  f_fewest_swaps : ∃ f : Addr, mg "fewest_swaps" = some (.ref f)
  f_swaps_of : ∃ f : Addr, mg "swaps_of" = some (.ref f)
section
variable {P : Program} {w : World} {K : PySem.W.Frag} {mg : Str → Option Value} {base : Heap}
abbrev s_is_integer : Stmt := top 1
theorem sc_is_integer : FnScope ["thing"] ["thing"] (defScope s_is_integer) := ⟨rfl, rfl, rfl, by decide +kernel, rfl, by decide +kernel, by decide +kernel⟩
def g_is_integer : FX.Env → O :=
  (gRet (fAndV (fCB bIsi (fACons (fVar 0) (fACons (fC (.ty "int")) fANil))) (fNotV (fCB bIsi (fACons (fVar 0) (fACons (fC (.ty "bool")) fANil))))))
def m_is_integer : List T → Rp := mkP 1 1 g_is_integer
theorem ok_is_integer (T : TX mg) (F : Fn0 K mg "is_integer" s_is_integer ["thing"])   : Cal P w K mg base "is_integer" ["thing"] 1 (spP K mg m_is_integer) :=
  cal_p F sc_is_integer fun f cdv A outer s H E au ht hr =>
  (rss_one (rs_ret (re_and (re_callB call_isiA ca_isi T.b_isinstance (by rfl) (ra_cons (re_var 0) (ra_cons (re_ty T.b_int (by rfl)) ra_nil))) (re_one (re_not (re_callB call_isiA ca_isi T.b_isinstance (by rfl) (ra_cons (re_var 0) (ra_cons (re_ty T.b_bool (by rfl)) ra_nil))))))))

abbrev s_is_within : Stmt := top 2
theorem sc_is_within : FnScope ["thing", "least", "most"] ["thing", "least", "most"] (defScope s_is_within) := ⟨rfl, rfl, rfl, by decide +kernel, rfl, by decide +kernel, by decide +kernel⟩
def g_is_within : FX.Env → O :=
  (gRet (fAndV (fCall m_is_integer (fACons (fVar 0) fANil)) (fV (fChain (cI fun i j => decide (i ≤ j)) (cI fun i j => decide (i ≤ j)) (fVar 1) (fVar 0) (fVar 2)))))
def m_is_within : List T → Rp := mkP 3 3 g_is_within
theorem ok_is_within (T : TX mg) (F : Fn0 K mg "is_within" s_is_within ["thing", "least", "most"]) (c_is_integer : Cal P w K mg base "is_integer" ["thing"] 1 (spP K mg m_is_integer))  : Cal P w K mg base "is_within" ["thing", "least", "most"] 2 (spP K mg m_is_within) :=
  cal_p F sc_is_within fun f cdv A outer s H E au ht hr =>
  (rss_one (rs_ret (re_and (re_callC c_is_integer (takes_of rfl rfl rfl rfl) (hr.mono (by decide)) (ra_cons (re_var 0) ra_nil)) (re_one (re_chain op_le (c2_I _) op_le (c2_I _) (re_var 1) (re_var 0) (re_var 2))))))

abbrev s_is_row : Stmt := top 3
theorem sc_is_row : FnScope ["thing"] ["thing"] (defScope s_is_row) := ⟨rfl, rfl, rfl, by decide +kernel, rfl, by decide +kernel, by decide +kernel⟩
def g_is_row : FX.Env → O :=
  (gRet (fCB bIsi (fACons (fVar 0) (fACons (fTup (fACons (fC (.ty "list")) (fACons (fC (.ty "tuple")) fANil))) fANil))))
def m_is_row : List T → Rp := mkP 1 1 g_is_row
theorem ok_is_row (T : TX mg) (F : Fn0 K mg "is_row" s_is_row ["thing"])   : Cal P w K mg base "is_row" ["thing"] 1 (spP K mg m_is_row) :=
  cal_p F sc_is_row fun f cdv A outer s H E au ht hr =>
  (rss_one (rs_ret (re_callB call_isiA ca_isi T.b_isinstance (by rfl) (ra_cons (re_var 0) (ra_cons (re_tup (ra_cons (re_ty T.b_list (by rfl)) (ra_cons (re_ty T.b_tuple (by rfl)) ra_nil))) ra_nil)))))

abbrev s_is_layer : Stmt := top 10
theorem sc_is_layer : FnScope ["thing", "one"] ["thing"] (defScope s_is_layer) := ⟨rfl, rfl, rfl, by decide +kernel, rfl, by decide +kernel, by decide +kernel⟩
def g_is_layer : FX.Env → O :=
  (gSeq (gIf (fOr (fNot (fTru (fCB bIsi (fACons (fVar 0) (fACons (fC (.ty "tuple")) fANil))))) (fOr (fCmpT cEq (fVar 0) (fTup fANil)) (fNot (fTru (fCB bAll (fACons (fLc [1] (fItems (fVar 0)) (bName 1) fYes (fCall m_is_within (fACons (fVar 1) (fACons (fC (.int 0)) (fACons (fC (.int 5)) fANil))))) fANil)))))) (gRet (fC (.bl false))) gNil)
  (gRet (fBin (gCm cEq) (fCB bLen (fACons (fDc [1] (fItems (fVar 0)) (bName 1) fYes (fVar 1) (fC (.bl true))) fANil)) (fCB bLen (fACons (fVar 0) fANil)))))
def m_is_layer : List T → Rp := mkP 1 2 g_is_layer
theorem ok_is_layer (T : TX mg) (F : Fn0 K mg "is_layer" s_is_layer ["thing"]) (c_is_within : Cal P w K mg base "is_within" ["thing", "least", "most"] 2 (spP K mg m_is_within))  : Cal P w K mg base "is_layer" ["thing"] 3 (spP K mg m_is_layer) :=
  cal_p F sc_is_layer fun f cdv A outer s H E au ht hr =>
  (rss_cons (rs_if (RW.rt (rw_or (rt_not (rt_tru (re_callB call_isiA ca_isi T.b_isinstance (by rfl) (ra_cons (re_var 0) (ra_cons (re_ty T.b_tuple (by rfl)) ra_nil))))) (rw_or (rt_cmp (op_eqD hr.units) c2_eq (re_var 0) (re_tup ra_nil) (nomark _)) (rw_or1 (rt_not (rt_tru (re_callB (cr_all rfl) ca_all T.b_all (by rfl) (ra_cons (re_lc sc_is_layer.nd (ri_seq (re_var 0)) (own := [("one", 1)]) (by show BlkOk ["thing", "one"] (defScope s_is_layer) _ [("one", 1)]; exact ⟨rfl, by decide +kernel, by decide +kernel, by decide +kernel, by decide +kernel⟩) (by decide) (fun s H C cl fp => (rg_name 1 sc_is_layer.nd)) (fun s H C cl fp => rts_nil) (fun s H C cl fp => (re_callC c_is_within (LamX.takes0) (hr.mono (by decide)) (ra_cons (re_var 1) (ra_cons re_int (ra_cons (re_globI T.c_MOST_STUFF.choose_spec) ra_nil)))))) ra_nil)))))))) (rss_one (rs_ret re_bl)) rss_nil)
  (rss_one (rs_ret (re_cmp (op_eqD hr.units) c2_eq (re_callB call_lenA ca_len T.b_len (by rfl) (ra_cons (re_dc sc_is_layer.nd (ri_seq (re_var 0)) (own := [("one", 1)]) (by show BlkOk ["thing", "one"] (defScope s_is_layer) _ [("one", 1)]; exact ⟨rfl, by decide +kernel, by decide +kernel, by decide +kernel, by decide +kernel⟩) (by decide) (fun s H C cl fp => (rg_name 1 sc_is_layer.nd)) (fun s H C cl fp => rts_nil) (fun s H C cl fp => (re_var 1)) (fun s H C cl fp => re_bl)) ra_nil)) (re_callB call_lenA ca_len T.b_len (by rfl) (ra_cons (re_var 0) ra_nil)) (nomark _)))))

abbrev s_check_layers : Stmt := top 11
theorem sc_check_layers : FnScope ["layers", "index", "layer"] ["layers"] (defScope s_check_layers) := ⟨rfl, rfl, rfl, by decide +kernel, rfl, by decide +kernel, by decide +kernel⟩
def g_check_layers : FX.Env → O :=
  (gSeq (gIf (fOr (fNot (fTru (fCall m_is_row (fACons (fVar 0) fANil)))) (fCmpT (cI fun i j => decide (j < i)) (fCB bLen (fACons (fVar 0) fANil)) (fC (.int 200)))) (gRaise "BadStuffs" (fACons (fNeg (fC (.int 1))) fANil)) gNil)
  (gFor (fEnum (fACons (fVar 0) fANil)) (bTup 2 (bCons (bName 1) (bCons (bName 2) bNil))) (gIf (fNot (fTru (fCall m_is_layer (fACons (fVar 2) fANil)))) (gRaise "BadStuffs" (fACons (fVar 1) fANil)) gNil)))
def m_check_layers : List T → Rp := mkP 1 3 g_check_layers
theorem ok_check_layers (T : TX mg) (F : Fn0 K mg "check_layers" s_check_layers ["layers"]) (c_is_row : Cal P w K mg base "is_row" ["thing"] 1 (spP K mg m_is_row)) (c_is_layer : Cal P w K mg base "is_layer" ["thing"] 3 (spP K mg m_is_layer)) (X_BadStuffs : Exc1 P w K mg base "BadStuffs") : Cal P w K mg base "check_layers" ["layers"] 4 (spP K mg m_check_layers) :=
  cal_p F sc_check_layers fun f cdv A outer s H E au ht hr =>
  (rss_cons (rs_if (RW.rt (rw_or (rt_not (rt_tru (re_callC c_is_row (takes_of rfl rfl rfl rfl) (hr.mono (by decide)) (ra_cons (re_var 0) ra_nil)))) (rw_or1 (rt_cmp op_gt (c2_I _) (re_callB call_lenA ca_len T.b_len (by rfl) (ra_cons (re_var 0) ra_nil)) (re_globI T.c_MOST_LAYERS.choose_spec) (nomark _))))) (rss_one (rs_raiseC X_BadStuffs (takes_of rfl rfl rfl rfl) (hr.mono (by decide)) (ra_cons (re_neg re_int) ra_nil))) rss_nil)
  (rss_one (rs_for (ri_enum T.b_enumerate (ra_cons (re_var 0) ra_nil)) (rg_tup (rgs_cons (rg_name 1 sc_check_layers.nd) (rgs_cons (rg_name 2 sc_check_layers.nd) rgs_nil))) (rss_one (rs_if (rt_not (rt_tru (re_callC c_is_layer (takes_of rfl rfl rfl rfl) (hr.mono (by decide)) (ra_cons (re_var 2) ra_nil)))) (rss_one (rs_raiseC X_BadStuffs (takes_of rfl rfl rfl rfl) (hr.mono (by decide)) (ra_cons (re_var 1) ra_nil))) rss_nil)) (passes_of rfl))))

abbrev s_told_swaps : Stmt := top 12
theorem sc_told_swaps : FnScope ["orders", "found", "last", "order", "stuff"] ["orders"] (defScope s_told_swaps) := ⟨rfl, rfl, rfl, by decide +kernel, rfl, by decide +kernel, by decide +kernel⟩
def g_told_swaps : FX.Env → O :=
  (gSeq (gSet 1 (fC (.int 0)))
  (gSeq (gSet 2 (fC .non))
  (gSeq (gFor (fItems (fVar 0)) (bName 3) (gFor (fItems (fVar 3)) (bName 4) (gSeq (gAug 1 gA (fIf (fCmpT cIn (fVar 2) (fTup (fACons (fC .non) (fACons (fVar 4) fANil)))) (fC (.int 0)) (fC (.int 1))))
  (gSet 2 (fVar 4)))))
  (gRet (fVar 1)))))
def m_told_swaps : List T → Rp := mkP 1 5 g_told_swaps
theorem ok_told_swaps (T : TX mg) (F : Fn0 K mg "told_swaps" s_told_swaps ["orders"])   : Cal P w K mg base "told_swaps" ["orders"] 1 (spP K mg m_told_swaps) :=
  cal_p F sc_told_swaps fun f cdv A outer s H E au ht hr =>
  (rss_cons (rs_set 1 sc_told_swaps.nd re_int)
  (rss_cons (rs_set 2 sc_told_swaps.nd re_non)
  (rss_cons (rs_for (ri_seq (re_var 0)) (rg_name 3 sc_told_swaps.nd) (rss_one (rs_for (ri_seq (re_var 3)) (rg_name 4 sc_told_swaps.nd) (rss_cons (rs_augAdd 1 sc_told_swaps.nd (re_if (rt_cmp (op_inA hr (FX.Room.u65 hr)) c2_in (re_var 2) (re_tup (ra_cons re_non (ra_cons (re_var 4) ra_nil))) (by with_unfolding_all rfl)) re_int re_int))
  (rss_one (rs_set 2 sc_told_swaps.nd (re_var 4)))) (passes_of rfl))) (passes_of rfl))
  (rss_one (rs_ret (re_var 1))))))

abbrev s_swaps_of : Stmt := top 13
theorem sc_swaps_of : FnScope ["orders"] ["orders"] (defScope s_swaps_of) := ⟨rfl, rfl, rfl, by decide +kernel, rfl, by decide +kernel, by decide +kernel⟩
def g_swaps_of : FX.Env → O :=
  (gSeq (gDrop (fCall m_check_layers (fACons (fVar 0) fANil)))
  (gRet (fCall m_told_swaps (fACons (fVar 0) fANil))))
def m_swaps_of : List T → Rp := mkP 1 1 g_swaps_of
theorem ok_swaps_of (T : TX mg) (F : Fn0 K mg "swaps_of" s_swaps_of ["orders"]) (c_check_layers : Cal P w K mg base "check_layers" ["layers"] 4 (spP K mg m_check_layers)) (c_told_swaps : Cal P w K mg base "told_swaps" ["orders"] 1 (spP K mg m_told_swaps))  : Cal P w K mg base "swaps_of" ["orders"] 5 (spP K mg m_swaps_of) :=
  cal_p F sc_swaps_of fun f cdv A outer s H E au ht hr =>
  (rss_cons (rs_expr (re_callC c_check_layers (takes_of rfl rfl rfl rfl) (hr.mono (by decide)) (ra_cons (re_var 0) ra_nil)))
  (rss_one (rs_ret (re_callC c_told_swaps (takes_of rfl rfl rfl rfl) (hr.mono (by decide)) (ra_cons (re_var 0) ra_nil)))))

abbrev s_first_ones : Stmt := top 14
theorem sc_first_ones : FnScope ["layer", "last", "one"] ["layer", "last"] (defScope s_first_ones) := ⟨rfl, rfl, rfl, by decide +kernel, rfl, by decide +kernel, by decide +kernel⟩
def g_first_ones : FX.Env → O :=
  (gRet (fLc [2] (fItems (fVar 0)) (bName 2) (fOr (fCmpT cNe (fVar 2) (fVar 1)) (fCmpT cEq (fCB bLen (fACons (fVar 0) fANil)) (fC (.int 1)))) (fVar 2)))
def m_first_ones : List T → Rp := mkP 2 3 g_first_ones
theorem ok_first_ones (T : TX mg) (F : Fn0 K mg "first_ones" s_first_ones ["layer", "last"])   : Cal P w K mg base "first_ones" ["layer", "last"] 1 (spP K mg m_first_ones) :=
  cal_p F sc_first_ones fun f cdv A outer s H E au ht hr =>
  (rss_one (rs_ret (re_lc sc_first_ones.nd (ri_seq (re_var 0)) (own := [("one", 2)]) (by show BlkOk ["layer", "last", "one"] (defScope s_first_ones) _ [("one", 2)]; exact ⟨rfl, by decide +kernel, by decide +kernel, by decide +kernel, by decide +kernel⟩) (by decide) (fun s H C cl fp => (rg_name 2 sc_first_ones.nd)) (fun s H C cl fp => (rts_one (RW.rt (rw_or (rt_cmp (op_neD hr.units) c2_ne (re_var 2) (re_var 1) (nomark _)) (rw_or1 (rt_cmp (op_eqD hr.units) c2_eq (re_callB call_lenA ca_len T.b_len (by rfl) (ra_cons (re_var 0) ra_nil)) re_int (nomark _))))))) (fun s H C cl fp => (re_var 2)))))

abbrev s_rest_costs : Stmt := top 15
theorem sc_rest_costs : FnScope ["layers", "costs", "stuff", "layer", "later", "here", "before", "some", "last", "begins", "one"] ["layers"] (defScope s_rest_costs) := ⟨rfl, rfl, rfl, by decide +kernel, rfl, by decide +kernel, by decide +kernel⟩
def g_rest_costs : FX.Env → O :=
  (gSeq (gSet 1 (fLst (fACons (fDc [2] (fRange2 (fACons (fNeg (fC (.int 1))) (fACons (fBin aAdd (fC (.int 5)) (fC (.int 1))) fANil))) (bName 2) fYes (fVar 2) (fC (.int 0))) fANil)))
  (gSeq (gFor (fItems (fRev (fVar 0))) (bName 3) (gSeq (gSet 4 (fBin aIx (fVar 1) (fNeg (fC (.int 1)))))
  (gSeq (gSet 5 fDK)
  (gSeq (gFor (fRange2 (fACons (fNeg (fC (.int 1))) (fACons (fBin aAdd (fC (.int 5)) (fC (.int 1))) fANil))) (bName 6) (gSeq (gSet 7 (fLst fANil))
  (gSeq (gFor (fItems (fVar 3)) (bName 8) (gSeq (gSet 9 (fLc [10] (fItems (fCall m_first_ones (fACons (fVar 3) (fACons (fVar 8) fANil)))) (bName 10) fYes (fIf (fOr (fCmpT cEq (fVar 10) (fVar 6)) (fCmpT cLt (fVar 6) (fC (.int 0)))) (fC (.int 0)) (fC (.int 1)))))
  (gDrop (gd isL 7 (fMut 7 mAppend (fACons (fBin aAdd (fBin aSub (fBin aAdd (fCB bMin (fACons (fVar 9) fANil)) (fCB bLen (fACons (fVar 3) fANil))) (fC (.int 1))) (fBin aIx (fVar 4) (fVar 8))) fANil))))))
  (gStore stD 5 (fCB bMin (fACons (fVar 7) fANil)) (fVar 6)))))
  (gDrop (gd isL 1 (fMut 1 mAppend (fACons (fVar 5) fANil))))))))
  (gRet (fRev (fVar 1)))))
def m_rest_costs : List T → Rp := mkP 1 11 g_rest_costs
theorem ok_rest_costs (T : TX mg) (F : Fn0 K mg "rest_costs" s_rest_costs ["layers"]) (c_first_ones : Cal P w K mg base "first_ones" ["layer", "last"] 1 (spP K mg m_first_ones))  : Cal P w K mg base "rest_costs" ["layers"] 2 (spP K mg m_rest_costs) :=
  cal_p F sc_rest_costs fun f cdv A outer s H E au ht hr =>
  (rss_cons (rs_set 1 sc_rest_costs.nd (re_lst (ra_cons (re_dc sc_rest_costs.nd (ri_range2 T.b_range (ra_cons (re_neg re_int) (ra_cons (re_add (re_globI T.c_MOST_STUFF.choose_spec) re_int) ra_nil))) (own := [("stuff", 2)]) (by show BlkOk ["layers", "costs", "stuff", "layer", "later", "here", "before", "some", "last", "begins", "one"] (defScope s_rest_costs) _ [("stuff", 2)]; exact ⟨rfl, by decide +kernel, by decide +kernel, by decide +kernel, by decide +kernel⟩) (by decide) (fun s H C cl fp => (rg_name 2 sc_rest_costs.nd)) (fun s H C cl fp => rts_nil) (fun s H C cl fp => (re_var 2)) (fun s H C cl fp => re_int)) ra_nil)))
  (rss_cons (rs_for (ri_seq (re_rev (re_var 0))) (rg_name 3 sc_rest_costs.nd) (rss_cons (rs_set 4 sc_rest_costs.nd (re_ix hr (re_var 1) (re_neg re_int)))
  (rss_cons (rs_set 5 sc_rest_costs.nd re_dK)
  (rss_cons (rs_for (ri_range2 T.b_range (ra_cons (re_neg re_int) (ra_cons (re_add (re_globI T.c_MOST_STUFF.choose_spec) re_int) ra_nil))) (rg_name 6 sc_rest_costs.nd) (rss_cons (rs_set 7 sc_rest_costs.nd (re_lst ra_nil))
  (rss_cons (rs_for (ri_seq (re_var 3)) (rg_name 8 sc_rest_costs.nd) (rss_cons (rs_setLc 9 sc_rest_costs.nd (by rfl) (ri_seq (re_callC c_first_ones (takes_of rfl rfl rfl rfl) (hr.mono (by decide)) (ra_cons (re_var 3) (ra_cons (re_var 8) ra_nil)))) (own := [("one", 10)]) (by show BlkOk ["layers", "costs", "stuff", "layer", "later", "here", "before", "some", "last", "begins", "one"] (defScope s_rest_costs) _ [("one", 10)]; exact ⟨rfl, by decide +kernel, by decide +kernel, by decide +kernel, by decide +kernel⟩) (by decide) (fun s H C cl fp => (rg_name 10 sc_rest_costs.nd)) (fun s H C cl fp => rts_nil) (fun s H C cl fp => (re_if (RW.rt (rw_or (rt_cmp (op_eqD hr.units) c2_eq (re_var 10) (re_var 6) (nomark _)) (rw_or1 (rt_cmp (op_ltA hr) c2_lt (re_var 6) re_int (nomark _))))) re_int re_int)))
  (rss_one (rs_expr (re_lmut 7 PySem.F.slot_list_append PySem.F.type_list_append mt_append mu_append (ra_cons (re_add (re_sub (re_add (re_callB (call_minA hr rfl) ca_min T.b_min (by rfl) (ra_cons (re_var 9) ra_nil)) (re_callB call_lenA ca_len T.b_len (by rfl) (ra_cons (re_var 3) ra_nil))) re_int) (re_ix hr (re_var 4) (re_var 8))) ra_nil))))) (passes_of rfl))
  (rss_one (rs_storeD 5 hr (re_callB (call_minA hr rfl) ca_min T.b_min (by rfl) (ra_cons (re_var 7) ra_nil)) (re_var 6))))) (passes_of rfl))
  (rss_one (rs_expr (re_lmut 1 PySem.F.slot_list_append PySem.F.type_list_append mt_append mu_append (ra_cons (re_var 5) ra_nil))))))) (passes_of rfl))
  (rss_one (rs_ret (re_rev (re_var 1))))))

abbrev s_least_order : Stmt := top 16
theorem sc_least_order : FnScope ["layer", "before", "later", "best", "last", "rest", "one", "first", "order", "cost"] ["layer", "before", "later"] (defScope s_least_order) := ⟨rfl, rfl, rfl, by decide +kernel, rfl, by decide +kernel, by decide +kernel⟩
def g_least_order : FX.Env → O :=
  (gSeq (gSet 3 (fC .non))
  (gSeq (gFor (fItems (fVar 0)) (bName 4) (gSeq (gSet 5 (fCB bSorted (fACons (fLc [6] (fItems (fVar 0)) (bName 6) (fCmpT cNe (fVar 6) (fVar 4)) (fVar 6)) fANil)))
  (gFor (fItems (fCall m_first_ones (fACons (fVar 0) (fACons (fVar 4) fANil)))) (bName 7) (gSeq (gSet 8 (fIf (fCmpT (cI fun i j => decide (j < i)) (fCB bLen (fACons (fVar 0) fANil)) (fC (.int 1))) (fTup (fACons (fVar 7) (fAStar (fLc [6] (fItems (fVar 5)) (bName 6) (fCmpT cNe (fVar 6) (fVar 7)) (fVar 6)) (fACons (fVar 4) fANil)))) (fVar 0)))
  (gSeq (gSet 9 (fBin aAdd (fBin aSub (fBin aAdd (fIf (fOr (fCmpT cEq (fVar 7) (fVar 1)) (fCmpT cLt (fVar 1) (fC (.int 0)))) (fC (.int 0)) (fC (.int 1))) (fCB bLen (fACons (fVar 0) fANil))) (fC (.int 1))) (fBin aIx (fVar 2) (fVar 4))))
  (gIf (fOr (fCmpT cIsN (fVar 3) (fC .non)) (fCmpT cLt (fTup (fACons (fVar 9) (fACons (fVar 8) fANil))) (fVar 3))) (gSet 3 (fTup (fACons (fVar 9) (fACons (fVar 8) fANil)))) gNil))))))
  (gRet (fBin aIx (fVar 3) (fC (.int 1))))))
def m_least_order : List T → Rp := mkP 3 10 g_least_order
theorem ok_least_order (T : TX mg) (F : Fn0 K mg "least_order" s_least_order ["layer", "before", "later"]) (c_first_ones : Cal P w K mg base "first_ones" ["layer", "last"] 1 (spP K mg m_first_ones))  : Cal P w K mg base "least_order" ["layer", "before", "later"] 2 (spP K mg m_least_order) :=
  cal_p F sc_least_order fun f cdv A outer s H E au ht hr =>
  (rss_cons (rs_set 3 sc_least_order.nd re_non)
  (rss_cons (rs_for (ri_seq (re_var 0)) (rg_name 4 sc_least_order.nd) (rss_cons (rs_set 5 sc_least_order.nd (re_callB (cr_sortedD hr) ca_sorted T.b_sorted (by rfl) (ra_cons (re_lc sc_least_order.nd (ri_seq (re_var 0)) (own := [("one", 6)]) (by show BlkOk ["layer", "before", "later", "best", "last", "rest", "one", "first", "order", "cost"] (defScope s_least_order) _ [("one", 6)]; exact ⟨rfl, by decide +kernel, by decide +kernel, by decide +kernel, by decide +kernel⟩) (by decide) (fun s H C cl fp => (rg_name 6 sc_least_order.nd)) (fun s H C cl fp => (rts_one (rt_cmp (op_neD hr.units) c2_ne (re_var 6) (re_var 4) (nomark _)))) (fun s H C cl fp => (re_var 6))) ra_nil)))
  (rss_one (rs_for (ri_seq (re_callC c_first_ones (takes_of rfl rfl rfl rfl) (hr.mono (by decide)) (ra_cons (re_var 0) (ra_cons (re_var 4) ra_nil)))) (rg_name 7 sc_least_order.nd) (rss_cons (rs_set 8 sc_least_order.nd (re_if (rt_cmp op_gt (c2_I _) (re_callB call_lenA ca_len T.b_len (by rfl) (ra_cons (re_var 0) ra_nil)) re_int (nomark _)) (re_tup (ra_cons (re_var 7) (ra_star (re_lc sc_least_order.nd (ri_seq (re_var 5)) (own := [("one", 6)]) (by show BlkOk ["layer", "before", "later", "best", "last", "rest", "one", "first", "order", "cost"] (defScope s_least_order) _ [("one", 6)]; exact ⟨rfl, by decide +kernel, by decide +kernel, by decide +kernel, by decide +kernel⟩) (by decide) (fun s H C cl fp => (rg_name 6 sc_least_order.nd)) (fun s H C cl fp => (rts_one (rt_cmp (op_neD hr.units) c2_ne (re_var 6) (re_var 7) (nomark _)))) (fun s H C cl fp => (re_var 6))) (ra_cons (re_var 4) ra_nil)))) (re_var 0)))
  (rss_cons (rs_set 9 sc_least_order.nd (re_add (re_sub (re_add (re_if (RW.rt (rw_or (rt_cmp (op_eqD hr.units) c2_eq (re_var 7) (re_var 1) (nomark _)) (rw_or1 (rt_cmp (op_ltA hr) c2_lt (re_var 1) re_int (nomark _))))) re_int re_int) (re_callB call_lenA ca_len T.b_len (by rfl) (ra_cons (re_var 0) ra_nil))) re_int) (re_ix hr (re_var 2) (re_var 4))))
  (rss_one (rs_if (RW.rt (rw_or (rt_cmp op_isN c2_isN (re_var 3) re_non (nomark _)) (rw_or1 (rt_cmp (op_ltA hr) c2_lt (re_tup (ra_cons (re_var 9) (ra_cons (re_var 8) ra_nil))) (re_var 3) (nomark _))))) (rss_one (rs_set 3 sc_least_order.nd (re_tup (ra_cons (re_var 9) (ra_cons (re_var 8) ra_nil))))) rss_nil)))) (passes_of rfl)))) (passes_of rfl))
  (rss_one (rs_ret (re_ix hr (re_var 3) re_int)))))

abbrev s_fewest_swaps : Stmt := top 17
theorem sc_fewest_swaps : FnScope ["layers", "costs", "orders", "before", "place", "layer"] ["layers"] (defScope s_fewest_swaps) := ⟨rfl, rfl, rfl, by decide +kernel, rfl, by decide +kernel, by decide +kernel⟩
def g_fewest_swaps : FX.Env → O :=
  (gSeq (gDrop (fCall m_check_layers (fACons (fVar 0) fANil)))
  (gSeq (gSet 1 (fCall m_rest_costs (fACons (fVar 0) fANil)))
  (gSeq (gSet 2 (fLst fANil))
  (gSeq (gSet 3 (fNeg (fC (.int 1))))
  (gSeq (gFor (fEnum (fACons (fVar 0) fANil)) (bTup 2 (bCons (bName 4) (bCons (bName 5) bNil))) (gSeq (gDrop (gd isL 2 (fMut 2 mAppend (fACons (fCall m_least_order (fACons (fVar 5) (fACons (fVar 3) (fACons (fBin aIx (fVar 1) (fBin aAdd (fVar 4) (fC (.int 1)))) fANil)))) fANil))))
  (gSet 3 (fBin aIx (fBin aIx (fVar 2) (fNeg (fC (.int 1)))) (fNeg (fC (.int 1)))))))
  (gRet (fTup (fACons (fCall m_told_swaps (fACons (fVar 2) fANil)) (fACons (fCB bTuple (fACons (fVar 2) fANil)) fANil)))))))))
def m_fewest_swaps : List T → Rp := mkP 1 6 g_fewest_swaps
theorem ok_fewest_swaps (T : TX mg) (F : Fn0 K mg "fewest_swaps" s_fewest_swaps ["layers"]) (c_check_layers : Cal P w K mg base "check_layers" ["layers"] 4 (spP K mg m_check_layers)) (c_rest_costs : Cal P w K mg base "rest_costs" ["layers"] 2 (spP K mg m_rest_costs)) (c_told_swaps : Cal P w K mg base "told_swaps" ["orders"] 1 (spP K mg m_told_swaps)) (c_least_order : Cal P w K mg base "least_order" ["layer", "before", "later"] 2 (spP K mg m_least_order))  : Cal P w K mg base "fewest_swaps" ["layers"] 5 (spP K mg m_fewest_swaps) :=
  cal_p F sc_fewest_swaps fun f cdv A outer s H E au ht hr =>
  (rss_cons (rs_expr (re_callC c_check_layers (takes_of rfl rfl rfl rfl) (hr.mono (by decide)) (ra_cons (re_var 0) ra_nil)))
  (rss_cons (rs_set 1 sc_fewest_swaps.nd (re_callC c_rest_costs (takes_of rfl rfl rfl rfl) (hr.mono (by decide)) (ra_cons (re_var 0) ra_nil)))
  (rss_cons (rs_set 2 sc_fewest_swaps.nd (re_lst ra_nil))
  (rss_cons (rs_set 3 sc_fewest_swaps.nd (re_neg re_int))
  (rss_cons (rs_for (ri_enum T.b_enumerate (ra_cons (re_var 0) ra_nil)) (rg_tup (rgs_cons (rg_name 4 sc_fewest_swaps.nd) (rgs_cons (rg_name 5 sc_fewest_swaps.nd) rgs_nil))) (rss_cons (rs_expr (re_lmut 2 PySem.F.slot_list_append PySem.F.type_list_append mt_append mu_append (ra_cons (re_callC c_least_order (takes_of rfl rfl rfl rfl) (hr.mono (by decide)) (ra_cons (re_var 5) (ra_cons (re_var 3) (ra_cons (re_ix hr (re_var 1) (re_add (re_var 4) re_int)) ra_nil)))) ra_nil)))
  (rss_one (rs_set 3 sc_fewest_swaps.nd (re_ix hr (re_ix hr (re_var 2) (re_neg re_int)) (re_neg re_int))))) (passes_of rfl))
  (rss_one (rs_ret (re_tup (ra_cons (re_callC c_told_swaps (takes_of rfl rfl rfl rfl) (hr.mono (by decide)) (ra_cons (re_var 2) ra_nil)) (ra_cons (re_callTy call_tuple_of ca_tuple T.b_tuple (by rfl) (ra_cons (re_var 2) ra_nil)) ra_nil))))))))))

abbrev s__law_taken : Stmt := top 19
theorem sc__law_taken : FnScope ["row", "many", "found", "cell"] ["row", "many"] (defScope s__law_taken) := ⟨rfl, rfl, rfl, by decide +kernel, rfl, by decide +kernel, by decide +kernel⟩
def g__law_taken : FX.Env → O :=
  (gSeq (gIf (fCmpT (cI fun i j => decide (j < i)) (fBin aIx (fVar 0) (fC (.int 3))) (fC (.int 0))) (gSeq (gSet 2 (fBin aMod (fCB bInt (fACons (fBin aIx (fVar 0) (fC (.int 3))) fANil)) (fVar 1)))
  (gSeq (gStore stL 0 (fBin aDiv (fBin aIx (fVar 0) (fC (.int 3))) (fVar 1)) (fC (.int 3)))
  (gRet (fVar 2)))) gNil)
  (gSeq (gStore stL 0 (fBin aAdd (fBin aIx (fVar 0) (fC (.int 1))) (fC (.int 1))) (fC (.int 1)))
  (gSeq (gIf (fCmpT (cI fun i j => decide (j < i)) (fBin aIx (fVar 0) (fC (.int 1))) (fCB bLen (fACons (fBin aIx (fVar 0) (fC (.int 0))) fANil))) (gSeq (gStore stL 0 (fBin aMod (fCB bInt (fACons (fBin aAdd (fBin aMul (fBin aIx (fVar 0) (fC (.int 2))) (fC (.int 48271))) (fC (.int 11))) fANil)) (fC (.int 2147483647))) (fC (.int 2)))
  (gRet (fBin aMod (fCB bInt (fACons (fBin aDiv (fBin aIx (fVar 0) (fC (.int 2))) (fC (.int 7))) fANil)) (fVar 1)))) gNil)
  (gSeq (gSet 3 (fBin aIx (fBin aIx (fVar 0) (fC (.int 0))) (fBin aSub (fBin aIx (fVar 0) (fC (.int 1))) (fC (.int 1)))))
  (gSeq (gStore stL 0 (fBin aMod (fCB bInt (fACons (fBin aAdd (fBin aAdd (fBin aMul (fBin aIx (fVar 0) (fC (.int 2))) (fC (.int 48271))) (fVar 3)) (fC (.int 11))) fANil)) (fC (.int 2147483647))) (fC (.int 2)))
  (gSeq (gIf (fCmpT (cI fun i j => decide (j ≤ i)) (fVar 3) (fBin aPow (fC (.int 10)) (fC (.int 18)))) (gStore stL 0 (fBin aDiv (fVar 3) (fVar 1)) (fC (.int 3))) gNil)
  (gRet (fBin aMod (fCB bInt (fACons (fVar 3) fANil)) (fVar 1)))))))))
def m__law_taken : T → List T → RpM := mkM 1 4 g__law_taken
theorem ok__law_taken (T : TX mg) (F : Fn0 K mg "_law_taken" s__law_taken ["row", "many"])   : Cal P w K mg base "_law_taken" ["row", "many"] 1 (spM K mg m__law_taken) :=
  cal_m (n := 1) F sc__law_taken rfl fun f cdv A outer s H E au ht hr =>
  (rss_cons (rs_if (rt_cmp op_gt (c2_I _) (re_ix hr (re_var 0) re_int) re_int (nomark _)) (rss_cons (rs_set 2 sc__law_taken.nd (re_mod (re_callTy call_int1 ca_int T.b_int (by rfl) (ra_cons (re_ix hr (re_var 0) re_int) ra_nil)) (re_var 1)))
  (rss_cons (rs_storeL 0 (re_div (re_ix hr (re_var 0) re_int) (re_var 1)) re_int)
  (rss_one (rs_ret (re_var 2))))) rss_nil)
  (rss_cons (rs_storeL 0 (re_add (re_ix hr (re_var 0) re_int) re_int) re_int)
  (rss_cons (rs_if (rt_cmp op_gt (c2_I _) (re_ix hr (re_var 0) re_int) (re_callB call_lenA ca_len T.b_len (by rfl) (ra_cons (re_ix hr (re_var 0) re_int) ra_nil)) (nomark _)) (rss_cons (rs_storeL 0 (re_mod (re_callTy call_int1 ca_int T.b_int (by rfl) (ra_cons (re_add (re_mul (re_ix hr (re_var 0) re_int) re_int) re_int) ra_nil)) re_int) re_int)
  (rss_one (rs_ret (re_mod (re_callTy call_int1 ca_int T.b_int (by rfl) (ra_cons (re_div (re_ix hr (re_var 0) re_int) re_int) ra_nil)) (re_var 1))))) rss_nil)
  (rss_cons (rs_set 3 sc__law_taken.nd (re_ix hr (re_ix hr (re_var 0) re_int) (re_sub (re_ix hr (re_var 0) re_int) re_int)))
  (rss_cons (rs_storeL 0 (re_mod (re_callTy call_int1 ca_int T.b_int (by rfl) (ra_cons (re_add (re_add (re_mul (re_ix hr (re_var 0) re_int) re_int) (re_var 3)) re_int) ra_nil)) re_int) re_int)
  (rss_cons (rs_if (rt_cmp op_ge (c2_I _) (re_var 3) (re_pow re_int re_int) (nomark _)) (rss_one (rs_storeL 0 (re_div (re_var 3) (re_var 1)) re_int)) rss_nil)
  (rss_one (rs_ret (re_mod (re_callTy call_int1 ca_int T.b_int (by rfl) (ra_cons (re_var 3) ra_nil)) (re_var 1))))))))))

abbrev s__law_pick : Stmt := top 20
theorem sc__law_pick : FnScope ["row", "some"] ["row", "some"] (defScope s__law_pick) := ⟨rfl, rfl, rfl, by decide +kernel, rfl, by decide +kernel, by decide +kernel⟩
def g__law_pick : FX.Env → O :=
  (gRet (fBin aIx (fVar 1) (fCallM m__law_taken (fACons (fVar 0) (fACons (fCB bLen (fACons (fVar 1) fANil)) fANil)))))
def m__law_pick : T → List T → RpM := mkM 1 2 g__law_pick
theorem ok__law_pick (T : TX mg) (F : Fn0 K mg "_law_pick" s__law_pick ["row", "some"]) (c__law_taken : Cal P w K mg base "_law_taken" ["row", "many"] 1 (spM K mg m__law_taken))  : Cal P w K mg base "_law_pick" ["row", "some"] 2 (spM K mg m__law_pick) :=
  cal_m (n := 1) F sc__law_pick rfl fun f cdv A outer s H E au ht hr =>
  (rss_one (rs_ret (re_ix hr (re_var 1) (re_callMC c__law_taken (takes_of rfl rfl rfl rfl) (hr.mono (by decide)) (ra_cons (re_var 0) (ra_cons (re_callB call_lenA ca_len T.b_len (by rfl) (ra_cons (re_var 1) ra_nil)) ra_nil))))))

abbrev s__law_alike : Stmt := top 21
theorem sc__law_alike : FnScope ["found", "due", "k", "key"] ["found", "due"] (defScope s__law_alike) := ⟨rfl, rfl, rfl, by decide +kernel, rfl, by decide +kernel, by decide +kernel⟩
def g__law_alike (rec : List T → Rp) : FX.Env → O :=
  (gSeq (gIf (fTru (fCB bIsi (fACons (fVar 1) (fACons (fTup (fACons (fC (.ty "tuple")) (fACons (fC (.ty "list")) fANil))) fANil)))) (gSeq (gIf (fOr (fNot (fTru (fCB bIsi (fACons (fVar 0) (fACons (fTup (fACons (fC (.ty "tuple")) (fACons (fC (.ty "list")) fANil))) fANil))))) (fCmpT cNe (fCB bIsi (fACons (fVar 0) (fACons (fC (.ty "list")) fANil))) (fCB bIsi (fACons (fVar 1) (fACons (fC (.ty "list")) fANil))))) (gRet (fC (.bl false))) gNil)
  (gSeq (gIf (fCmpT cNe (fCB bLen (fACons (fVar 0) fANil)) (fCB bLen (fACons (fVar 1) fANil))) (gRet (fC (.bl false))) gNil)
  (gRet (fBin (gCm cEq) (fLc [2] (fRange1 (fACons (fCB bLen (fACons (fVar 1) fANil)) fANil)) (bName 2) (fNot (fTru (fCall rec (fACons (fBin aIx (fVar 0) (fVar 2)) (fACons (fBin aIx (fVar 1) (fVar 2)) fANil))))) (fVar 2)) (fLst fANil))))) gNil)
  (gSeq (gIf (fTru (fCB bIsi (fACons (fVar 1) (fACons (fC (.ty "dict")) fANil)))) (gSeq (fun _ => .stuck)
  (fun _ => .stuck)) gNil)
  (gSeq (gIf (fOr (fCmpT cIsN (fVar 1) (fC .non)) (fTru (fCB bIsi (fACons (fVar 1) (fACons (fC (.ty "str")) fANil))))) (gRet (fAndV (fBin (gCm cEq) (fVar 0) (fVar 1)) (fBin (gCm cEq) (fCB bIsi (fACons (fVar 0) (fACons (fC (.ty "str")) fANil))) (fCB bIsi (fACons (fVar 1) (fACons (fC (.ty "str")) fANil)))))) gNil)
  (gRet (fAndV (fCB bIsi (fACons (fVar 0) (fACons (fC (.ty "int")) fANil))) (fAndV (fBin (gCm cEq) (fCB bIsi (fACons (fVar 0) (fACons (fC (.ty "bool")) fANil))) (fCB bIsi (fACons (fVar 1) (fACons (fC (.ty "bool")) fANil)))) (fBin (gCm cEq) (fVar 0) (fVar 1))))))))
def m__law_alike : Nat → List T → Rp
  | 0 => fun _ => .stuck
  | n + 1 => mkP 2 4 (g__law_alike (m__law_alike n))
theorem ok__law_alike (T : TX mg) (F : Fn0 K mg "_law_alike" s__law_alike ["found", "due"])   : ∀ n, Cal P w K mg base "_law_alike" ["found", "due"] (1 + n) (spP K mg (m__law_alike n))
  | 0 => by
    obtain ⟨f, fd, h⟩ := cal_no (P := P) (w := w) (base := base) F sc__law_alike
    exact ⟨f, fd, h.1.mono (by omega), h.2⟩
  | n + 1 => by
    have c_rec := ok__law_alike T F   n
    exact cal_p F sc__law_alike fun f cdv A outer s H E au ht hr =>
  (rss_cons (rs_if (rt_tru (re_callB call_isiA ca_isi T.b_isinstance (by rfl) (ra_cons (re_var 1) (ra_cons (re_tup (ra_cons (re_ty T.b_tuple (by rfl)) (ra_cons (re_ty T.b_list (by rfl)) ra_nil))) ra_nil)))) (rss_cons (rs_if (RW.rt (rw_or (rt_not (rt_tru (re_callB call_isiA ca_isi T.b_isinstance (by rfl) (ra_cons (re_var 0) (ra_cons (re_tup (ra_cons (re_ty T.b_tuple (by rfl)) (ra_cons (re_ty T.b_list (by rfl)) ra_nil))) ra_nil))))) (rw_or1 (rt_cmp (op_neD hr.units) c2_ne (re_callB call_isiA ca_isi T.b_isinstance (by rfl) (ra_cons (re_var 0) (ra_cons (re_ty T.b_list (by rfl)) ra_nil))) (re_callB call_isiA ca_isi T.b_isinstance (by rfl) (ra_cons (re_var 1) (ra_cons (re_ty T.b_list (by rfl)) ra_nil))) (nomark _))))) (rss_one (rs_ret re_bl)) rss_nil)
  (rss_cons (rs_if (rt_cmp (op_neD hr.units) c2_ne (re_callB call_lenA ca_len T.b_len (by rfl) (ra_cons (re_var 0) ra_nil)) (re_callB call_lenA ca_len T.b_len (by rfl) (ra_cons (re_var 1) ra_nil)) (nomark _)) (rss_one (rs_ret re_bl)) rss_nil)
  (rss_one (rs_ret (re_cmp (op_eqD hr.units) c2_eq (re_lc sc__law_alike.nd (ri_range1 T.b_range (ra_cons (re_callB call_lenA ca_len T.b_len (by rfl) (ra_cons (re_var 1) ra_nil)) ra_nil)) (own := [("k", 2)]) (by show BlkOk ["found", "due", "k", "key"] (defScope s__law_alike) _ [("k", 2)]; exact ⟨rfl, by decide +kernel, by decide +kernel, by decide +kernel, by decide +kernel⟩) (by decide) (fun s H C cl fp => (rg_name 2 sc__law_alike.nd)) (fun s H C cl fp => (rts_one (rt_not (rt_tru (re_callC c_rec (LamX.takes0) hr (ra_cons (re_ix hr (re_var 0) (re_var 2)) (ra_cons (re_ix hr (re_var 1) (re_var 2)) ra_nil))))))) (fun s H C cl fp => (re_var 2))) (re_lst ra_nil) (nomark _)))))) rss_nil)
  (rss_cons (rs_if (rt_tru (re_callB call_isiA ca_isi T.b_isinstance (by rfl) (ra_cons (re_var 1) (ra_cons (re_ty T.b_dict (by rfl)) ra_nil)))) (rss_cons rs_no
  (rss_one rs_no)) rss_nil)
  (rss_cons (rs_if (RW.rt (rw_or (rt_cmp op_isN c2_isN (re_var 1) re_non (nomark _)) (rw_or1 (rt_tru (re_callB call_isiA ca_isi T.b_isinstance (by rfl) (ra_cons (re_var 1) (ra_cons (re_ty T.b_str (by rfl)) ra_nil))))))) (rss_one (rs_ret (re_and (re_cmp (op_eqD hr.units) c2_eq (re_var 0) (re_var 1) (nomark _)) (re_one (re_cmp (op_eqD hr.units) c2_eq (re_callB call_isiA ca_isi T.b_isinstance (by rfl) (ra_cons (re_var 0) (ra_cons (re_ty T.b_str (by rfl)) ra_nil))) (re_callB call_isiA ca_isi T.b_isinstance (by rfl) (ra_cons (re_var 1) (ra_cons (re_ty T.b_str (by rfl)) ra_nil))) (nomark _)))))) rss_nil)
  (rss_one (rs_ret (re_and (re_callB call_isiA ca_isi T.b_isinstance (by rfl) (ra_cons (re_var 0) (ra_cons (re_ty T.b_int (by rfl)) ra_nil))) (re_and (re_cmp (op_eqD hr.units) c2_eq (re_callB call_isiA ca_isi T.b_isinstance (by rfl) (ra_cons (re_var 0) (ra_cons (re_ty T.b_bool (by rfl)) ra_nil))) (re_callB call_isiA ca_isi T.b_isinstance (by rfl) (ra_cons (re_var 1) (ra_cons (re_ty T.b_bool (by rfl)) ra_nil))) (nomark _)) (re_one (re_cmp (op_eqD hr.units) c2_eq (re_var 0) (re_var 1) (nomark _))))))))))

abbrev s__law_orders : Stmt := top 22
theorem sc__law_orders : FnScope ["layer", "found", "stuff", "longer", "one", "at"] ["layer"] (defScope s__law_orders) := ⟨rfl, rfl, rfl, by decide +kernel, rfl, by decide +kernel, by decide +kernel⟩
def g__law_orders : FX.Env → O :=
  (gSeq (gSet 1 (fLst (fACons (fTup fANil) fANil)))
  (gSeq (gFor (fItems (fVar 0)) (bName 2) (gSeq (gSet 3 (fLst fANil))
  (gSeq (gFor (fItems (fVar 1)) (bName 4) (gSet 3 (fBin aAdd (fVar 3) (fLc [5] (fRange1 (fACons (fBin aAdd (fCB bLen (fACons (fVar 4) fANil)) (fC (.int 1))) fANil)) (bName 5) fYes (fBin aAdd (fBin aAdd (fCut (fVar 4) fNone (fSome (fVar 5))) (fTup (fACons (fVar 2) fANil))) (fCut (fVar 4) (fSome (fVar 5)) fNone))))))
  (gSet 1 (fVar 3)))))
  (gRet (fCB bSorted (fACons (fVar 1) fANil)))))
def m__law_orders : List T → Rp := mkP 1 6 g__law_orders
theorem ok__law_orders (T : TX mg) (F : Fn0 K mg "_law_orders" s__law_orders ["layer"])   : Cal P w K mg base "_law_orders" ["layer"] 1 (spP K mg m__law_orders) :=
  cal_p F sc__law_orders fun f cdv A outer s H E au ht hr =>
  (rss_cons (rs_set 1 sc__law_orders.nd (re_lst (ra_cons (re_tup ra_nil) ra_nil)))
  (rss_cons (rs_for (ri_seq (re_var 0)) (rg_name 2 sc__law_orders.nd) (rss_cons (rs_set 3 sc__law_orders.nd (re_lst ra_nil))
  (rss_cons (rs_for (ri_seq (re_var 1)) (rg_name 4 sc__law_orders.nd) (rss_one (rs_set 3 sc__law_orders.nd (re_add (re_var 3) (re_lc sc__law_orders.nd (ri_range1 T.b_range (ra_cons (re_add (re_callB call_lenA ca_len T.b_len (by rfl) (ra_cons (re_var 4) ra_nil)) re_int) ra_nil)) (own := [("at", 5)]) (by show BlkOk ["layer", "found", "stuff", "longer", "one", "at"] (defScope s__law_orders) _ [("at", 5)]; exact ⟨rfl, by decide +kernel, by decide +kernel, by decide +kernel, by decide +kernel⟩) (by decide) (fun s H C cl fp => (rg_name 5 sc__law_orders.nd)) (fun s H C cl fp => rts_nil) (fun s H C cl fp => (re_add (re_add (re_cut (re_var 4) ro_none (ro_some (re_var 5))) (re_tup (ra_cons (re_var 2) ra_nil))) (re_cut (re_var 4) (ro_some (re_var 5)) ro_none))))))) (passes_of rfl))
  (rss_one (rs_set 1 sc__law_orders.nd (re_var 3))))) (passes_of rfl))
  (rss_one (rs_ret (re_callB (cr_sortedD hr) ca_sorted T.b_sorted (by rfl) (ra_cons (re_var 1) ra_nil))))))

abbrev s__law_count : Stmt := top 23
theorem sc__law_count : FnScope ["orders", "whole", "order", "at"] ["orders"] (defScope s__law_count) := ⟨rfl, rfl, rfl, by decide +kernel, rfl, by decide +kernel, by decide +kernel⟩
def g__law_count : FX.Env → O :=
  (gSeq (gSet 1 (fLst fANil))
  (gSeq (gFor (fItems (fVar 0)) (bName 2) (gSet 1 (fBin aAdd (fVar 1) (fCB bList (fACons (fVar 2) fANil)))))
  (gRet (fCB bLen (fACons (fLc [3] (fRange2 (fACons (fC (.int 1)) (fACons (fCB bLen (fACons (fVar 1) fANil)) fANil))) (bName 3) (fCmpT cNe (fBin aIx (fVar 1) (fVar 3)) (fBin aIx (fVar 1) (fBin aSub (fVar 3) (fC (.int 1))))) (fVar 3)) fANil)))))
def m__law_count : List T → Rp := mkP 1 4 g__law_count
theorem ok__law_count (T : TX mg) (F : Fn0 K mg "_law_count" s__law_count ["orders"])   : Cal P w K mg base "_law_count" ["orders"] 1 (spP K mg m__law_count) :=
  cal_p F sc__law_count fun f cdv A outer s H E au ht hr =>
  (rss_cons (rs_set 1 sc__law_count.nd (re_lst ra_nil))
  (rss_cons (rs_for (ri_seq (re_var 0)) (rg_name 2 sc__law_count.nd) (rss_one (rs_set 1 sc__law_count.nd (re_add (re_var 1) (re_callTy call_list_of ca_list T.b_list (by rfl) (ra_cons (re_var 2) ra_nil))))) (passes_of rfl))
  (rss_one (rs_ret (re_callB call_lenA ca_len T.b_len (by rfl) (ra_cons (re_lc sc__law_count.nd (ri_range2 T.b_range (ra_cons re_int (ra_cons (re_callB call_lenA ca_len T.b_len (by rfl) (ra_cons (re_var 1) ra_nil)) ra_nil))) (own := [("at", 3)]) (by show BlkOk ["orders", "whole", "order", "at"] (defScope s__law_count) _ [("at", 3)]; exact ⟨rfl, by decide +kernel, by decide +kernel, by decide +kernel, by decide +kernel⟩) (by decide) (fun s H C cl fp => (rg_name 3 sc__law_count.nd)) (fun s H C cl fp => (rts_one (rt_cmp (op_neD hr.units) c2_ne (re_ix hr (re_var 1) (re_var 3)) (re_ix hr (re_var 1) (re_sub (re_var 3) re_int)) (nomark _)))) (fun s H C cl fp => (re_var 3))) ra_nil))))))

abbrev s__law_best : Stmt := top 24
theorem sc__law_best : FnScope ["layers", "found", "layer", "here", "order", "last", "cost", "ahead", "swaps", "one"] ["layers"] (defScope s__law_best) := ⟨rfl, rfl, rfl, by decide +kernel, rfl, by decide +kernel, by decide +kernel⟩
def g__law_best : FX.Env → O :=
  (gSeq (gSet 1 (fDN (fTup (fACons (fC (.int 0)) (fACons (fTup fANil) fANil)))))
  (gSeq (gFor (fItems (fVar 0)) (bName 2) (gSeq (gSet 3 fDK)
  (gSeq (gFor (fItems (fCall m__law_orders (fACons (fVar 2) fANil))) (bName 4) (gForD true 1 (bName 5) (gSeq (gAsg (bTup 2 (bCons (bName 6) (bCons (bName 7) bNil))) (fBin aIxA (fVar 1) (fVar 5)))
  (gSeq (gSet 8 (fBin aAdd (fBin aSub (fBin aAdd (fVar 6) (fCB bLen (fACons (fVar 4) fANil))) (fC (.int 1))) (fIf (fOr (fCmpT cIsN (fVar 5) (fC .non)) (fCmpT cEq (fVar 5) (fBin aIx (fVar 4) (fC (.int 0))))) (fC (.int 0)) (fC (.int 1)))))
  (gSeq (gSet 9 (fTup (fACons (fVar 8) (fACons (fBin aAdd (fVar 7) (fTup (fACons (fVar 4) fANil))) fANil))))
  (gIf (fOr (fCmpT cNotIn (fBin aIx (fVar 4) (fNeg (fC (.int 1)))) (fVar 3)) (fCmpT cLt (fVar 9) (fBin aIx (fVar 3) (fBin aIx (fVar 4) (fNeg (fC (.int 1))))))) (gStore stD 3 (fVar 9) (fBin aIx (fVar 4) (fNeg (fC (.int 1))))) gNil))))))
  (gSet 1 (fVar 3)))))
  (gRet (fCB bMin (fACons (fLcD true 1 [5] (bName 5) fYes (fBin aIxA (fVar 1) (fVar 5))) fANil)))))
def m__law_best : List T → Rp := mkP 1 10 g__law_best
theorem ok__law_best (T : TX mg) (F : Fn0 K mg "_law_best" s__law_best ["layers"]) (c__law_orders : Cal P w K mg base "_law_orders" ["layer"] 1 (spP K mg m__law_orders))  : Cal P w K mg base "_law_best" ["layers"] 2 (spP K mg m__law_best) :=
  cal_p F sc__law_best fun f cdv A outer s H E au ht hr =>
  (rss_cons (rs_set 1 sc__law_best.nd (re_dN (re_tup (ra_cons re_int (ra_cons (re_tup ra_nil) ra_nil)))))
  (rss_cons (rs_for (ri_seq (re_var 0)) (rg_name 2 sc__law_best.nd) (rss_cons (rs_set 3 sc__law_best.nd re_dK)
  (rss_cons (rs_for (ri_seq (re_callC c__law_orders (takes_of rfl rfl rfl rfl) (hr.mono (by decide)) (ra_cons (re_var 2) ra_nil))) (rg_name 4 sc__law_best.nd) (rss_one (rs_forD true 1 (fun _ => ht) (rg_name 5 sc__law_best.nd) (rss_cons (rs_asg (re_ixA hr (re_var 1) (re_var 5)) (rg_tup (rgs_cons (rg_name 6 sc__law_best.nd) (rgs_cons (rg_name 7 sc__law_best.nd) rgs_nil))))
  (rss_cons (rs_set 8 sc__law_best.nd (re_add (re_sub (re_add (re_var 6) (re_callB call_lenA ca_len T.b_len (by rfl) (ra_cons (re_var 4) ra_nil))) re_int) (re_if (RW.rt (rw_or (rt_cmp op_isN c2_isN (re_var 5) re_non (nomark _)) (rw_or1 (rt_cmp (op_eqD hr.units) c2_eq (re_var 5) (re_ix hr (re_var 4) re_int) (nomark _))))) re_int re_int)))
  (rss_cons (rs_set 9 sc__law_best.nd (re_tup (ra_cons (re_var 8) (ra_cons (re_add (re_var 7) (re_tup (ra_cons (re_var 4) ra_nil))) ra_nil))))
  (rss_one (rs_if (RW.rt (rw_or (rt_cmp (op_notInA hr (FX.Room.u65 hr)) c2_notIn (re_ix hr (re_var 4) (re_neg re_int)) (re_var 3) (by with_unfolding_all rfl)) (rw_or1 (rt_cmp (op_ltA hr) c2_lt (re_var 9) (re_ix hr (re_var 3) (re_ix hr (re_var 4) (re_neg re_int))) (nomark _))))) (rss_one (rs_storeD 3 hr (re_var 9) (re_ix hr (re_var 4) (re_neg re_int)))) rss_nil))))) (passes_of rfl))) (passes_of rfl))
  (rss_one (rs_set 1 sc__law_best.nd (re_var 3))))) (passes_of rfl))
  (rss_one (rs_ret (re_callB (call_minA hr rfl) ca_min T.b_min (by rfl) (ra_cons (re_lcD true 1 sc__law_best.nd (fun _ => ht) (own := [("last", 5)]) (by show BlkOk ["layers", "found", "layer", "here", "order", "last", "cost", "ahead", "swaps", "one"] (defScope s__law_best) _ [("last", 5)]; exact ⟨rfl, by decide +kernel, by decide +kernel, by decide +kernel, by decide +kernel⟩) (by decide) (fun s H C cl fp => (rg_name 5 sc__law_best.nd)) (fun s H C cl fp => rts_nil) (fun s H C cl fp => (re_ixA hr (re_var 1) (re_var 5)))) ra_nil))))))

abbrev s_ref : Stmt := top 25
theorem sc_ref : FnScope ["ask", "e"] ["ask"] (defScope s_ref) := ⟨rfl, rfl, rfl, by decide +kernel, rfl, by decide +kernel, by decide +kernel⟩
abbrev s_law : Stmt := top 26
theorem sc_law : FnScope ["script", "row", "layers", "k", "some", "j", "stuff", "due", "every", "layer", "longer", "one", "order", "bad", "ask"] ["script"] (defScope s_law) := ⟨rfl, rfl, rfl, by decide +kernel, rfl, by decide +kernel, by decide +kernel⟩
def g_law : FX.Env → O :=
  (gSeq (gSet 1 (fLst (fACons (fVar 0) (fACons (fC (.int 0)) (fACons (fC (.int 124)) (fACons (fC (.int 0)) fANil))))))
  (gSeq (gSet 2 (fLst fANil))
  (gSeq (gFor (fRange1 (fACons (fCallM m__law_taken (fACons (fVar 1) (fACons (fCallM m__law_pick (fACons (fVar 1) (fACons (fLst (fACons (fC (.int 3)) (fACons (fC (.int 6)) (fACons (fC (.int 9)) fANil)))) fANil))) fANil))) fANil)) (bName 3) (gSeq (gSet 4 (fLst fANil))
  (gSeq (gFor (fRange1 (fACons (fBin aAdd (fC (.int 1)) (fCallM m__law_taken (fACons (fVar 1) (fACons (fC (.int 4)) fANil)))) fANil)) (bName 5) (gSeq (gSet 6 (fCallM m__law_taken (fACons (fVar 1) (fACons (fCallM m__law_pick (fACons (fVar 1) (fACons (fLst (fACons (fC (.int 3)) (fACons (fC (.int 6)) fANil))) fANil))) fANil))))
  (gIf (fCmpT cNotIn (fVar 6) (fVar 4)) (gDrop (gd isL 4 (fMut 4 mAppend (fACons (fVar 6) fANil)))) gNil)))
  (gDrop (gd isL 2 (fMut 2 mAppend (fACons (fCB bTuple (fACons (fVar 4) fANil)) fANil)))))))
  (gSeq (gSet 7 (fCall m__law_best (fACons (fVar 2) fANil)))
  (gSeq (gIf (fOr (fNot (fTru (fCall (m__law_alike 10) (fACons (fCall m_fewest_swaps (fACons (fCB bTuple (fACons (fVar 2) fANil)) fANil)) (fACons (fVar 7) fANil))))) (fNot (fTru (fCall (m__law_alike 10) (fACons (fCall m_swaps_of (fACons (fBin aIx (fVar 7) (fC (.int 1))) fANil)) (fACons (fBin aIx (fVar 7) (fC (.int 0))) fANil)))))) (gRet (fC (.bl false))) gNil)
  (gSeq (gIf (fOr (fNot (fTru (fCall (m__law_alike 10) (fACons (fCall m_swaps_of (fACons (fVar 2) fANil)) (fACons (fCall m__law_count (fACons (fVar 2) fANil)) fANil))))) (fCmpT cLt (fCall m__law_count (fACons (fVar 2) fANil)) (fBin aIx (fVar 7) (fC (.int 0))))) (gRet (fC (.bl false))) gNil)
  (gSeq (gIf (fCmpT cLt (fCB bLen (fACons (fVar 2) fANil)) (fC (.int 4))) (gSeq (gSet 8 (fLst (fACons (fTup fANil) fANil)))
  (gSeq (gFor (fItems (fVar 2)) (bName 9) (gSeq (gSet 10 (fLst fANil))
  (gSeq (gFor (fItems (fVar 8)) (bName 11) (gSet 10 (fBin aAdd (fVar 10) (fLc [12] (fItems (fCall m__law_orders (fACons (fVar 9) fANil))) (bName 12) fYes (fBin aAdd (fVar 11) (fTup (fACons (fVar 12) fANil)))))))
  (gSet 8 (fVar 10)))))
  (gIf (fAnd (fCmpT cLt (fCB bLen (fACons (fVar 8) fANil)) (fC (.int 3000))) (fCmpT cNe (fCB bMin (fACons (fLc [11] (fItems (fVar 8)) (bName 11) fYes (fTup (fACons (fCall m__law_count (fACons (fVar 11) fANil)) (fACons (fVar 11) fANil)))) fANil)) (fVar 7))) (gRet (fC (.bl false))) gNil))) gNil)
  (gSeq (gSet 13 (fBin aAdd (fVar 2) (fLst (fACons (fCallM m__law_pick (fACons (fVar 1) (fACons (fLst (fACons (fC .non) (fACons (fTup fANil) (fACons (fTup (fACons (fC (.int 6)) fANil)) (fACons (fTup (fACons (fC (.int 1)) (fACons (fC (.int 1)) fANil))) (fACons (fLst (fACons (fC (.int 1)) fANil)) (fACons (fTup (fACons (fC (.bl true)) fANil)) (fACons (fTup (fACons (fNeg (fC (.int 1))) fANil)) fANil)))))))) fANil))) fANil))))
  (gSeq (gFor (fItems (fLst (fACons (fC (.fn "fewest_swaps")) (fACons (fC (.fn "swaps_of")) fANil)))) (bName 14) (gSeq (gIf (fCmpT cNe (fRef "BadStuffs" "" "stuffs" (fAlt (isFn 14 "fewest_swaps") (fCall m_fewest_swaps (fACons (fVar 13) fANil)) (fun ρ => if isFn 14 "swaps_of" ρ = true then fCall m_swaps_of (fACons (fVar 13) fANil) ρ else .stuck))) (fTup (fACons (fC (.str "stuffs")) (fACons (fCB bLen (fACons (fVar 2) fANil)) fANil)))) (gRet (fC (.bl false))) gNil)
  (gIf (fCmpT cNe (fRef "BadStuffs" "" "stuffs" (fAlt (isFn 14 "fewest_swaps") (fCall m_fewest_swaps (fACons (fCallM m__law_pick (fACons (fVar 1) (fACons (fLst (fACons (fC .non) (fACons (fC (.int 5)) (fACons (fBin aMul (fLst (fACons (fTup (fACons (fC (.int 1)) fANil)) fANil)) (fC (.int 201))) fANil)))) fANil))) fANil)) (fun ρ => if isFn 14 "swaps_of" ρ = true then fCall m_swaps_of (fACons (fCallM m__law_pick (fACons (fVar 1) (fACons (fLst (fACons (fC .non) (fACons (fC (.int 5)) (fACons (fBin aMul (fLst (fACons (fTup (fACons (fC (.int 1)) fANil)) fANil)) (fC (.int 201))) fANil)))) fANil))) fANil) ρ else .stuck))) (fTup (fACons (fC (.str "stuffs")) (fACons (fNeg (fC (.int 1))) fANil)))) (gRet (fC (.bl false))) gNil)))
  (gRet (fAndV (fBin (gCm cEq) (fCall m_fewest_swaps (fACons (fLst fANil) fANil)) (fTup (fACons (fC (.int 0)) (fACons (fTup fANil) fANil)))) (fBin (gCm cEq) (fCall m_fewest_swaps (fACons (fBin aMul (fLst (fACons (fTup (fACons (fC (.int 1)) (fACons (fC (.int 2)) fANil))) (fACons (fTup (fACons (fC (.int 2)) (fACons (fC (.int 1)) fANil))) fANil))) (fC (.int 100))) fANil)) (fTup (fACons (fC (.int 200)) (fACons (fBin aMul (fTup (fACons (fTup (fACons (fC (.int 1)) (fACons (fC (.int 2)) fANil))) (fACons (fTup (fACons (fC (.int 2)) (fACons (fC (.int 1)) fANil))) fANil))) (fC (.int 100))) fANil)))))))))))))))
theorem ok_law (T : TX mg) (c__law_best : Cal P w K mg base "_law_best" ["layers"] 2 (spP K mg m__law_best)) (c__law_taken : Cal P w K mg base "_law_taken" ["row", "many"] 1 (spM K mg m__law_taken)) (c__law_pick : Cal P w K mg base "_law_pick" ["row", "some"] 2 (spM K mg m__law_pick)) (c__law_alike : Cal P w K mg base "_law_alike" ["found", "due"] (1 + 10) (spP K mg (m__law_alike 10))) (c__law_count : Cal P w K mg base "_law_count" ["orders"] 1 (spP K mg m__law_count)) (c_fewest_swaps : Cal P w K mg base "fewest_swaps" ["layers"] 5 (spP K mg m_fewest_swaps)) (c_swaps_of : Cal P w K mg base "swaps_of" ["orders"] 5 (spP K mg m_swaps_of)) (c__law_orders : Cal P w K mg base "_law_orders" ["layer"] 1 (spP K mg m__law_orders)) (D_ref : RefD K mg "_law_refused" s_ref "ask" "BadStuffs") {f c P_ : Addr} {dV kV doc pm ct oc : Value} {an od : Option Addr} {osl : Array (Option Value)} (TB : LamX.TabB base mg c P_)
    (lk : K.lookup f = some ⟨oc, od, .func (PySem.W.fnOf "law" "law" (defArgs s_law) (defBody s_law) (defScope s_law) dV kV doc pm an (.ref c) ct), osl⟩) (hcd : PySem.W.codeIn K (.ref c) "law" = true)
    (hG : ∀ ns : List Int, ns.length ≤ 63 → (∀ z ∈ ns, Builtin.Int.intBits z ≤ 1048576) → ∃ ρ, g_law (startL 15 ns) = .rt (.fz (.bl true)) ρ) :
    FnOk P w K mg base (L2.CX P w) 18 f (PySem.W.fnOf "law" "law" (defArgs s_law) (defBody s_law) (defScope s_law) dV kV doc pm an (.ref c) ct) ["script"] (spLaw K [(c, P_)]) :=
  law_ok (k := 17) lk hcd sc_law (fun A outer s H E au ht hr =>
  have hmT : (P_, (("law" : Str) ++ ".<locals>.") ++ "<lambda>") ∈ au.tb := by rw [ht]; exact List.mem_cons_self
  have huT : ∀ p ∈ au.tb, p.1 = P_ → p.2 = (("law" : Str) ++ ".<locals>.") ++ "<lambda>" := by rw [ht]; intro p hp _; exact congrArg Prod.snd (List.mem_singleton.mp hp)
  (rss_cons (rs_set 1 sc_law.nd (re_lst (ra_cons (re_var 0) (ra_cons re_int (ra_cons re_int (ra_cons re_int ra_nil))))))
  (rss_cons (rs_set 2 sc_law.nd (re_lst ra_nil))
  (rss_cons (rs_for (ri_range1 T.b_range (ra_cons (re_callMC c__law_taken (takes_of rfl rfl rfl rfl) (hr.mono (by decide)) (ra_cons (re_var 1) (ra_cons (re_callMC c__law_pick (takes_of rfl rfl rfl rfl) (hr.mono (by decide)) (ra_cons (re_var 1) (ra_cons (re_lst (ra_cons re_int (ra_cons re_int (ra_cons re_int ra_nil)))) ra_nil))) ra_nil))) ra_nil)) (rg_name 3 sc_law.nd) (rss_cons (rs_set 4 sc_law.nd (re_lst ra_nil))
  (rss_cons (rs_for (ri_range1 T.b_range (ra_cons (re_add re_int (re_callMC c__law_taken (takes_of rfl rfl rfl rfl) (hr.mono (by decide)) (ra_cons (re_var 1) (ra_cons re_int ra_nil)))) ra_nil)) (rg_name 5 sc_law.nd) (rss_cons (rs_set 6 sc_law.nd (re_callMC c__law_taken (takes_of rfl rfl rfl rfl) (hr.mono (by decide)) (ra_cons (re_var 1) (ra_cons (re_callMC c__law_pick (takes_of rfl rfl rfl rfl) (hr.mono (by decide)) (ra_cons (re_var 1) (ra_cons (re_lst (ra_cons re_int (ra_cons re_int ra_nil))) ra_nil))) ra_nil))))
  (rss_one (rs_if (rt_cmp (op_notInA hr (FX.Room.u65 hr)) c2_notIn (re_var 6) (re_var 4) (by with_unfolding_all rfl)) (rss_one (rs_expr (re_lmut 4 PySem.F.slot_list_append PySem.F.type_list_append mt_append mu_append (ra_cons (re_var 6) ra_nil)))) rss_nil))) (passes_of rfl))
  (rss_one (rs_expr (re_lmut 2 PySem.F.slot_list_append PySem.F.type_list_append mt_append mu_append (ra_cons (re_callTy call_tuple_of ca_tuple T.b_tuple (by rfl) (ra_cons (re_var 4) ra_nil)) ra_nil)))))) (passes_of rfl))
  (rss_cons (rs_set 7 sc_law.nd (re_callC c__law_best (takes_of rfl rfl rfl rfl) (hr.mono (by decide)) (ra_cons (re_var 2) ra_nil)))
  (rss_cons (rs_if (RW.rt (rw_or (rt_not (rt_tru (re_callC c__law_alike (takes_of rfl rfl rfl rfl) (hr.mono (by first | decide | omega)) (ra_cons (re_callC c_fewest_swaps (takes_of rfl rfl rfl rfl) (hr.mono (by decide)) (ra_cons (re_callTy call_tuple_of ca_tuple T.b_tuple (by rfl) (ra_cons (re_var 2) ra_nil)) ra_nil)) (ra_cons (re_var 7) ra_nil))))) (rw_or1 (rt_not (rt_tru (re_callC c__law_alike (takes_of rfl rfl rfl rfl) (hr.mono (by first | decide | omega)) (ra_cons (re_callC c_swaps_of (takes_of rfl rfl rfl rfl) (hr.mono (by decide)) (ra_cons (re_ix hr (re_var 7) re_int) ra_nil)) (ra_cons (re_ix hr (re_var 7) re_int) ra_nil)))))))) (rss_one (rs_ret re_bl)) rss_nil)
  (rss_cons (rs_if (RW.rt (rw_or (rt_not (rt_tru (re_callC c__law_alike (takes_of rfl rfl rfl rfl) (hr.mono (by first | decide | omega)) (ra_cons (re_callC c_swaps_of (takes_of rfl rfl rfl rfl) (hr.mono (by decide)) (ra_cons (re_var 2) ra_nil)) (ra_cons (re_callC c__law_count (takes_of rfl rfl rfl rfl) (hr.mono (by decide)) (ra_cons (re_var 2) ra_nil)) ra_nil))))) (rw_or1 (rt_cmp (op_ltA hr) c2_lt (re_callC c__law_count (takes_of rfl rfl rfl rfl) (hr.mono (by decide)) (ra_cons (re_var 2) ra_nil)) (re_ix hr (re_var 7) re_int) (nomark _))))) (rss_one (rs_ret re_bl)) rss_nil)
  (rss_cons (rs_if (rt_cmp (op_ltA hr) c2_lt (re_callB call_lenA ca_len T.b_len (by rfl) (ra_cons (re_var 2) ra_nil)) re_int (nomark _)) (rss_cons (rs_set 8 sc_law.nd (re_lst (ra_cons (re_tup ra_nil) ra_nil)))
  (rss_cons (rs_for (ri_seq (re_var 2)) (rg_name 9 sc_law.nd) (rss_cons (rs_set 10 sc_law.nd (re_lst ra_nil))
  (rss_cons (rs_for (ri_seq (re_var 8)) (rg_name 11 sc_law.nd) (rss_one (rs_set 10 sc_law.nd (re_add (re_var 10) (re_lc sc_law.nd (ri_seq (re_callC c__law_orders (takes_of rfl rfl rfl rfl) (hr.mono (by decide)) (ra_cons (re_var 9) ra_nil))) (own := [("order", 12)]) (by show BlkOk ["script", "row", "layers", "k", "some", "j", "stuff", "due", "every", "layer", "longer", "one", "order", "bad", "ask"] (defScope s_law) _ [("order", 12)]; exact ⟨rfl, by decide +kernel, by decide +kernel, by decide +kernel, by decide +kernel⟩) (by decide) (fun s H C cl fp => (rg_name 12 sc_law.nd)) (fun s H C cl fp => rts_nil) (fun s H C cl fp => (re_add (re_var 11) (re_tup (ra_cons (re_var 12) ra_nil)))))))) (passes_of rfl))
  (rss_one (rs_set 8 sc_law.nd (re_var 10))))) (passes_of rfl))
  (rss_one (rs_if (RW.rt (rw_and (rt_cmp (op_ltA hr) c2_lt (re_callB call_lenA ca_len T.b_len (by rfl) (ra_cons (re_var 8) ra_nil)) re_int (nomark _)) (rw_and1 (rt_cmp (op_neD hr.units) c2_ne (re_callB (call_minA hr rfl) ca_min T.b_min (by rfl) (ra_cons (re_lc sc_law.nd (ri_seq (re_var 8)) (own := [("one", 11)]) (by show BlkOk ["script", "row", "layers", "k", "some", "j", "stuff", "due", "every", "layer", "longer", "one", "order", "bad", "ask"] (defScope s_law) _ [("one", 11)]; exact ⟨rfl, by decide +kernel, by decide +kernel, by decide +kernel, by decide +kernel⟩) (by decide) (fun s H C cl fp => (rg_name 11 sc_law.nd)) (fun s H C cl fp => rts_nil) (fun s H C cl fp => (re_tup (ra_cons (re_callC c__law_count (LamX.takes0) (hr.mono (by decide)) (ra_cons (re_var 11) ra_nil)) (ra_cons (re_var 11) ra_nil))))) ra_nil)) (re_var 7) (nomark _))))) (rss_one (rs_ret re_bl)) rss_nil)))) rss_nil)
  (rss_cons (rs_set 13 sc_law.nd (re_add (re_var 2) (re_lst (ra_cons (re_callMC c__law_pick (takes_of rfl rfl rfl rfl) (hr.mono (by decide)) (ra_cons (re_var 1) (ra_cons (re_lst (ra_cons re_non (ra_cons (re_tup ra_nil) (ra_cons (re_tup (ra_cons re_int ra_nil)) (ra_cons (re_tup (ra_cons re_int (ra_cons re_int ra_nil))) (ra_cons (re_lst (ra_cons re_int ra_nil)) (ra_cons (re_tup (ra_cons re_bl ra_nil)) (ra_cons (re_tup (ra_cons (re_neg re_int) ra_nil)) ra_nil)))))))) ra_nil))) ra_nil))))
  (rss_cons (rs_for (ri_seq (re_lst (ra_cons (re_globF T.f_fewest_swaps.choose_spec) (ra_cons (re_globF T.f_swaps_of.choose_spec) ra_nil)))) (rg_name 14 sc_law.nd) (rss_cons (rs_if (rt_cmp (op_neD hr.units) c2_ne (re_ref (k := 5) (a := "ask") (n := "e") (cn := "BadStuffs") (w0 := "") (w1 := "stuffs") D_ref sc_ref rfl (by rfl) (by rfl) (by rfl) TB rfl hmT huT (hr.mono (by decide)) (by refine LamX.lamS_by ?_; show LamX.lamSB (defScope s_law) _ = true; decide +kernel) (fun A outer s H E f c_ hr => (re_alt (re_callL 14 c_fewest_swaps (takes_of rfl rfl rfl rfl) (hr.mono (by decide)) (ra_cons (re_var 13) ra_nil)) (re_callL 14 c_swaps_of (takes_of rfl rfl rfl rfl) (hr.mono (by decide)) (ra_cons (re_var 13) ra_nil))))) (re_tup (ra_cons re_str (ra_cons (re_callB call_lenA ca_len T.b_len (by rfl) (ra_cons (re_var 2) ra_nil)) ra_nil))) (nomark _)) (rss_one (rs_ret re_bl)) rss_nil)
  (rss_one (rs_if (rt_cmp (op_neD hr.units) c2_ne (re_ref (k := 5) (a := "ask") (n := "e") (cn := "BadStuffs") (w0 := "") (w1 := "stuffs") D_ref sc_ref rfl (by rfl) (by rfl) (by rfl) TB rfl hmT huT (hr.mono (by decide)) (by refine LamX.lamS_by ?_; show LamX.lamSB (defScope s_law) _ = true; decide +kernel) (fun A outer s H E f c_ hr => (re_alt (re_callL 14 c_fewest_swaps (takes_of rfl rfl rfl rfl) (hr.mono (by decide)) (ra_cons (re_callMC c__law_pick (takes_of rfl rfl rfl rfl) (hr.mono (by decide)) (ra_cons (re_var 1) (ra_cons (re_lst (ra_cons re_non (ra_cons re_int (ra_cons (re_mul (re_lst (ra_cons (re_tup (ra_cons re_int ra_nil)) ra_nil)) re_int) ra_nil)))) ra_nil))) ra_nil)) (re_callL 14 c_swaps_of (takes_of rfl rfl rfl rfl) (hr.mono (by decide)) (ra_cons (re_callMC c__law_pick (takes_of rfl rfl rfl rfl) (hr.mono (by decide)) (ra_cons (re_var 1) (ra_cons (re_lst (ra_cons re_non (ra_cons re_int (ra_cons (re_mul (re_lst (ra_cons (re_tup (ra_cons re_int ra_nil)) ra_nil)) re_int) ra_nil)))) ra_nil))) ra_nil))))) (re_tup (ra_cons re_str (ra_cons (re_neg re_int) ra_nil))) (nomark _)) (rss_one (rs_ret re_bl)) rss_nil))) (passes_of rfl))
  (rss_one (rs_ret (re_and (re_cmp (op_eqD hr.units) c2_eq (re_callC c_fewest_swaps (takes_of rfl rfl rfl rfl) (hr.mono (by decide)) (ra_cons (re_lst ra_nil) ra_nil)) (re_tup (ra_cons re_int (ra_cons (re_tup ra_nil) ra_nil))) (nomark _)) (re_one (re_cmp (op_eqD hr.units) c2_eq (re_callC c_fewest_swaps (takes_of rfl rfl rfl rfl) (hr.mono (by decide)) (ra_cons (re_mul (re_lst (ra_cons (re_tup (ra_cons re_int (ra_cons re_int ra_nil))) (ra_cons (re_tup (ra_cons re_int (ra_cons re_int ra_nil))) ra_nil))) re_int) ra_nil)) (re_tup (ra_cons re_int (ra_cons (re_mul (re_tup (ra_cons (re_tup (ra_cons re_int (ra_cons re_int ra_nil))) (ra_cons (re_tup (ra_cons re_int (ra_cons re_int ra_nil))) ra_nil))) re_int) ra_nil))) (nomark _)))))))))))))))) hG

end
end K24
end

section
set_option Elab.async false
set_option linter.all false
set_option maxRecDepth 100000
set_option maxHeartbeats 4000000
namespace K24
open PySem PySem.Spec PyProof.Rows L2 FX
theorem is_int (i : Int) : m_is_integer [.int i] = .ok (.fz (.bl true)) := rfl
theorem lay1 : m_is_layer [.non] = .ok (.fz (.bl false)) := rfl
theorem lay2 : m_is_layer [.tup []] = .ok (.fz (.bl false)) := rfl
theorem lay3 : m_is_layer [.tup [.int 6]] = .ok (.fz (.bl false)) := rfl
theorem lay4 : m_is_layer [.tup [.int 1, .int 1]] = .ok (.fz (.bl false)) := rfl
theorem lay5 : m_is_layer [.lst [.int 1]] = .ok (.fz (.bl false)) := rfl
theorem lay6 : m_is_layer [.tup [.bl true]] = .ok (.fz (.bl false)) := rfl
theorem lay7 : m_is_layer [.tup [.int (-1)]] = .ok (.fz (.bl false)) := rfl
theorem chk1 : m_check_layers [.non] = .err ⟨"BadStuffs", [("value", .int (-1))]⟩ := rfl
theorem chk2 : m_check_layers [.int 5] = .err ⟨"BadStuffs", [("value", .int (-1))]⟩ := rfl
theorem within {i : Int} (h0 : 0 ≤ i) (h5 : i ≤ 5) : m_is_within [.int i, .int 0, .int 5] = .ok (.fz (.bl true)) := by
  have e : m_is_within [.int i, .int 0, .int 5] = endP (R.o ((match some (decide ((0 : Int) ≤ i)) with | some true => R.ofB (some (decide (i ≤ 5))) (startP 3 3 [T.int i, .int 0, .int 5]) | some false => R.ok false (startP 3 3 [T.int i, .int 0, .int 5]) | none => R.stuck).map fun b => Vl.fz (.bl b)) fun v ρ => .rt v ρ) := rfl
  rw [e]
  simp [h0, h5, R.ofB, R.o, R.map, endP]
/-- a layer's tuple -/
def tI (l : List Int) : T := .tup (l.map .int)
structure Lay (l : List Int) : Prop where
  ne : l ≠ []
  nd : l.Nodup
  lo : ∀ i ∈ l, 0 ≤ i ∧ i ≤ 5
theorem lcL_map {vs : List Nat} {b : T → FX.Env → Option FX.Env} {ft : FX.Env → R Bool} {fe : FX.Env → R Vl} {h : T → T} {ρ : FX.Env} : ∀ (ts acc : List T), (∀ t ∈ ts, ∃ ρ1, b t (wipeE ρ vs) = some ρ1 ∧ ft ρ1 = .ok true ρ1 ∧ (fe ρ1).norm = .ok (.fz (h t)) ρ1 ∧ backE ρ vs ρ1 = ρ) → acc.length + ts.length ≤ 1000000 → lcL vs b ft fe ts acc ρ = .ok (acc ++ ts.map h) ρ
  | [], acc, _, _ => by simp [lcL]
  | t :: ts, acc, H, hl => by
    obtain ⟨ρ1, e1, e2, e3, e4⟩ := H t List.mem_cons_self
    have hl' : acc.length + (ts.length + 1) ≤ 1000000 := hl
    have := lcL_map (h := h) ts (acc ++ [h t]) (fun u hu => H u (List.mem_cons_of_mem _ hu)) (by rw [List.length_append]; simp; omega)
    simp only [lcL, e1, e2, e3, esc1]
    rw [if_pos (by omega), e4, this]
    simp
theorem lcL_filt {vs : List Nat} {b : T → FX.Env → Option FX.Env} {ft : FX.Env → R Bool} {fe : FX.Env → R Vl} {h : T → T} {p : T → Bool} {ρ : FX.Env} : ∀ (ts acc : List T), (∀ t ∈ ts, ∃ ρ1, b t (wipeE ρ vs) = some ρ1 ∧ ft ρ1 = .ok (p t) ρ1 ∧ (p t = true → (fe ρ1).norm = .ok (.fz (h t)) ρ1) ∧ backE ρ vs ρ1 = ρ) → acc.length + ts.length ≤ 1000000 → lcL vs b ft fe ts acc ρ = .ok (acc ++ (ts.filter p).map h) ρ
  | [], acc, _, _ => by simp [lcL]
  | t :: ts, acc, H, hl => by
    obtain ⟨ρ1, e1, e2, e3, e4⟩ := H t List.mem_cons_self
    have hl' : acc.length + (ts.length + 1) ≤ 1000000 := hl
    simp only [lcL, e1, e2]
    cases hp : p t with
    | true =>
      have := lcL_filt (h := h) (p := p) ts (acc ++ [h t]) (fun u hu => H u (List.mem_cons_of_mem _ hu)) (by rw [List.length_append]; simp; omega)
      simp only [e3 hp, esc1]
      rw [if_pos (by omega), e4, this]
      simp [hp]
    | false =>
      have := lcL_filt (h := h) (p := p) ts acc (fun u hu => H u (List.mem_cons_of_mem _ hu)) (by omega)
      dsimp only
      rw [e4, this]
      simp [hp]
/-- a loop whose body ends in its next turn -/
theorem forL_fold {S : Type} {b : T → FX.Env → Option FX.Env} {g : FX.Env → O} (enc : S → FX.Env) (step : S → T → S) (I : S → Prop) : ∀ (ts : List T) (s : S), (∀ s t, t ∈ ts → I s → I (step s t) ∧ ∃ ρ1, b t (enc s) = some ρ1 ∧ g ρ1 = .nx (enc (step s t))) → I s → forL b g ts (enc s) = .nx (enc (ts.foldl step s))
  | [], s, _, _ => rfl
  | t :: ts, s, H, hi => by
    obtain ⟨hi', ρ1, e1, e2⟩ := H s t List.mem_cons_self hi
    simp only [forL, e1, e2, List.foldl_cons]
    exact forL_fold enc step I ts (step s t) (fun s u hu => H s u (List.mem_cons_of_mem _ hu)) hi'
theorem toDs_ints : ∀ l : List Int, toDs (l.map T.int) = some (l.map PyData.int)
  | [] => rfl
  | i :: l => by simp [toDs, T.toD, toDs_ints l]
theorem toD_tI (l : List Int) : (tI l).toD = some (.tuple (l.map .int)) := by simp [tI, T.toD, toDs_ints]
theorem cDs_ints : ∀ l : List Int, cDs (l.map T.int) = some (l.map PyData.int)
  | [] => rfl
  | i :: l => by simp [cDs, T.cD, cDs_ints l]
theorem cD_tI (l : List Int) : (tI l).cD = some (.tuple (l.map .int)) := by simp [tI, T.cD, cDs_ints]
theorem ofDs_ints : ∀ l : List Int, ofDs (l.map PyData.int) = l.map T.int
  | [] => rfl
  | i :: l => by simp [ofDs, ofD, ofDs_ints l]
theorem eqv_ints : ∀ l m : List Int, PyData.eqvAll (l.map .int) (m.map .int) = decide (l = m)
  | [], [] => rfl
  | [], j :: m => rfl
  | i :: l, [] => rfl
  | i :: l, j :: m => by
    simp only [List.map_cons, PyData.eqvAll, PyData.eqv, eqv_ints l m]
    by_cases h : i = j <;> simp [h]
theorem lay0_ints : ∀ l : List Int, PyData.canLayAll0 (l.map .int) = true
  | [] => rfl
  | i :: l => by simp [PyData.canLayAll0, PyData.canLay0, lay0_ints l]
theorem dep_ints : ∀ l : List Int, PyData.depthAll (l.map .int) = 0
  | [] => rfl
  | i :: l => by simp [PyData.depthAll, PyData.depth, dep_ints l]
def dI (l : List Int) : PyData := .tuple (l.map .int)
def dII (L : List (List Int)) : PyData := .tuple (L.map dI)
def tII (L : List (List Int)) : T := .tup (L.map tI)
theorem lay0_dI : ∀ L : List (List Int), PyData.canLayAll0 (L.map dI) = true
  | [] => rfl
  | l :: L => by simp [PyData.canLayAll0, dI, PyData.canLay0, lay0_ints, lay0_dI L]
theorem dep_dI : ∀ L : List (List Int), PyData.depthAll (L.map dI) ≤ 1
  | [] => by simp [PyData.depthAll]
  | l :: L => by
    have h := dep_dI L
    have e : PyData.depthAll ((l :: L).map dI) = max (PyData.depth (dI l)) (PyData.depthAll (L.map dI)) := by rw [List.map_cons, PyData.depthAll]
    have e2 : PyData.depth (dI l) = 1 := by unfold dI; rw [PyData.depth, dep_ints]
    rw [e, e2]; omega
theorem sh_int (i : Int) : SeqAt.shaped (.int i) = true := by simp [SeqAt.shaped, PyData.canLay0, PyData.depth]
theorem sh_dI (l : List Int) : SeqAt.shaped (dI l) = true := by simp [SeqAt.shaped, dI, PyData.canLay0, PyData.depth, lay0_ints, dep_ints]
theorem sh_dII (L : List (List Int)) : SeqAt.shaped (dII L) = true := by
  have := dep_dI L
  simp [SeqAt.shaped, dII, PyData.canLay0, PyData.depth, lay0_dI]
  omega
theorem sh_cand (c : Int) (L : List (List Int)) : SeqAt.shaped (.tuple [.int c, dII L]) = true := by
  have := dep_dI L
  simp [SeqAt.shaped, dII, PyData.canLay0, PyData.canLayAll0, PyData.depth, PyData.depthAll, lay0_dI]
  omega
theorem eqv_dI (l m : List Int) : PyData.eqv (dI l) (dI m) = decide (l = m) := by simp [dI, PyData.eqv, eqv_ints]
theorem eqv_dIs : ∀ L M : List (List Int), PyData.eqvAll (L.map dI) (M.map dI) = decide (L = M)
  | [], [] => rfl
  | [], j :: m => rfl
  | i :: l, [] => rfl
  | i :: l, j :: m => by
    simp only [List.map_cons, PyData.eqvAll, eqv_dI, eqv_dIs l m]
    by_cases h : i = j <;> simp [h]
theorem eqv_dII (L M : List (List Int)) : PyData.eqv (dII L) (dII M) = decide (L = M) := by simp [dII, PyData.eqv, eqv_dIs]
theorem toDs_tI : ∀ L : List (List Int), toDs (L.map tI) = some (L.map dI)
  | [] => rfl
  | l :: L => by simp [toDs, toD_tI, toDs_tI L, dI]
theorem toD_tII (L : List (List Int)) : (tII L).toD = some (dII L) := by simp [tII, T.toD, toDs_tI, dII]
theorem cDs_tI : ∀ L : List (List Int), cDs (L.map tI) = some (L.map dI)
  | [] => rfl
  | l :: L => by simp [cDs, cD_tI, cDs_tI L, dI]
theorem cD_tII (L : List (List Int)) : (tII L).cD = some (dII L) := by simp [tII, T.cD, cDs_tI, dII]
theorem ofD_dI (l : List Int) : ofD (dI l) = tI l := by simp [dI, ofD, ofDs_ints, tI]
theorem ofDs_dI : ∀ L : List (List Int), ofDs (L.map dI) = L.map tI
  | [] => rfl
  | l :: L => by simp [ofDs, ofD_dI, ofDs_dI L]
theorem ofD_dII (L : List (List Int)) : ofD (dII L) = tII L := by simp [dII, ofD, ofDs_dI, tII]
theorem cEq_int (i j : Int) : cEq (.int i) (.int j) = some (decide (i = j)) := by
  simp only [cEq, T.toD, sh_int, and_self, if_true, PyData.eqv]
  by_cases h : i = j <;> simp [h]
theorem cEq_tI (l m : List Int) : cEq (tI l) (tI m) = some (decide (l = m)) := by
  have h : ∀ l, SeqAt.shaped (.tuple (List.map PyData.int l)) = true := sh_dI
  simp [cEq, toD_tI, h, PyData.eqv, eqv_ints]
theorem cEq_tII (L M : List (List Int)) : cEq (tII L) (tII M) = some (decide (L = M)) := by
  simp [cEq, toD_tII, sh_dII, eqv_dII]
theorem cNe_int (i j : Int) : cNe (.int i) (.int j) = some (decide (i ≠ j)) := by simp [cNe, cEq_int]
/-! ### order -/
theorem alike_intsA : ∀ l m : List Int, PySem.W.alikeAll (l.map .int) (m.map .int) = true := PySem.W.alike_ints
theorem alike_dIs : ∀ L M : List (List Int), PySem.W.alikeAll (L.map dI) (M.map dI) = true
  | [], M => by simp [PySem.W.alikeAll]
  | l :: L, [] => by simp [PySem.W.alikeAll]
  | l :: L, m :: M => by simp [PySem.W.alikeAll, dI, PySem.W.alike, alike_intsA, alike_dIs L M]
theorem alike_dI (l m : List Int) : PySem.W.alike (dI l) (dI m) = true := by simp [dI, PySem.W.alike, alike_intsA]
theorem alike_dII (L M : List (List Int)) : PySem.W.alike (dII L) (dII M) = true := by simp [dII, PySem.W.alike, alike_dIs]
theorem lt_int (i j : Int) : PySem.W.dataLt (.int i) (.int j) = decide (i < j) := PySem.W.dataLt_int i j
theorem lt_dI (l m : List Int) : PySem.W.dataLt (dI l) (dI m) = decide (l < m) := PySem.W.dataLt_ints l m
/-! ### a layer -/
theorem cEq_tI0 (l : List Int) : cEq (tI l) (.tup []) = some (decide (l = [])) := cEq_tI l []
theorem putT_new {κ : Type} [DecidableEq κ] (acc : List (κ × T)) (k : κ) (v : T) (h : ∀ p ∈ acc, p.1 ≠ k) : putT acc k v = acc ++ [(k, v)] := by
  unfold putT
  rw [if_neg]
  simp only [List.any_eq_true, decide_eq_true_eq, not_exists, not_and]
  exact fun p hp e => h p hp e
theorem dcL_set {ρ : FX.Env} {vs : List Nat} {i : Nat} (hv : vs = [i]) (hw : ∀ t, ((wipeE ρ vs).set i (.fz t))[i]? = some (.fz t)) (hk : ∀ t, backE ρ vs ((wipeE ρ vs).set i (.fz t)) = ρ) : ∀ (l : List Int) (acc : List (Key × T)), l.Nodup → (∀ j ∈ l, ∀ p ∈ acc, p.1 ≠ .inl j) → acc.length + l.length ≤ 1000000 →
    dcL vs (bName i) fYes (fVar i) (fC (.bl true)) (l.map .int) acc ρ = .ok (acc ++ l.map fun j => ((.inl j : Key), T.bl true)) ρ
  | [], acc, _, _, _ => by simp [dcL]
  | j :: l, acc, nd, hn, hl => by
    have hl' : acc.length + (l.length + 1) ≤ 1000000 := hl
    have nd' := List.nodup_cons.mp nd
    have e1 : (fVar i ((wipeE ρ vs).set i (.fz (.int j)))).norm = .ok (.fz (.int j)) ((wipeE ρ vs).set i (.fz (.int j))) := by
      unfold fVar; rw [hw]; rfl
    have ih := dcL_set hv hw hk l (acc ++ [((.inl j : Key), T.bl true)]) nd'.2 (fun k hkl p hp => by
      rcases List.mem_append.mp hp with hp | hp
      · exact hn k (List.mem_cons_of_mem _ hkl) p hp
      · rw [List.mem_singleton.mp hp]; intro e; cases e; exact nd'.1 hkl) (by rw [List.length_append]; simp; omega)
    simp only [List.map_cons, dcL, bName, fYes, e1]
    have e2 : (fC (.bl true) ((wipeE ρ vs).set i (.fz (.int j)))).norm = .ok (.fz (.bl true)) ((wipeE ρ vs).set i (.fz (.int j))) := rfl
    simp only [e2, escs, esc1, T.key]
    rw [if_pos (by omega), putT_new acc _ _ (hn j List.mem_cons_self), hk]
    have e3 : (bName i : T → FX.Env → Option FX.Env) = fun t ρ => some (ρ.set i (.fz t)) := rfl
    first
    | (rw [ih]; simp)
    | (rw [← e3, ih]; simp)
    | (have ih' := ih; unfold bName fYes at ih'; rw [ih']; simp)
theorem allBl_true : ∀ l : List Int, allBl (l.map fun _ => T.bl true) = some (l.map fun _ => true)
  | [] => rfl
  | i :: l => by simp [allBl, allBl_true l]
theorem lay_len {l : List Int} (h : Lay l) : l.length ≤ 6 := by
  have sub : l ⊆ [0, 1, 2, 3, 4, 5] := fun i hi => by
    have := h.lo i hi
    simp only [List.mem_cons, List.not_mem_nil, or_false]
    omega
  exact h.nd.length_le_of_subset sub
theorem is_layer_ok {l : List Int} (h : Lay l) : m_is_layer [tI l] = .ok (.fz (.bl true)) := by
  have hlen := lay_len h
  have e1 : lcL [1] (bName 1) fYes (fCall m_is_within (fACons (fVar 1) (fACons (fC (.int 0)) (fACons (fC (.int 5)) fANil)))) (l.map T.int) [] [.fz (tI l), .un] = .ok (l.map fun _ => T.bl true) [.fz (tI l), .un] := by
    have := lcL_map (vs := [1]) (b := bName 1) (ft := fYes) (fe := fCall m_is_within (fACons (fVar 1) (fACons (fC (.int 0)) (fACons (fC (.int 5)) fANil)))) (h := fun _ => T.bl true) (ρ := [.fz (tI l), .un]) (l.map T.int) [] (fun t ht => by
      obtain ⟨i, hi, rfl⟩ := List.mem_map.mp ht
      refine ⟨[.fz (tI l), .fz (.int i)], rfl, rfl, ?_, rfl⟩
      have w := within (h.lo i hi).1 (h.lo i hi).2
      show R.norm ((m_is_within [.int i, .int 0, .int 5]).r _) = _
      rw [w]; rfl) (by simp; omega)
    rw [this]; simp [Function.comp_def]
  have e2 := dcL_set (ρ := [.fz (tI l), .un]) (vs := [1]) (i := 1) rfl (fun t => rfl) (fun t => rfl) l [] h.nd (by simp) (by simp; omega)
  have b1 : bIsi [tI l, .ty "tuple"] = some (.fz (.bl true)) := rfl
  have b2 : (tI l).items = some (l.map T.int) := rfl
  have b3 : bAll [.lst (l.map fun _ => T.bl true)] = some (.fz (.bl true)) := by simp [bAll, allBl_true]
  have b4 : bLen [tI l] = some (.fz (.int l.length)) := by simp [bLen, tI]
  simp only [List.nil_append] at e2
  have b5 : bLen [.dK (l.map fun j => ((.inl j : Key), T.bl true))] = some (.fz (.int l.length)) := by simp [bLen]
  show endP (g_is_layer [.fz (tI l), .un]) = _
  unfold g_is_layer
  simp only [Ev.bind_ok, Ev.bind_err, Ev.map_ok, Ev.map_err, Ev.norm_fz, Ev.norm_own, Ev.norm_bor, Ev.norm_err, Ev.of_fz, Ev.of_own, Ev.ofB_some, Ev.o_ok, Ev.o_err, Ev.after_nx, Ev.after_rt, Ev.after_er, Ev.look_fz, Ev.look_bor, Ev.looks_nil, Ev.looks_cons, Ev.look2_eq, Ev.esc1_fz, Ev.esc1_bor, Ev.escs_nil, Ev.escs_cons, Ev.ap_var, Ev.ap_c, Ev.ap_nil, Ev.ap_cons, Ev.ap_star, Ev.ap_cb, Ev.ap_bin, Ev.ap_cmp, Ev.gcm_eq, Ev.ap_tru, Ev.tru_bl, Ev.ap_and, Ev.ap_or, Ev.ap_not, Ev.ap_andv, Ev.ap_orv, Ev.ap_notv, Ev.ap_if, Ev.ap_esc, Ev.ap_tup, Ev.ap_lst, Ev.lim_eq, Ev.ap_call, Ev.r_fz, Ev.r_own, Ev.r_err, Ev.ap_v, Ev.ap_chain, Ev.ap_neg, Ev.ap_items, Ev.items_tup, Ev.items_lst, Ev.ap_yes, Ev.ap_lc, Ev.ap_dc, Ev.ap_rev, Ev.ap_dk, Ev.ap_dn, Ev.ap_none, Ev.ap_some, Ev.ap_cut, Ev.ap_enum, Ev.ap_zip, Ev.ap_range1, Ev.ap_range2, Ev.ap_callM, Ev.ownT_eq, Ev.ap_gd, Ev.ap_mut, Ev.isL_lst, Ev.app_eq, Ev.ap_seq, Ev.ap_gif, Ev.ap_set, Ev.put_fz, Ev.put_own, Ev.put_bor, Ev.ap_ret, Ev.ap_drop, Ev.ap_gnil, Ev.ap_raise, Ev.ap_for, Ev.ap_aug, Ev.ap_asg, Ev.ap_store, Ev.ap_bname, Ev.ap_bnil, Ev.ap_bcons, Ev.ap_btup, Ev.end_rt, Ev.end_own, Ev.end_nx, Ev.end_er, Ev.end_bor, Ev.vl_fz, Ev.vl_own, List.getElem?_cons_zero, List.getElem?_cons_succ, Option.bind_some, b1, b2, b4, e1, e2, b3, b5, cEq_tI0, h.ne, decide_false, Bool.not_true, Bool.false_eq_true, if_false, cEq_int, List.length_nil, Nat.zero_le, if_true, Option.map_some, decide_true]
/-! ### check_layers -/
def bChk : T → FX.Env → Option FX.Env := bTup 2 (bCons (bName 1) (bCons (bName 2) bNil))
def gChk : FX.Env → O := gIf (fNot (fTru (fCall m_is_layer (fACons (fVar 2) fANil)))) (gRaise "BadStuffs" (fACons (fVar 1) fANil)) FX.gNil
theorem chk_turn {t : T} (h : m_is_layer [t] = .ok (.fz (.bl true))) (c i : T) : gChk [.fz c, .fz i, .fz t] = .nx [.fz c, .fz i, .fz t] := by
  unfold gChk
  simp only [Ev.bind_ok, Ev.bind_err, Ev.map_ok, Ev.map_err, Ev.norm_fz, Ev.norm_own, Ev.norm_bor, Ev.norm_err, Ev.of_fz, Ev.of_own, Ev.ofB_some, Ev.o_ok, Ev.o_err, Ev.after_nx, Ev.after_rt, Ev.after_er, Ev.look_fz, Ev.look_bor, Ev.looks_nil, Ev.looks_cons, Ev.look2_eq, Ev.esc1_fz, Ev.esc1_bor, Ev.escs_nil, Ev.escs_cons, Ev.ap_var, Ev.ap_c, Ev.ap_nil, Ev.ap_cons, Ev.ap_star, Ev.ap_cb, Ev.ap_bin, Ev.ap_cmp, Ev.gcm_eq, Ev.ap_tru, Ev.tru_bl, Ev.ap_and, Ev.ap_or, Ev.ap_not, Ev.ap_andv, Ev.ap_orv, Ev.ap_notv, Ev.ap_if, Ev.ap_esc, Ev.ap_tup, Ev.ap_lst, Ev.lim_eq, Ev.ap_call, Ev.r_fz, Ev.r_own, Ev.r_err, Ev.ap_v, Ev.ap_chain, Ev.ap_neg, Ev.ap_items, Ev.items_tup, Ev.items_lst, Ev.ap_yes, Ev.ap_lc, Ev.ap_dc, Ev.ap_rev, Ev.ap_dk, Ev.ap_dn, Ev.ap_none, Ev.ap_some, Ev.ap_cut, Ev.ap_enum, Ev.ap_zip, Ev.ap_range1, Ev.ap_range2, Ev.ap_callM, Ev.ownT_eq, Ev.ap_gd, Ev.ap_mut, Ev.isL_lst, Ev.app_eq, Ev.ap_seq, Ev.ap_gif, Ev.ap_set, Ev.put_fz, Ev.put_own, Ev.put_bor, Ev.ap_ret, Ev.ap_drop, Ev.ap_gnil, Ev.ap_raise, Ev.ap_for, Ev.ap_aug, Ev.ap_asg, Ev.ap_store, Ev.ap_bname, Ev.ap_bnil, Ev.ap_bcons, Ev.ap_btup, Ev.end_rt, Ev.end_own, Ev.end_nx, Ev.end_er, Ev.end_bor, Ev.vl_fz, Ev.vl_own, List.getElem?_cons_zero, List.getElem?_cons_succ, Option.bind_some, h, Bool.not_true, Bool.false_eq_true, if_false]
theorem chk_turn0 {t : T} (h : m_is_layer [t] = .ok (.fz (.bl false))) (c i : T) : gChk [.fz c, .fz i, .fz t] = .er ⟨"BadStuffs", [("value", i)]⟩ [.fz c, .fz i, .fz t] := by
  unfold gChk
  simp only [Ev.bind_ok, Ev.bind_err, Ev.map_ok, Ev.map_err, Ev.norm_fz, Ev.norm_own, Ev.norm_bor, Ev.norm_err, Ev.of_fz, Ev.of_own, Ev.ofB_some, Ev.o_ok, Ev.o_err, Ev.after_nx, Ev.after_rt, Ev.after_er, Ev.look_fz, Ev.look_bor, Ev.looks_nil, Ev.looks_cons, Ev.look2_eq, Ev.esc1_fz, Ev.esc1_bor, Ev.escs_nil, Ev.escs_cons, Ev.ap_var, Ev.ap_c, Ev.ap_nil, Ev.ap_cons, Ev.ap_star, Ev.ap_cb, Ev.ap_bin, Ev.ap_cmp, Ev.gcm_eq, Ev.ap_tru, Ev.tru_bl, Ev.ap_and, Ev.ap_or, Ev.ap_not, Ev.ap_andv, Ev.ap_orv, Ev.ap_notv, Ev.ap_if, Ev.ap_esc, Ev.ap_tup, Ev.ap_lst, Ev.lim_eq, Ev.ap_call, Ev.r_fz, Ev.r_own, Ev.r_err, Ev.ap_v, Ev.ap_chain, Ev.ap_neg, Ev.ap_items, Ev.items_tup, Ev.items_lst, Ev.ap_yes, Ev.ap_lc, Ev.ap_dc, Ev.ap_rev, Ev.ap_dk, Ev.ap_dn, Ev.ap_none, Ev.ap_some, Ev.ap_cut, Ev.ap_enum, Ev.ap_zip, Ev.ap_range1, Ev.ap_range2, Ev.ap_callM, Ev.ownT_eq, Ev.ap_gd, Ev.ap_mut, Ev.isL_lst, Ev.app_eq, Ev.ap_seq, Ev.ap_gif, Ev.ap_set, Ev.put_fz, Ev.put_own, Ev.put_bor, Ev.ap_ret, Ev.ap_drop, Ev.ap_gnil, Ev.ap_raise, Ev.ap_for, Ev.ap_aug, Ev.ap_asg, Ev.ap_store, Ev.ap_bname, Ev.ap_bnil, Ev.ap_bcons, Ev.ap_btup, Ev.end_rt, Ev.end_own, Ev.end_nx, Ev.end_er, Ev.end_bor, Ev.vl_fz, Ev.vl_own, List.getElem?_cons_zero, List.getElem?_cons_succ, Option.bind_some, h, Bool.not_false, if_true]
theorem chk_bind (c : T) (a b : Sl) (i t : T) : bChk (.tup [i, t]) [.fz c, a, b] = some [.fz c, .fz i, .fz t] := rfl
theorem chk_loop (c : T) : ∀ (ts : List T) (k : Nat) (a b : Sl), (∀ t ∈ ts, m_is_layer [t] = .ok (.fz (.bl true))) → ∃ a' b', forL bChk gChk (enumT k ts) [.fz c, a, b] = .nx [.fz c, a', b']
  | [], k, a, b, _ => ⟨a, b, rfl⟩
  | t :: ts, k, a, b, h => by
    obtain ⟨a', b', e⟩ := chk_loop c ts (k + 1) (.fz (.int k)) (.fz t) fun u hu => h u (List.mem_cons_of_mem _ hu)
    exact ⟨a', b', by simp only [enumT, forL, chk_bind, chk_turn (h t List.mem_cons_self), e]⟩
theorem chk_loop0 (c x : T) (hx : m_is_layer [x] = .ok (.fz (.bl false))) : ∀ (ts : List T) (k : Nat) (a b : Sl), (∀ t ∈ ts, m_is_layer [t] = .ok (.fz (.bl true))) → ∃ ρ, forL bChk gChk (enumT k (ts ++ [x])) [.fz c, a, b] = .er ⟨"BadStuffs", [("value", .int ((k + ts.length : Nat) : Int))]⟩ ρ
  | [], k, a, b, _ => ⟨_, by simp only [List.nil_append, enumT, forL, chk_bind, chk_turn0 hx]; rfl⟩
  | t :: ts, k, a, b, h => by
    obtain ⟨ρ, e⟩ := chk_loop0 c x hx ts (k + 1) (.fz (.int k)) (.fz t) fun u hu => h u (List.mem_cons_of_mem _ hu)
    have : k + 1 + ts.length = k + (ts.length + 1) := by omega
    rw [this] at e
    exact ⟨ρ, by simp only [List.cons_append, enumT, forL, chk_bind, chk_turn (h t List.mem_cons_self), e, List.length_cons]⟩
/-- a list or a tuple of these -/
def Seqs (c : T) (ts : List T) : Prop := c = .lst ts ∨ c = .tup ts
theorem chk_pre {c : T} {ts : List T} (hc : Seqs c ts) (hl : ts.length ≤ 200) : m_check_layers [c] = endP (forL bChk gChk (enumT 0 ts) [.fz c, .un, .un]) := by
  have hl' : decide ((200 : Int) < ts.length) = false := by simp; omega
  rcases hc with rfl | rfl
  · have b1 : bIsi [.lst ts, .tup [.ty "list", .ty "tuple"]] = some (.fz (.bl true)) := rfl
    have r1 : m_is_row [.lst ts] = .ok (.fz (.bl true)) := rfl
    have b4 : bLen [.lst ts] = some (.fz (.int ts.length)) := rfl
    show endP (g_check_layers [.fz (.lst ts), .un, .un]) = _
    unfold g_check_layers
    simp only [Ev.bind_ok, Ev.bind_err, Ev.map_ok, Ev.map_err, Ev.norm_fz, Ev.norm_own, Ev.norm_bor, Ev.norm_err, Ev.of_fz, Ev.of_own, Ev.ofB_some, Ev.o_ok, Ev.o_err, Ev.after_nx, Ev.after_rt, Ev.after_er, Ev.look_fz, Ev.look_bor, Ev.looks_nil, Ev.looks_cons, Ev.look2_eq, Ev.esc1_fz, Ev.esc1_bor, Ev.escs_nil, Ev.escs_cons, Ev.ap_var, Ev.ap_c, Ev.ap_nil, Ev.ap_cons, Ev.ap_star, Ev.ap_cb, Ev.ap_bin, Ev.ap_cmp, Ev.gcm_eq, Ev.ap_tru, Ev.tru_bl, Ev.ap_and, Ev.ap_or, Ev.ap_not, Ev.ap_andv, Ev.ap_orv, Ev.ap_notv, Ev.ap_if, Ev.ap_esc, Ev.ap_tup, Ev.ap_lst, Ev.lim_eq, Ev.ap_call, Ev.r_fz, Ev.r_own, Ev.r_err, Ev.ap_v, Ev.ap_chain, Ev.ap_neg, Ev.ap_items, Ev.items_tup, Ev.items_lst, Ev.ap_yes, Ev.ap_lc, Ev.ap_dc, Ev.ap_rev, Ev.ap_dk, Ev.ap_dn, Ev.ap_none, Ev.ap_some, Ev.ap_cut, Ev.ap_enum, Ev.ap_zip, Ev.ap_range1, Ev.ap_range2, Ev.ap_callM, Ev.ownT_eq, Ev.ap_gd, Ev.ap_mut, Ev.isL_lst, Ev.app_eq, Ev.ap_seq, Ev.ap_gif, Ev.ap_set, Ev.put_fz, Ev.put_own, Ev.put_bor, Ev.ap_ret, Ev.ap_drop, Ev.ap_gnil, Ev.ap_raise, Ev.ap_for, Ev.ap_aug, Ev.ap_asg, Ev.ap_store, Ev.ap_bname, Ev.ap_bnil, Ev.ap_bcons, Ev.ap_btup, Ev.end_rt, Ev.end_own, Ev.end_nx, Ev.end_er, Ev.end_bor, Ev.vl_fz, Ev.vl_own, List.getElem?_cons_zero, List.getElem?_cons_succ, Option.bind_some, r1, b4, cI, hl', Bool.not_true, Bool.false_eq_true, if_false]
    rfl
  · have r1 : m_is_row [.tup ts] = .ok (.fz (.bl true)) := rfl
    have b4 : bLen [.tup ts] = some (.fz (.int ts.length)) := rfl
    show endP (g_check_layers [.fz (.tup ts), .un, .un]) = _
    unfold g_check_layers
    simp only [Ev.bind_ok, Ev.bind_err, Ev.map_ok, Ev.map_err, Ev.norm_fz, Ev.norm_own, Ev.norm_bor, Ev.norm_err, Ev.of_fz, Ev.of_own, Ev.ofB_some, Ev.o_ok, Ev.o_err, Ev.after_nx, Ev.after_rt, Ev.after_er, Ev.look_fz, Ev.look_bor, Ev.looks_nil, Ev.looks_cons, Ev.look2_eq, Ev.esc1_fz, Ev.esc1_bor, Ev.escs_nil, Ev.escs_cons, Ev.ap_var, Ev.ap_c, Ev.ap_nil, Ev.ap_cons, Ev.ap_star, Ev.ap_cb, Ev.ap_bin, Ev.ap_cmp, Ev.gcm_eq, Ev.ap_tru, Ev.tru_bl, Ev.ap_and, Ev.ap_or, Ev.ap_not, Ev.ap_andv, Ev.ap_orv, Ev.ap_notv, Ev.ap_if, Ev.ap_esc, Ev.ap_tup, Ev.ap_lst, Ev.lim_eq, Ev.ap_call, Ev.r_fz, Ev.r_own, Ev.r_err, Ev.ap_v, Ev.ap_chain, Ev.ap_neg, Ev.ap_items, Ev.items_tup, Ev.items_lst, Ev.ap_yes, Ev.ap_lc, Ev.ap_dc, Ev.ap_rev, Ev.ap_dk, Ev.ap_dn, Ev.ap_none, Ev.ap_some, Ev.ap_cut, Ev.ap_enum, Ev.ap_zip, Ev.ap_range1, Ev.ap_range2, Ev.ap_callM, Ev.ownT_eq, Ev.ap_gd, Ev.ap_mut, Ev.isL_lst, Ev.app_eq, Ev.ap_seq, Ev.ap_gif, Ev.ap_set, Ev.put_fz, Ev.put_own, Ev.put_bor, Ev.ap_ret, Ev.ap_drop, Ev.ap_gnil, Ev.ap_raise, Ev.ap_for, Ev.ap_aug, Ev.ap_asg, Ev.ap_store, Ev.ap_bname, Ev.ap_bnil, Ev.ap_bcons, Ev.ap_btup, Ev.end_rt, Ev.end_own, Ev.end_nx, Ev.end_er, Ev.end_bor, Ev.vl_fz, Ev.vl_own, List.getElem?_cons_zero, List.getElem?_cons_succ, Option.bind_some, r1, b4, cI, hl', Bool.not_true, Bool.false_eq_true, if_false]
    rfl
theorem chk_ok {c : T} {ts : List T} (hc : Seqs c ts) (hl : ts.length ≤ 200) (h : ∀ t ∈ ts, m_is_layer [t] = .ok (.fz (.bl true))) : m_check_layers [c] = .ok (.fz .non) := by
  rw [chk_pre hc hl]
  obtain ⟨a, b, e⟩ := chk_loop c ts 0 .un .un h
  rw [e]
  rfl
theorem chk_bad {c x : T} {ts : List T} (hc : Seqs c (ts ++ [x])) (hl : ts.length < 200) (h : ∀ t ∈ ts, m_is_layer [t] = .ok (.fz (.bl true))) (hx : m_is_layer [x] = .ok (.fz (.bl false))) : m_check_layers [c] = .err ⟨"BadStuffs", [("value", .int ts.length)]⟩ := by
  rw [chk_pre hc (by simp; omega)]
  obtain ⟨ρ, e⟩ := chk_loop0 c x hx ts 0 .un .un h
  rw [e, Nat.zero_add]
  rfl
/-! ### told_swaps -/
def oT : Option Int → T
  | none => .non
  | some i => .int i
theorem cIn_none (x : Int) : cIn .non (.tup [.non, .int x]) = some true := rfl
theorem cIn_some (i x : Int) : cIn (.int i) (.tup [.non, .int x]) = some (decide (i = x)) := by
  have e : cInF false (.int i) (.tup [.non, .int x]) = some (decide (i = x)) := by
    show some (inV (.int i) [.non, .int x]) = _
    by_cases h : i = x
    · subst h; simp [inV, eqV]
    · have h' : ¬ x = i := fun z => h z.symm
      simp [inV, eqV, h, h']
  show orB (cInF false) _ (.int i) (.tup [.non, .int x]) = _
  unfold orB
  rw [e]
def tstep (s : Int × Option Int) (x : Int) : Int × Option Int := (s.1 + (if s.2 = none ∨ s.2 = some x then 0 else 1), some x)
def told (L : List (List Int)) : Int := (L.flatten.foldl tstep (0, none)).1
def gTold1 : FX.Env → O := gSeq (gAug 1 gA (fIf (fCmpT cIn (fVar 2) (fTup (fACons (fC .non) (fACons (fVar 4) fANil)))) (fC (.int 0)) (fC (.int 1)))) (gSet 2 (fVar 4))
theorem told_turn (c a : T) (s : Int × Option Int) (x : Int) : gTold1 [.fz c, .fz (.int s.1), .fz (oT s.2), .fz a, .fz (.int x)] = .nx [.fz c, .fz (.int (tstep s x).1), .fz (oT (tstep s x).2), .fz a, .fz (.int x)] := by
  obtain ⟨n, l⟩ := s
  cases l with
  | none =>
    unfold gTold1
    simp only [Ev.bind_ok, Ev.bind_err, Ev.map_ok, Ev.map_err, Ev.norm_fz, Ev.norm_own, Ev.norm_bor, Ev.norm_err, Ev.of_fz, Ev.of_own, Ev.ofB_some, Ev.o_ok, Ev.o_err, Ev.after_nx, Ev.after_rt, Ev.after_er, Ev.look_fz, Ev.look_bor, Ev.looks_nil, Ev.looks_cons, Ev.look2_eq, Ev.esc1_fz, Ev.esc1_bor, Ev.escs_nil, Ev.escs_cons, Ev.ap_var, Ev.ap_c, Ev.ap_nil, Ev.ap_cons, Ev.ap_star, Ev.ap_cb, Ev.ap_bin, Ev.ap_cmp, Ev.gcm_eq, Ev.ap_tru, Ev.tru_bl, Ev.ap_and, Ev.ap_or, Ev.ap_not, Ev.ap_andv, Ev.ap_orv, Ev.ap_notv, Ev.ap_if, Ev.ap_esc, Ev.ap_tup, Ev.ap_lst, Ev.lim_eq, Ev.ap_call, Ev.r_fz, Ev.r_own, Ev.r_err, Ev.ap_v, Ev.ap_chain, Ev.ap_neg, Ev.ap_items, Ev.items_tup, Ev.items_lst, Ev.ap_yes, Ev.ap_lc, Ev.ap_dc, Ev.ap_rev, Ev.ap_dk, Ev.ap_dn, Ev.ap_none, Ev.ap_some, Ev.ap_cut, Ev.ap_enum, Ev.ap_zip, Ev.ap_range1, Ev.ap_range2, Ev.ap_callM, Ev.ownT_eq, Ev.ap_gd, Ev.ap_mut, Ev.isL_lst, Ev.app_eq, Ev.ap_seq, Ev.ap_gif, Ev.ap_set, Ev.put_fz, Ev.put_own, Ev.put_bor, Ev.ap_ret, Ev.ap_drop, Ev.ap_gnil, Ev.ap_raise, Ev.ap_for, Ev.ap_aug, Ev.ap_asg, Ev.ap_store, Ev.ap_bname, Ev.ap_bnil, Ev.ap_bcons, Ev.ap_btup, Ev.end_rt, Ev.end_own, Ev.end_nx, Ev.end_er, Ev.end_bor, Ev.vl_fz, Ev.vl_own, oT, List.getElem?_cons_zero, List.getElem?_cons_succ, cIn_none, List.length_cons, List.length_nil, Nat.reduceAdd, Nat.reduceLeDiff, if_true, Option.bind_some, gA, List.set_cons_zero, List.set_cons_succ]
    simp [tstep]
  | some i =>
    unfold gTold1
    simp only [Ev.bind_ok, Ev.bind_err, Ev.map_ok, Ev.map_err, Ev.norm_fz, Ev.norm_own, Ev.norm_bor, Ev.norm_err, Ev.of_fz, Ev.of_own, Ev.ofB_some, Ev.o_ok, Ev.o_err, Ev.after_nx, Ev.after_rt, Ev.after_er, Ev.look_fz, Ev.look_bor, Ev.looks_nil, Ev.looks_cons, Ev.look2_eq, Ev.esc1_fz, Ev.esc1_bor, Ev.escs_nil, Ev.escs_cons, Ev.ap_var, Ev.ap_c, Ev.ap_nil, Ev.ap_cons, Ev.ap_star, Ev.ap_cb, Ev.ap_bin, Ev.ap_cmp, Ev.gcm_eq, Ev.ap_tru, Ev.tru_bl, Ev.ap_and, Ev.ap_or, Ev.ap_not, Ev.ap_andv, Ev.ap_orv, Ev.ap_notv, Ev.ap_if, Ev.ap_esc, Ev.ap_tup, Ev.ap_lst, Ev.lim_eq, Ev.ap_call, Ev.r_fz, Ev.r_own, Ev.r_err, Ev.ap_v, Ev.ap_chain, Ev.ap_neg, Ev.ap_items, Ev.items_tup, Ev.items_lst, Ev.ap_yes, Ev.ap_lc, Ev.ap_dc, Ev.ap_rev, Ev.ap_dk, Ev.ap_dn, Ev.ap_none, Ev.ap_some, Ev.ap_cut, Ev.ap_enum, Ev.ap_zip, Ev.ap_range1, Ev.ap_range2, Ev.ap_callM, Ev.ownT_eq, Ev.ap_gd, Ev.ap_mut, Ev.isL_lst, Ev.app_eq, Ev.ap_seq, Ev.ap_gif, Ev.ap_set, Ev.put_fz, Ev.put_own, Ev.put_bor, Ev.ap_ret, Ev.ap_drop, Ev.ap_gnil, Ev.ap_raise, Ev.ap_for, Ev.ap_aug, Ev.ap_asg, Ev.ap_store, Ev.ap_bname, Ev.ap_bnil, Ev.ap_bcons, Ev.ap_btup, Ev.end_rt, Ev.end_own, Ev.end_nx, Ev.end_er, Ev.end_bor, Ev.vl_fz, Ev.vl_own, oT, List.getElem?_cons_zero, List.getElem?_cons_succ, cIn_some, List.length_cons, List.length_nil, Nat.reduceAdd, Nat.reduceLeDiff, if_true]
    by_cases h : i = x
    · simp only [h, decide_true, if_true, Ev.bind_ok, Ev.bind_err, Ev.map_ok, Ev.map_err, Ev.norm_fz, Ev.norm_own, Ev.norm_bor, Ev.norm_err, Ev.of_fz, Ev.of_own, Ev.ofB_some, Ev.o_ok, Ev.o_err, Ev.after_nx, Ev.after_rt, Ev.after_er, Ev.look_fz, Ev.look_bor, Ev.looks_nil, Ev.looks_cons, Ev.look2_eq, Ev.esc1_fz, Ev.esc1_bor, Ev.escs_nil, Ev.escs_cons, Ev.ap_var, Ev.ap_c, Ev.ap_nil, Ev.ap_cons, Ev.ap_star, Ev.ap_cb, Ev.ap_bin, Ev.ap_cmp, Ev.gcm_eq, Ev.ap_tru, Ev.tru_bl, Ev.ap_and, Ev.ap_or, Ev.ap_not, Ev.ap_andv, Ev.ap_orv, Ev.ap_notv, Ev.ap_if, Ev.ap_esc, Ev.ap_tup, Ev.ap_lst, Ev.lim_eq, Ev.ap_call, Ev.r_fz, Ev.r_own, Ev.r_err, Ev.ap_v, Ev.ap_chain, Ev.ap_neg, Ev.ap_items, Ev.items_tup, Ev.items_lst, Ev.ap_yes, Ev.ap_lc, Ev.ap_dc, Ev.ap_rev, Ev.ap_dk, Ev.ap_dn, Ev.ap_none, Ev.ap_some, Ev.ap_cut, Ev.ap_enum, Ev.ap_zip, Ev.ap_range1, Ev.ap_range2, Ev.ap_callM, Ev.ownT_eq, Ev.ap_gd, Ev.ap_mut, Ev.isL_lst, Ev.app_eq, Ev.ap_seq, Ev.ap_gif, Ev.ap_set, Ev.put_fz, Ev.put_own, Ev.put_bor, Ev.ap_ret, Ev.ap_drop, Ev.ap_gnil, Ev.ap_raise, Ev.ap_for, Ev.ap_aug, Ev.ap_asg, Ev.ap_store, Ev.ap_bname, Ev.ap_bnil, Ev.ap_bcons, Ev.ap_btup, Ev.end_rt, Ev.end_own, Ev.end_nx, Ev.end_er, Ev.end_bor, Ev.vl_fz, Ev.vl_own, List.getElem?_cons_zero, List.getElem?_cons_succ, Option.bind_some, gA, List.set_cons_zero, List.set_cons_succ]
      simp [tstep]
    · simp only [h, decide_false, Bool.false_eq_true, if_false, Ev.bind_ok, Ev.bind_err, Ev.map_ok, Ev.map_err, Ev.norm_fz, Ev.norm_own, Ev.norm_bor, Ev.norm_err, Ev.of_fz, Ev.of_own, Ev.ofB_some, Ev.o_ok, Ev.o_err, Ev.after_nx, Ev.after_rt, Ev.after_er, Ev.look_fz, Ev.look_bor, Ev.looks_nil, Ev.looks_cons, Ev.look2_eq, Ev.esc1_fz, Ev.esc1_bor, Ev.escs_nil, Ev.escs_cons, Ev.ap_var, Ev.ap_c, Ev.ap_nil, Ev.ap_cons, Ev.ap_star, Ev.ap_cb, Ev.ap_bin, Ev.ap_cmp, Ev.gcm_eq, Ev.ap_tru, Ev.tru_bl, Ev.ap_and, Ev.ap_or, Ev.ap_not, Ev.ap_andv, Ev.ap_orv, Ev.ap_notv, Ev.ap_if, Ev.ap_esc, Ev.ap_tup, Ev.ap_lst, Ev.lim_eq, Ev.ap_call, Ev.r_fz, Ev.r_own, Ev.r_err, Ev.ap_v, Ev.ap_chain, Ev.ap_neg, Ev.ap_items, Ev.items_tup, Ev.items_lst, Ev.ap_yes, Ev.ap_lc, Ev.ap_dc, Ev.ap_rev, Ev.ap_dk, Ev.ap_dn, Ev.ap_none, Ev.ap_some, Ev.ap_cut, Ev.ap_enum, Ev.ap_zip, Ev.ap_range1, Ev.ap_range2, Ev.ap_callM, Ev.ownT_eq, Ev.ap_gd, Ev.ap_mut, Ev.isL_lst, Ev.app_eq, Ev.ap_seq, Ev.ap_gif, Ev.ap_set, Ev.put_fz, Ev.put_own, Ev.put_bor, Ev.ap_ret, Ev.ap_drop, Ev.ap_gnil, Ev.ap_raise, Ev.ap_for, Ev.ap_aug, Ev.ap_asg, Ev.ap_store, Ev.ap_bname, Ev.ap_bnil, Ev.ap_bcons, Ev.ap_btup, Ev.end_rt, Ev.end_own, Ev.end_nx, Ev.end_er, Ev.end_bor, Ev.vl_fz, Ev.vl_own, List.getElem?_cons_zero, List.getElem?_cons_succ, Option.bind_some, gA, List.set_cons_zero, List.set_cons_succ]
      simp [tstep, h]
theorem told_in (c a : T) : ∀ (l : List Int) (s : Int × Option Int) (b : Sl), ∃ b', forL (bName 4) gTold1 (l.map T.int) [.fz c, .fz (.int s.1), .fz (oT s.2), .fz a, b] = .nx [.fz c, .fz (.int (l.foldl tstep s).1), .fz (oT (l.foldl tstep s).2), .fz a, b']
  | [], s, b => ⟨b, rfl⟩
  | x :: l, s, b => by
    obtain ⟨b', e⟩ := told_in c a l (tstep s x) (.fz (.int x))
    refine ⟨b', ?_⟩
    have e1 : bName 4 (.int x) [.fz c, .fz (.int s.1), .fz (oT s.2), .fz a, b] = some [.fz c, .fz (.int s.1), .fz (oT s.2), .fz a, .fz (.int x)] := rfl
    simp only [List.map_cons, forL, e1, told_turn, e, List.foldl_cons]
theorem told_out (c : T) : ∀ (L : List (List Int)) (s : Int × Option Int) (a b : Sl), ∃ a' b', forL (bName 3) (gFor (fItems (fVar 3)) (bName 4) gTold1) (L.map tI) [.fz c, .fz (.int s.1), .fz (oT s.2), a, b] = .nx [.fz c, .fz (.int (L.flatten.foldl tstep s).1), .fz (oT (L.flatten.foldl tstep s).2), a', b']
  | [], s, a, b => ⟨a, b, rfl⟩
  | l :: L, s, a, b => by
    obtain ⟨b1, e1⟩ := told_in c (tI l) l s b
    obtain ⟨a', b', e⟩ := told_out c L (l.foldl tstep s) (.fz (tI l)) b1
    refine ⟨a', b', ?_⟩
    have e0 : bName 3 (tI l) [.fz c, .fz (.int s.1), .fz (oT s.2), a, b] = some [.fz c, .fz (.int s.1), .fz (oT s.2), .fz (tI l), b] := rfl
    have e2 : gFor (fItems (fVar 3)) (bName 4) gTold1 [.fz c, .fz (.int s.1), .fz (oT s.2), .fz (tI l), b] = forL (bName 4) gTold1 (l.map T.int) [.fz c, .fz (.int s.1), .fz (oT s.2), .fz (tI l), b] := rfl
    simp only [List.map_cons, forL, e0, e2, e1, e, List.flatten_cons, List.foldl_append]
theorem told_ok {c : T} {L : List (List Int)} (hc : Seqs c (L.map tI)) : m_told_swaps [c] = .ok (.fz (.int (told L))) := by
  obtain ⟨a, b, e⟩ := told_out c L (0, none) .un .un
  have e1 : m_told_swaps [c] = endP ((forL (bName 3) (gFor (fItems (fVar 3)) (bName 4) gTold1) (L.map tI) [.fz c, .fz (.int 0), .fz .non, .un, .un]).after (gRet (fVar 1))) := by
    rcases hc with rfl | rfl <;> rfl
  rw [e1]
  have e' : forL (bName 3) (gFor (fItems (fVar 3)) (bName 4) gTold1) (L.map tI) [.fz c, .fz (.int 0), .fz .non, .un, .un] = _ := e
  rw [e']
  rfl
theorem swaps_of_ok {c : T} {L : List (List Int)} (hc : Seqs c (L.map tI)) (h : ∀ l ∈ L, Lay l) (hl : L.length ≤ 200) : m_swaps_of [c] = .ok (.fz (.int (told L))) := by
  have e1 := chk_ok hc (by simpa using hl) fun t ht => by obtain ⟨l, hl, rfl⟩ := List.mem_map.mp ht; exact is_layer_ok (h l hl)
  have e2 := told_ok hc
  show endP (g_swaps_of [.fz c]) = _
  unfold g_swaps_of
  simp only [Ev.bind_ok, Ev.bind_err, Ev.map_ok, Ev.map_err, Ev.norm_fz, Ev.norm_own, Ev.norm_bor, Ev.norm_err, Ev.of_fz, Ev.of_own, Ev.ofB_some, Ev.o_ok, Ev.o_err, Ev.after_nx, Ev.after_rt, Ev.after_er, Ev.look_fz, Ev.look_bor, Ev.looks_nil, Ev.looks_cons, Ev.look2_eq, Ev.esc1_fz, Ev.esc1_bor, Ev.escs_nil, Ev.escs_cons, Ev.ap_var, Ev.ap_c, Ev.ap_nil, Ev.ap_cons, Ev.ap_star, Ev.ap_cb, Ev.ap_bin, Ev.ap_cmp, Ev.gcm_eq, Ev.ap_tru, Ev.tru_bl, Ev.ap_and, Ev.ap_or, Ev.ap_not, Ev.ap_andv, Ev.ap_orv, Ev.ap_notv, Ev.ap_if, Ev.ap_esc, Ev.ap_tup, Ev.ap_lst, Ev.lim_eq, Ev.ap_call, Ev.r_fz, Ev.r_own, Ev.r_err, Ev.ap_v, Ev.ap_chain, Ev.ap_neg, Ev.ap_items, Ev.items_tup, Ev.items_lst, Ev.ap_yes, Ev.ap_lc, Ev.ap_dc, Ev.ap_rev, Ev.ap_dk, Ev.ap_dn, Ev.ap_none, Ev.ap_some, Ev.ap_cut, Ev.ap_enum, Ev.ap_zip, Ev.ap_range1, Ev.ap_range2, Ev.ap_callM, Ev.ownT_eq, Ev.ap_gd, Ev.ap_mut, Ev.isL_lst, Ev.app_eq, Ev.ap_seq, Ev.ap_gif, Ev.ap_set, Ev.put_fz, Ev.put_own, Ev.put_bor, Ev.ap_ret, Ev.ap_drop, Ev.ap_gnil, Ev.ap_raise, Ev.ap_for, Ev.ap_aug, Ev.ap_asg, Ev.ap_store, Ev.ap_bname, Ev.ap_bnil, Ev.ap_bcons, Ev.ap_btup, Ev.end_rt, Ev.end_own, Ev.end_nx, Ev.end_er, Ev.end_bor, Ev.vl_fz, Ev.vl_own, List.getElem?_cons_zero, e1, e2]
/-! ### first_ones -/
def firstOnes (l : List Int) (last : Int) : List Int := l.filter fun x => decide (x ≠ last) || decide (l.length = 1)
theorem cLt_int (a b : Int) : cLt (.int a) (.int b) = some (decide (a < b)) := rfl
theorem bLen_tI (l : List Int) : bLen [tI l] = some (.fz (.int l.length)) := by simp [bLen, tI]
theorem items_tI (l : List Int) : (tI l).items = some (l.map T.int) := rfl
theorem filt_map (l : List Int) (p : T → Bool) : ((l.map T.int).filter p).map id = (l.filter fun x => p (.int x)).map T.int := by
  rw [List.map_id, List.filter_map]
  rfl
theorem first_ok {l : List Int} (hl : l.length ≤ 1000000) (x : Int) : m_first_ones [tI l, .int x] = .ok (.own (.lst ((firstOnes l x).map T.int))) := by
  have e1 := lcL_filt (vs := [2]) (b := bName 2) (ft := fOr (fCmpT cNe (fVar 2) (fVar 1)) (fCmpT cEq (fCB bLen (fACons (fVar 0) fANil)) (fC (.int 1)))) (fe := fVar 2) (h := id)
    (p := fun t => match t with | .int i => decide (i ≠ x) || decide (l.length = 1) | _ => false) (ρ := [.fz (tI l), .fz (.int x), .un]) (l.map T.int) [] (fun t ht => by
      obtain ⟨i, hi, rfl⟩ := List.mem_map.mp ht
      refine ⟨[.fz (tI l), .fz (.int x), .fz (.int i)], rfl, ?_, fun _ => rfl, rfl⟩
      simp only [Ev.bind_ok, Ev.bind_err, Ev.map_ok, Ev.map_err, Ev.norm_fz, Ev.norm_own, Ev.norm_bor, Ev.norm_err, Ev.of_fz, Ev.of_own, Ev.ofB_some, Ev.o_ok, Ev.o_err, Ev.after_nx, Ev.after_rt, Ev.after_er, Ev.look_fz, Ev.look_bor, Ev.looks_nil, Ev.looks_cons, Ev.look2_eq, Ev.esc1_fz, Ev.esc1_bor, Ev.escs_nil, Ev.escs_cons, Ev.ap_var, Ev.ap_c, Ev.ap_nil, Ev.ap_cons, Ev.ap_star, Ev.ap_cb, Ev.ap_bin, Ev.ap_cmp, Ev.gcm_eq, Ev.ap_tru, Ev.tru_bl, Ev.ap_and, Ev.ap_or, Ev.ap_not, Ev.ap_andv, Ev.ap_orv, Ev.ap_notv, Ev.ap_if, Ev.ap_esc, Ev.ap_tup, Ev.ap_lst, Ev.lim_eq, Ev.ap_call, Ev.r_fz, Ev.r_own, Ev.r_err, Ev.ap_v, Ev.ap_chain, Ev.ap_neg, Ev.ap_items, Ev.items_tup, Ev.items_lst, Ev.ap_yes, Ev.ap_lc, Ev.ap_dc, Ev.ap_rev, Ev.ap_dk, Ev.ap_dn, Ev.ap_none, Ev.ap_some, Ev.ap_cut, Ev.ap_enum, Ev.ap_zip, Ev.ap_range1, Ev.ap_range2, Ev.ap_callM, Ev.ownT_eq, Ev.ap_gd, Ev.ap_mut, Ev.isL_lst, Ev.app_eq, Ev.ap_seq, Ev.ap_gif, Ev.ap_set, Ev.put_fz, Ev.put_own, Ev.put_bor, Ev.ap_ret, Ev.ap_drop, Ev.ap_gnil, Ev.ap_raise, Ev.ap_for, Ev.ap_aug, Ev.ap_asg, Ev.ap_store, Ev.ap_bname, Ev.ap_bnil, Ev.ap_bcons, Ev.ap_btup, Ev.end_rt, Ev.end_own, Ev.end_nx, Ev.end_er, Ev.end_bor, Ev.vl_fz, Ev.vl_own, List.getElem?_cons_zero, List.getElem?_cons_succ, cNe_int, bLen_tI, Option.bind_some, cEq_int]
      by_cases h : i = x
      · have : decide ((l.length : Int) = 1) = decide (l.length = 1) := by simp; omega
        simp [h, this]
      · simp [h]) (by simpa using hl)
  rw [List.nil_append, filt_map] at e1
  show endP (g_first_ones [.fz (tI l), .fz (.int x), .un]) = _
  unfold g_first_ones
  simp only [Ev.bind_ok, Ev.bind_err, Ev.map_ok, Ev.map_err, Ev.norm_fz, Ev.norm_own, Ev.norm_bor, Ev.norm_err, Ev.of_fz, Ev.of_own, Ev.ofB_some, Ev.o_ok, Ev.o_err, Ev.after_nx, Ev.after_rt, Ev.after_er, Ev.look_fz, Ev.look_bor, Ev.looks_nil, Ev.looks_cons, Ev.look2_eq, Ev.esc1_fz, Ev.esc1_bor, Ev.escs_nil, Ev.escs_cons, Ev.ap_var, Ev.ap_c, Ev.ap_nil, Ev.ap_cons, Ev.ap_star, Ev.ap_cb, Ev.ap_bin, Ev.ap_cmp, Ev.gcm_eq, Ev.ap_tru, Ev.tru_bl, Ev.ap_and, Ev.ap_or, Ev.ap_not, Ev.ap_andv, Ev.ap_orv, Ev.ap_notv, Ev.ap_if, Ev.ap_esc, Ev.ap_tup, Ev.ap_lst, Ev.lim_eq, Ev.ap_call, Ev.r_fz, Ev.r_own, Ev.r_err, Ev.ap_v, Ev.ap_chain, Ev.ap_neg, Ev.ap_items, Ev.items_tup, Ev.items_lst, Ev.ap_yes, Ev.ap_lc, Ev.ap_dc, Ev.ap_rev, Ev.ap_dk, Ev.ap_dn, Ev.ap_none, Ev.ap_some, Ev.ap_cut, Ev.ap_enum, Ev.ap_zip, Ev.ap_range1, Ev.ap_range2, Ev.ap_callM, Ev.ownT_eq, Ev.ap_gd, Ev.ap_mut, Ev.isL_lst, Ev.app_eq, Ev.ap_seq, Ev.ap_gif, Ev.ap_set, Ev.put_fz, Ev.put_own, Ev.put_bor, Ev.ap_ret, Ev.ap_drop, Ev.ap_gnil, Ev.ap_raise, Ev.ap_for, Ev.ap_aug, Ev.ap_asg, Ev.ap_store, Ev.ap_bname, Ev.ap_bnil, Ev.ap_bcons, Ev.ap_btup, Ev.end_rt, Ev.end_own, Ev.end_nx, Ev.end_er, Ev.end_bor, Ev.vl_fz, Ev.vl_own, List.getElem?_cons_zero, items_tI, e1]
  rfl
/-! ### rest_costs -/
def mn : List Int → Int
  | [] => 0
  | n :: ns => ns.foldl min n
theorem ok_ints (n : Int) (ns : List Int) : okOrd ((n :: ns).map PyData.int) = true := by
  have : PyData.depthAll ((n :: ns).map PyData.int) ≤ 60 := by rw [dep_ints]; omega
  simp only [okOrd, Bool.and_eq_true, List.all_eq_true, decide_eq_true_eq]
  refine ⟨⟨fun x hx y hy => ?_, fun x hx => ?_⟩, this⟩
  · obtain ⟨i, _, rfl⟩ := List.mem_map.mp hx
    obtain ⟨j, _, rfl⟩ := List.mem_map.mp hy
    simp [PySem.W.alike]
  · obtain ⟨i, _, rfl⟩ := List.mem_map.mp hx
    simp [isNone]
theorem bMin_ints {xs : List Int} (h : xs ≠ []) : bMin [.lst (xs.map T.int)] = some (.fz (.int (mn xs))) := by
  cases xs with
  | nil => exact absurd rfl h
  | cons n ns =>
    have e : cDs ((n :: ns).map T.int) = some (.int n :: ns.map .int) := cDs_ints (n :: ns)
    have e2 : ∀ ts : List T, bMin [.lst ts] = (match cDs ts with | some (d :: ds) => if okOrd (d :: ds) = true then some (.fz (ofD (PySem.W.minD d ds))) else none | _ => none) := fun ts => rfl
    rw [e2, e]
    dsimp only
    have h2 : okOrd (.int n :: ns.map .int) = true := ok_ints n ns
    rw [if_pos h2, PySem.W.minD_ints]
    rfl
def B : List Int := [-1, 0, 1, 2, 3, 4, 5]
def dictOf (f : Int → Int) : T := .dK (B.map fun b => ((.inl b : Key), T.int (f b)))
theorem ix_dict_of (f : Int → Int) {x : Int} (h : x ∈ B) : aIx (dictOf f) (.int x) = some (.fz (.int (f x))) := by
  simp only [B, List.mem_cons, List.not_mem_nil, or_false] at h
  rcases h with rfl | rfl | rfl | rfl | rfl | rfl | rfl <;> rfl
def begins (b : Int) (l : List Int) (x : Int) : List Int := (firstOnes l x).map fun y => if y = b ∨ b < 0 then 0 else 1
def costAt (l : List Int) (later : Int → Int) (b x : Int) : Int := mn (begins b l x) + l.length - 1 + later x
def costF (l : List Int) (later : Int → Int) (b : Int) : Int := mn (l.map (costAt l later b))
end K24
end

section
set_option Elab.async false
set_option linter.all false
set_option maxRecDepth 100000
set_option maxHeartbeats 4000000
namespace K24
open PySem PySem.Spec PyProof.Rows L2 FX
def brest_costs0 : FX.Env → O := (gSeq (gSet 4 (fBin aIx (fVar 1) (fNeg (fC (.int 1))))) (gSeq (gSet 5 fDK) (gSeq (gFor (fRange2 (fACons (fNeg (fC (.int 1))) (fACons (fBin aAdd (fC (.int 5)) (fC (.int 1))) fANil))) (bName 6) (gSeq (gSet 7 (fLst fANil)) (gSeq (gFor (fItems (fVar 3)) (bName 8) (gSeq (gSet 9 (fLc [10] (fItems (fCall m_first_ones (fACons (fVar 3) (fACons (fVar 8) fANil)))) (bName 10) fYes (fIf (fOr (fCmpT cEq (fVar 10) (fVar 6)) (fCmpT cLt (fVar 6) (fC (.int 0)))) (fC (.int 0)) (fC (.int 1))))) (gDrop (gd isL 7 (fMut 7 mAppend (fACons (fBin aAdd (fBin aSub (fBin aAdd (fCB bMin (fACons (fVar 9) fANil)) (fCB bLen (fACons (fVar 3) fANil))) (fC (.int 1))) (fBin aIx (fVar 4) (fVar 8))) fANil)))))) (gStore stD 5 (fCB bMin (fACons (fVar 7) fANil)) (fVar 6))))) (gDrop (gd isL 1 (fMut 1 mAppend (fACons (fVar 5) fANil)))))))
def brest_costs1 : FX.Env → O := (gSeq (gSet 7 (fLst fANil)) (gSeq (gFor (fItems (fVar 3)) (bName 8) (gSeq (gSet 9 (fLc [10] (fItems (fCall m_first_ones (fACons (fVar 3) (fACons (fVar 8) fANil)))) (bName 10) fYes (fIf (fOr (fCmpT cEq (fVar 10) (fVar 6)) (fCmpT cLt (fVar 6) (fC (.int 0)))) (fC (.int 0)) (fC (.int 1))))) (gDrop (gd isL 7 (fMut 7 mAppend (fACons (fBin aAdd (fBin aSub (fBin aAdd (fCB bMin (fACons (fVar 9) fANil)) (fCB bLen (fACons (fVar 3) fANil))) (fC (.int 1))) (fBin aIx (fVar 4) (fVar 8))) fANil)))))) (gStore stD 5 (fCB bMin (fACons (fVar 7) fANil)) (fVar 6))))
def brest_costs2 : FX.Env → O := (gSeq (gSet 9 (fLc [10] (fItems (fCall m_first_ones (fACons (fVar 3) (fACons (fVar 8) fANil)))) (bName 10) fYes (fIf (fOr (fCmpT cEq (fVar 10) (fVar 6)) (fCmpT cLt (fVar 6) (fC (.int 0)))) (fC (.int 0)) (fC (.int 1))))) (gDrop (gd isL 7 (fMut 7 mAppend (fACons (fBin aAdd (fBin aSub (fBin aAdd (fCB bMin (fACons (fVar 9) fANil)) (fCB bLen (fACons (fVar 3) fANil))) (fC (.int 1))) (fBin aIx (fVar 4) (fVar 8))) fANil)))))
def bleast_order0 : FX.Env → O := (gSeq (gSet 5 (fCB bSorted (fACons (fLc [6] (fItems (fVar 0)) (bName 6) (fCmpT cNe (fVar 6) (fVar 4)) (fVar 6)) fANil))) (gFor (fItems (fCall m_first_ones (fACons (fVar 0) (fACons (fVar 4) fANil)))) (bName 7) (gSeq (gSet 8 (fIf (fCmpT (cI fun i j => decide (j < i)) (fCB bLen (fACons (fVar 0) fANil)) (fC (.int 1))) (fTup (fACons (fVar 7) (fAStar (fLc [6] (fItems (fVar 5)) (bName 6) (fCmpT cNe (fVar 6) (fVar 7)) (fVar 6)) (fACons (fVar 4) fANil)))) (fVar 0))) (gSeq (gSet 9 (fBin aAdd (fBin aSub (fBin aAdd (fIf (fOr (fCmpT cEq (fVar 7) (fVar 1)) (fCmpT cLt (fVar 1) (fC (.int 0)))) (fC (.int 0)) (fC (.int 1))) (fCB bLen (fACons (fVar 0) fANil))) (fC (.int 1))) (fBin aIx (fVar 2) (fVar 4)))) (gIf (fOr (fCmpT cIsN (fVar 3) (fC .non)) (fCmpT cLt (fTup (fACons (fVar 9) (fACons (fVar 8) fANil))) (fVar 3))) (gSet 3 (fTup (fACons (fVar 9) (fACons (fVar 8) fANil)))) gNil)))))
def bleast_order1 : FX.Env → O := (gSeq (gSet 8 (fIf (fCmpT (cI fun i j => decide (j < i)) (fCB bLen (fACons (fVar 0) fANil)) (fC (.int 1))) (fTup (fACons (fVar 7) (fAStar (fLc [6] (fItems (fVar 5)) (bName 6) (fCmpT cNe (fVar 6) (fVar 7)) (fVar 6)) (fACons (fVar 4) fANil)))) (fVar 0))) (gSeq (gSet 9 (fBin aAdd (fBin aSub (fBin aAdd (fIf (fOr (fCmpT cEq (fVar 7) (fVar 1)) (fCmpT cLt (fVar 1) (fC (.int 0)))) (fC (.int 0)) (fC (.int 1))) (fCB bLen (fACons (fVar 0) fANil))) (fC (.int 1))) (fBin aIx (fVar 2) (fVar 4)))) (gIf (fOr (fCmpT cIsN (fVar 3) (fC .non)) (fCmpT cLt (fTup (fACons (fVar 9) (fACons (fVar 8) fANil))) (fVar 3))) (gSet 3 (fTup (fACons (fVar 9) (fACons (fVar 8) fANil)))) gNil)))
def bfewest_swaps0 : FX.Env → O := (gSeq (gDrop (gd isL 2 (fMut 2 mAppend (fACons (fCall m_least_order (fACons (fVar 5) (fACons (fVar 3) (fACons (fBin aIx (fVar 1) (fBin aAdd (fVar 4) (fC (.int 1)))) fANil)))) fANil)))) (gSet 3 (fBin aIx (fBin aIx (fVar 2) (fNeg (fC (.int 1)))) (fNeg (fC (.int 1))))))
def b_law_orders0 : FX.Env → O := (gSeq (gSet 3 (fLst fANil)) (gSeq (gFor (fItems (fVar 1)) (bName 4) (gSet 3 (fBin aAdd (fVar 3) (fLc [5] (fRange1 (fACons (fBin aAdd (fCB bLen (fACons (fVar 4) fANil)) (fC (.int 1))) fANil)) (bName 5) fYes (fBin aAdd (fBin aAdd (fCut (fVar 4) fNone (fSome (fVar 5))) (fTup (fACons (fVar 2) fANil))) (fCut (fVar 4) (fSome (fVar 5)) fNone)))))) (gSet 1 (fVar 3))))
def b_law_orders1 : FX.Env → O := (gSet 3 (fBin aAdd (fVar 3) (fLc [5] (fRange1 (fACons (fBin aAdd (fCB bLen (fACons (fVar 4) fANil)) (fC (.int 1))) fANil)) (bName 5) fYes (fBin aAdd (fBin aAdd (fCut (fVar 4) fNone (fSome (fVar 5))) (fTup (fACons (fVar 2) fANil))) (fCut (fVar 4) (fSome (fVar 5)) fNone)))))
def b_law_count0 : FX.Env → O := (gSet 1 (fBin aAdd (fVar 1) (fCB bList (fACons (fVar 2) fANil))))
def b_law_best0 : FX.Env → O := (gSeq (gSet 3 fDK) (gSeq (gFor (fItems (fCall m__law_orders (fACons (fVar 2) fANil))) (bName 4) (gForD true 1 (bName 5) (gSeq (gAsg (bTup 2 (bCons (bName 6) (bCons (bName 7) bNil))) (fBin aIxA (fVar 1) (fVar 5))) (gSeq (gSet 8 (fBin aAdd (fBin aSub (fBin aAdd (fVar 6) (fCB bLen (fACons (fVar 4) fANil))) (fC (.int 1))) (fIf (fOr (fCmpT cIsN (fVar 5) (fC .non)) (fCmpT cEq (fVar 5) (fBin aIx (fVar 4) (fC (.int 0))))) (fC (.int 0)) (fC (.int 1))))) (gSeq (gSet 9 (fTup (fACons (fVar 8) (fACons (fBin aAdd (fVar 7) (fTup (fACons (fVar 4) fANil))) fANil)))) (gIf (fOr (fCmpT cNotIn (fBin aIx (fVar 4) (fNeg (fC (.int 1)))) (fVar 3)) (fCmpT cLt (fVar 9) (fBin aIx (fVar 3) (fBin aIx (fVar 4) (fNeg (fC (.int 1))))))) (gStore stD 3 (fVar 9) (fBin aIx (fVar 4) (fNeg (fC (.int 1))))) gNil)))))) (gSet 1 (fVar 3))))
def b_law_best1 : FX.Env → O := (gForD true 1 (bName 5) (gSeq (gAsg (bTup 2 (bCons (bName 6) (bCons (bName 7) bNil))) (fBin aIxA (fVar 1) (fVar 5))) (gSeq (gSet 8 (fBin aAdd (fBin aSub (fBin aAdd (fVar 6) (fCB bLen (fACons (fVar 4) fANil))) (fC (.int 1))) (fIf (fOr (fCmpT cIsN (fVar 5) (fC .non)) (fCmpT cEq (fVar 5) (fBin aIx (fVar 4) (fC (.int 0))))) (fC (.int 0)) (fC (.int 1))))) (gSeq (gSet 9 (fTup (fACons (fVar 8) (fACons (fBin aAdd (fVar 7) (fTup (fACons (fVar 4) fANil))) fANil)))) (gIf (fOr (fCmpT cNotIn (fBin aIx (fVar 4) (fNeg (fC (.int 1)))) (fVar 3)) (fCmpT cLt (fVar 9) (fBin aIx (fVar 3) (fBin aIx (fVar 4) (fNeg (fC (.int 1))))))) (gStore stD 3 (fVar 9) (fBin aIx (fVar 4) (fNeg (fC (.int 1))))) gNil)))))
def b_law_best2 : FX.Env → O := (gSeq (gAsg (bTup 2 (bCons (bName 6) (bCons (bName 7) bNil))) (fBin aIxA (fVar 1) (fVar 5))) (gSeq (gSet 8 (fBin aAdd (fBin aSub (fBin aAdd (fVar 6) (fCB bLen (fACons (fVar 4) fANil))) (fC (.int 1))) (fIf (fOr (fCmpT cIsN (fVar 5) (fC .non)) (fCmpT cEq (fVar 5) (fBin aIx (fVar 4) (fC (.int 0))))) (fC (.int 0)) (fC (.int 1))))) (gSeq (gSet 9 (fTup (fACons (fVar 8) (fACons (fBin aAdd (fVar 7) (fTup (fACons (fVar 4) fANil))) fANil)))) (gIf (fOr (fCmpT cNotIn (fBin aIx (fVar 4) (fNeg (fC (.int 1)))) (fVar 3)) (fCmpT cLt (fVar 9) (fBin aIx (fVar 3) (fBin aIx (fVar 4) (fNeg (fC (.int 1))))))) (gStore stD 3 (fVar 9) (fBin aIx (fVar 4) (fNeg (fC (.int 1))))) gNil))))
def blaw0 : FX.Env → O := (gSeq (gSet 4 (fLst fANil)) (gSeq (gFor (fRange1 (fACons (fBin aAdd (fC (.int 1)) (fCallM m__law_taken (fACons (fVar 1) (fACons (fC (.int 4)) fANil)))) fANil)) (bName 5) (gSeq (gSet 6 (fCallM m__law_taken (fACons (fVar 1) (fACons (fCallM m__law_pick (fACons (fVar 1) (fACons (fLst (fACons (fC (.int 3)) (fACons (fC (.int 6)) fANil))) fANil))) fANil)))) (gIf (fCmpT cNotIn (fVar 6) (fVar 4)) (gDrop (gd isL 4 (fMut 4 mAppend (fACons (fVar 6) fANil)))) gNil))) (gDrop (gd isL 2 (fMut 2 mAppend (fACons (fCB bTuple (fACons (fVar 4) fANil)) fANil))))))
def blaw1 : FX.Env → O := (gSeq (gSet 6 (fCallM m__law_taken (fACons (fVar 1) (fACons (fCallM m__law_pick (fACons (fVar 1) (fACons (fLst (fACons (fC (.int 3)) (fACons (fC (.int 6)) fANil))) fANil))) fANil)))) (gIf (fCmpT cNotIn (fVar 6) (fVar 4)) (gDrop (gd isL 4 (fMut 4 mAppend (fACons (fVar 6) fANil)))) gNil))
def blaw2 : FX.Env → O := (gSeq (gSet 10 (fLst fANil)) (gSeq (gFor (fItems (fVar 8)) (bName 11) (gSet 10 (fBin aAdd (fVar 10) (fLc [12] (fItems (fCall m__law_orders (fACons (fVar 9) fANil))) (bName 12) fYes (fBin aAdd (fVar 11) (fTup (fACons (fVar 12) fANil))))))) (gSet 8 (fVar 10))))
def blaw3 : FX.Env → O := (gSet 10 (fBin aAdd (fVar 10) (fLc [12] (fItems (fCall m__law_orders (fACons (fVar 9) fANil))) (bName 12) fYes (fBin aAdd (fVar 11) (fTup (fACons (fVar 12) fANil))))))
def blaw4 : FX.Env → O := (gSeq (gIf (fCmpT cNe (fRef "BadStuffs" "" "stuffs" (fAlt (isFn 14 "fewest_swaps") (fCall m_fewest_swaps (fACons (fVar 13) fANil)) (fun ρ => if isFn 14 "swaps_of" ρ = true then fCall m_swaps_of (fACons (fVar 13) fANil) ρ else .stuck))) (fTup (fACons (fC (.str "stuffs")) (fACons (fCB bLen (fACons (fVar 2) fANil)) fANil)))) (gRet (fC (.bl false))) gNil) (gIf (fCmpT cNe (fRef "BadStuffs" "" "stuffs" (fAlt (isFn 14 "fewest_swaps") (fCall m_fewest_swaps (fACons (fCallM m__law_pick (fACons (fVar 1) (fACons (fLst (fACons (fC .non) (fACons (fC (.int 5)) (fACons (fBin aMul (fLst (fACons (fTup (fACons (fC (.int 1)) fANil)) fANil)) (fC (.int 201))) fANil)))) fANil))) fANil)) (fun ρ => if isFn 14 "swaps_of" ρ = true then fCall m_swaps_of (fACons (fCallM m__law_pick (fACons (fVar 1) (fACons (fLst (fACons (fC .non) (fACons (fC (.int 5)) (fACons (fBin aMul (fLst (fACons (fTup (fACons (fC (.int 1)) fANil)) fANil)) (fC (.int 201))) fANil)))) fANil))) fANil) ρ else .stuck))) (fTup (fACons (fC (.str "stuffs")) (fACons (fNeg (fC (.int 1))) fANil)))) (gRet (fC (.bl false))) gNil))

theorem lcL_gen {α : Type} {vs : List Nat} {b : T → FX.Env → Option FX.Env} {ft : FX.Env → R Bool} {fe : FX.Env → R Vl} {ρ : FX.Env} (e : α → T) (p : α → Bool) (h : α → T) : ∀ (l : List α) (acc : List T), (∀ a ∈ l, ∃ ρ1, b (e a) (wipeE ρ vs) = some ρ1 ∧ ft ρ1 = .ok (p a) ρ1 ∧ (p a = true → (fe ρ1).norm = .ok (.fz (h a)) ρ1) ∧ backE ρ vs ρ1 = ρ) → acc.length + l.length ≤ 1000000 → lcL vs b ft fe (l.map e) acc ρ = .ok (acc ++ (l.filter p).map h) ρ
  | [], acc, _, _ => by simp [lcL]
  | t :: ts, acc, H, hl => by
    obtain ⟨ρ1, e1, e2, e3, e4⟩ := H t List.mem_cons_self
    have hl' : acc.length + (ts.length + 1) ≤ 1000000 := hl
    simp only [List.map_cons, lcL, e1, e2]
    cases hp : p t with
    | true =>
      have := lcL_gen e p h ts (acc ++ [h t]) (fun u hu => H u (List.mem_cons_of_mem _ hu)) (by rw [List.length_append]; simp; omega)
      simp only [e3 hp, esc1]
      rw [if_pos (by omega), e4, this]
      simp [hp]
    | false =>
      have := lcL_gen e p h ts acc (fun u hu => H u (List.mem_cons_of_mem _ hu)) (by omega)
      dsimp only
      rw [e4, this]
      simp [hp]
theorem forL_rel {α S : Type} {b : T → FX.Env → Option FX.Env} {g : FX.Env → O} (e : α → T) (step : S → α → S) (Q : S → FX.Env → Prop) : ∀ (l : List α) (s : S) (ρ : FX.Env), (∀ s a ρ, a ∈ l → Q s ρ → ∃ ρ1, b (e a) ρ = some ρ1 ∧ ∃ ρ2, g ρ1 = .nx ρ2 ∧ Q (step s a) ρ2) → Q s ρ → ∃ ρ', forL b g (l.map e) ρ = .nx ρ' ∧ Q (l.foldl step s) ρ'
  | [], s, ρ, _, hq => ⟨ρ, rfl, hq⟩
  | a :: l, s, ρ, H, hq => by
    obtain ⟨ρ1, e1, ρ2, e2, hq2⟩ := H s a ρ List.mem_cons_self hq
    obtain ⟨ρ', e3, hq3⟩ := forL_rel e step Q l (step s a) ρ2 (fun s a ρ ha => H s a ρ (List.mem_cons_of_mem _ ha)) hq2
    exact ⟨ρ', by simp only [List.map_cons, forL, e1, e2, e3], hq3⟩
theorem forL_pre {α : Type} {b : T → FX.Env → Option FX.Env} {g : FX.Env → O} (e : α → T) (Q : List α → FX.Env → Prop) : ∀ (l pre : List α) (ρ : FX.Env), (∀ pre' a post ρ, pre ++ l = pre' ++ a :: post → a ∈ l → Q pre' ρ → ∃ ρ1, b (e a) ρ = some ρ1 ∧ ∃ ρ2, g ρ1 = .nx ρ2 ∧ Q (pre' ++ [a]) ρ2) → Q pre ρ → ∃ ρ', forL b g (l.map e) ρ = .nx ρ' ∧ Q (pre ++ l) ρ'
  | [], s, ρ, _, hq => ⟨ρ, rfl, by rwa [List.append_nil]⟩
  | a :: l, s, ρ, H, hq => by
    obtain ⟨ρ1, e1, ρ2, e2, hq2⟩ := H s a l ρ rfl List.mem_cons_self hq
    obtain ⟨ρ', e3, hq3⟩ := forL_pre e Q l (s ++ [a]) ρ2 (fun s a post ρ h ha => H s a post ρ (by rw [← h]; simp) (List.mem_cons_of_mem _ ha)) hq2
    exact ⟨ρ', by simp only [List.map_cons, forL, e1, e2, e3], by simpa using hq3⟩
theorem add_int (i j : Int) : aAdd (.int i) (.int j) = some (.fz (.int (i + j))) := rfl
theorem sub_int (i j : Int) : aSub (.int i) (.int j) = some (.fz (.int (i - j))) := rfl
theorem bLen_lst (l : List T) : bLen [.lst l] = some (.fz (.int l.length)) := rfl
theorem foldl_snoc {α β : Type} (f : α → β) : ∀ (l : List α) (acc : List β), l.foldl (fun s a => s ++ [f a]) acc = acc ++ l.map f
  | [], acc => by simp
  | a :: l, acc => by rw [List.foldl_cons, foldl_snoc f l]; simp
/-! ### rest_costs -/
theorem begins_ne {b x : Int} {l : List Int} (h : firstOnes l x ≠ []) : begins b l x ≠ [] := by simpa [begins] using h
theorem first_ne {l : List Int} (h : Lay l) (x : Int) : firstOnes l x ≠ [] := by
  have nd := h.nd
  match l, h.ne, nd with
  | [a], _, _ => simp [firstOnes]
  | a :: c :: l, _, nd =>
    intro z
    have h1 : a ∉ firstOnes (a :: c :: l) x := by rw [z]; simp
    have h2 : c ∉ firstOnes (a :: c :: l) x := by rw [z]; simp
    simp [firstOnes] at h1 h2
    simp [h1, h2] at nd
theorem lay_B {l : List Int} (h : Lay l) {x : Int} (hx : x ∈ l) : x ∈ B := by
  have := h.lo x hx
  simp only [B, List.mem_cons, List.not_mem_nil, or_false]
  omega
theorem rc2 {l : List Int} (hl : Lay l) (f : Int → Int) (b : Int) (c d s2 h : Sl) (s8 s9 : Sl) : ∃ s8' s9', forL (bName 8) brest_costs2 (l.map T.int) [c, d, s2, .fz (tI l), .fz (dictOf f), h, .fz (.int b), .own none (.lst []), s8, s9, .un] = .nx [c, d, s2, .fz (tI l), .fz (dictOf f), h, .fz (.int b), .own none (.lst ((l.map (costAt l f b)).map T.int)), s8', s9', .un] := by
  have hlen := lay_len hl
  obtain ⟨ρ', e, s8', s9', q⟩ := forL_pre (g := brest_costs2) (b := bName 8) T.int (fun s ρ => ∃ s8' s9', ρ = [c, d, s2, .fz (tI l), .fz (dictOf f), h, .fz (.int b), .own none (.lst ((s.map (costAt l f b)).map T.int)), s8', s9', .un]) l [] [c, d, s2, .fz (tI l), .fz (dictOf f), h, .fz (.int b), .own none (.lst []), s8, s9, .un]
    (fun s x post ρ hp hx ⟨s8, s9, q⟩ => by
      have hk : s.length ≤ 6 := by have := congrArg List.length hp; simp at this; omega
      refine ⟨_, by subst q; rfl, [c, d, s2, .fz (tI l), .fz (dictOf f), h, .fz (.int b), .own none (.lst (((s ++ [x]).map (costAt l f b)).map T.int)), .fz (.int x), .own none (.lst ((begins b l x).map T.int)), .un], ?_, ?_⟩
      · show brest_costs2 [c, d, s2, .fz (tI l), .fz (dictOf f), h, .fz (.int b), .own none (.lst ((s.map (costAt l f b)).map T.int)), .fz (.int x), s9, .un] = _
        have e1 := first_ok (l := l) (by omega) x
        have hfl : (firstOnes l x).length ≤ 6 := Nat.le_trans (List.length_filter_le _ _) hlen
        have e2 := lcL_gen (vs := [10]) (b := bName 10) (ft := fYes) (fe := fIf (fOr (fCmpT cEq (fVar 10) (fVar 6)) (fCmpT cLt (fVar 6) (fC (.int 0)))) (fC (.int 0)) (fC (.int 1))) (ρ := [c, d, s2, .fz (tI l), .fz (dictOf f), h, .fz (.int b), .own none (.lst ((s.map (costAt l f b)).map T.int)), .fz (.int x), s9, .un]) T.int (fun _ => true) (fun y => .int (if y = b ∨ b < 0 then 0 else 1)) (firstOnes l x) [] (fun y hy => by
          refine ⟨[c, d, s2, .fz (tI l), .fz (dictOf f), h, .fz (.int b), .own none (.lst ((s.map (costAt l f b)).map T.int)), .fz (.int x), s9, .fz (.int y)], rfl, rfl, fun _ => ?_, rfl⟩
          simp only [Ev.bind_ok, Ev.bind_err, Ev.map_ok, Ev.map_err, Ev.norm_fz, Ev.norm_own, Ev.norm_bor, Ev.norm_err, Ev.of_fz, Ev.of_own, Ev.ofB_some, Ev.o_ok, Ev.o_err, Ev.after_nx, Ev.after_rt, Ev.after_er, Ev.look_fz, Ev.look_bor, Ev.looks_nil, Ev.looks_cons, Ev.look2_eq, Ev.esc1_fz, Ev.esc1_bor, Ev.escs_nil, Ev.escs_cons, Ev.ap_var, Ev.ap_c, Ev.ap_nil, Ev.ap_cons, Ev.ap_star, Ev.ap_cb, Ev.ap_bin, Ev.ap_cmp, Ev.gcm_eq, Ev.ap_tru, Ev.tru_bl, Ev.ap_and, Ev.ap_or, Ev.ap_not, Ev.ap_andv, Ev.ap_orv, Ev.ap_notv, Ev.ap_if, Ev.ap_esc, Ev.ap_tup, Ev.ap_lst, Ev.lim_eq, Ev.ap_call, Ev.r_fz, Ev.r_own, Ev.r_err, Ev.ap_v, Ev.ap_chain, Ev.ap_neg, Ev.ap_items, Ev.items_tup, Ev.items_lst, Ev.ap_yes, Ev.ap_lc, Ev.ap_dc, Ev.ap_rev, Ev.ap_dk, Ev.ap_dn, Ev.ap_none, Ev.ap_some, Ev.ap_cut, Ev.ap_enum, Ev.ap_zip, Ev.ap_range1, Ev.ap_range2, Ev.ap_callM, Ev.ownT_eq, Ev.ap_gd, Ev.ap_mut, Ev.isL_lst, Ev.app_eq, Ev.ap_seq, Ev.ap_gif, Ev.ap_set, Ev.put_fz, Ev.put_own, Ev.put_bor, Ev.ap_ret, Ev.ap_drop, Ev.ap_gnil, Ev.ap_raise, Ev.ap_for, Ev.ap_aug, Ev.ap_asg, Ev.ap_store, Ev.ap_bname, Ev.ap_bnil, Ev.ap_bcons, Ev.ap_btup, Ev.end_rt, Ev.end_own, Ev.end_nx, Ev.end_er, Ev.end_bor, Ev.vl_fz, Ev.vl_own, List.getElem?_cons_zero, List.getElem?_cons_succ, cEq_int, cLt_int]
          by_cases h1 : y = b
          · simp [h1, Ev.bind_ok, Ev.bind_err, Ev.map_ok, Ev.map_err, Ev.norm_fz, Ev.norm_own, Ev.norm_bor, Ev.norm_err, Ev.of_fz, Ev.of_own, Ev.ofB_some, Ev.o_ok, Ev.o_err, Ev.after_nx, Ev.after_rt, Ev.after_er, Ev.look_fz, Ev.look_bor, Ev.looks_nil, Ev.looks_cons, Ev.look2_eq, Ev.esc1_fz, Ev.esc1_bor, Ev.escs_nil, Ev.escs_cons, Ev.ap_var, Ev.ap_c, Ev.ap_nil, Ev.ap_cons, Ev.ap_star, Ev.ap_cb, Ev.ap_bin, Ev.ap_cmp, Ev.gcm_eq, Ev.ap_tru, Ev.tru_bl, Ev.ap_and, Ev.ap_or, Ev.ap_not, Ev.ap_andv, Ev.ap_orv, Ev.ap_notv, Ev.ap_if, Ev.ap_esc, Ev.ap_tup, Ev.ap_lst, Ev.lim_eq, Ev.ap_call, Ev.r_fz, Ev.r_own, Ev.r_err, Ev.ap_v, Ev.ap_chain, Ev.ap_neg, Ev.ap_items, Ev.items_tup, Ev.items_lst, Ev.ap_yes, Ev.ap_lc, Ev.ap_dc, Ev.ap_rev, Ev.ap_dk, Ev.ap_dn, Ev.ap_none, Ev.ap_some, Ev.ap_cut, Ev.ap_enum, Ev.ap_zip, Ev.ap_range1, Ev.ap_range2, Ev.ap_callM, Ev.ownT_eq, Ev.ap_gd, Ev.ap_mut, Ev.isL_lst, Ev.app_eq, Ev.ap_seq, Ev.ap_gif, Ev.ap_set, Ev.put_fz, Ev.put_own, Ev.put_bor, Ev.ap_ret, Ev.ap_drop, Ev.ap_gnil, Ev.ap_raise, Ev.ap_for, Ev.ap_aug, Ev.ap_asg, Ev.ap_store, Ev.ap_bname, Ev.ap_bnil, Ev.ap_bcons, Ev.ap_btup, Ev.end_rt, Ev.end_own, Ev.end_nx, Ev.end_er, Ev.end_bor, Ev.vl_fz, Ev.vl_own]
          · by_cases h2 : b < 0 <;> simp [h1, h2, Ev.bind_ok, Ev.bind_err, Ev.map_ok, Ev.map_err, Ev.norm_fz, Ev.norm_own, Ev.norm_bor, Ev.norm_err, Ev.of_fz, Ev.of_own, Ev.ofB_some, Ev.o_ok, Ev.o_err, Ev.after_nx, Ev.after_rt, Ev.after_er, Ev.look_fz, Ev.look_bor, Ev.looks_nil, Ev.looks_cons, Ev.look2_eq, Ev.esc1_fz, Ev.esc1_bor, Ev.escs_nil, Ev.escs_cons, Ev.ap_var, Ev.ap_c, Ev.ap_nil, Ev.ap_cons, Ev.ap_star, Ev.ap_cb, Ev.ap_bin, Ev.ap_cmp, Ev.gcm_eq, Ev.ap_tru, Ev.tru_bl, Ev.ap_and, Ev.ap_or, Ev.ap_not, Ev.ap_andv, Ev.ap_orv, Ev.ap_notv, Ev.ap_if, Ev.ap_esc, Ev.ap_tup, Ev.ap_lst, Ev.lim_eq, Ev.ap_call, Ev.r_fz, Ev.r_own, Ev.r_err, Ev.ap_v, Ev.ap_chain, Ev.ap_neg, Ev.ap_items, Ev.items_tup, Ev.items_lst, Ev.ap_yes, Ev.ap_lc, Ev.ap_dc, Ev.ap_rev, Ev.ap_dk, Ev.ap_dn, Ev.ap_none, Ev.ap_some, Ev.ap_cut, Ev.ap_enum, Ev.ap_zip, Ev.ap_range1, Ev.ap_range2, Ev.ap_callM, Ev.ownT_eq, Ev.ap_gd, Ev.ap_mut, Ev.isL_lst, Ev.app_eq, Ev.ap_seq, Ev.ap_gif, Ev.ap_set, Ev.put_fz, Ev.put_own, Ev.put_bor, Ev.ap_ret, Ev.ap_drop, Ev.ap_gnil, Ev.ap_raise, Ev.ap_for, Ev.ap_aug, Ev.ap_asg, Ev.ap_store, Ev.ap_bname, Ev.ap_bnil, Ev.ap_bcons, Ev.ap_btup, Ev.end_rt, Ev.end_own, Ev.end_nx, Ev.end_er, Ev.end_bor, Ev.vl_fz, Ev.vl_own]) (by simp; omega)
        have e3 : (firstOnes l x).filter (fun _ => true) = firstOnes l x := by simp
        rw [e3, List.nil_append] at e2
        have e4 : (firstOnes l x).map (fun y => T.int (if y = b ∨ b < 0 then 0 else 1)) = (begins b l x).map T.int := by simp [begins, Function.comp_def]
        rw [e4] at e2
        have e5 := bMin_ints (begins_ne (b := b) (first_ne hl x))
        have e6 := ix_dict_of f (lay_B hl hx)
        unfold brest_costs2
        simp only [Ev.bind_ok, Ev.bind_err, Ev.map_ok, Ev.map_err, Ev.norm_fz, Ev.norm_own, Ev.norm_bor, Ev.norm_err, Ev.of_fz, Ev.of_own, Ev.ofB_some, Ev.o_ok, Ev.o_err, Ev.after_nx, Ev.after_rt, Ev.after_er, Ev.look_fz, Ev.look_bor, Ev.looks_nil, Ev.looks_cons, Ev.look2_eq, Ev.esc1_fz, Ev.esc1_bor, Ev.escs_nil, Ev.escs_cons, Ev.ap_var, Ev.ap_c, Ev.ap_nil, Ev.ap_cons, Ev.ap_star, Ev.ap_cb, Ev.ap_bin, Ev.ap_cmp, Ev.gcm_eq, Ev.ap_tru, Ev.tru_bl, Ev.ap_and, Ev.ap_or, Ev.ap_not, Ev.ap_andv, Ev.ap_orv, Ev.ap_notv, Ev.ap_if, Ev.ap_esc, Ev.ap_tup, Ev.ap_lst, Ev.lim_eq, Ev.ap_call, Ev.r_fz, Ev.r_own, Ev.r_err, Ev.ap_v, Ev.ap_chain, Ev.ap_neg, Ev.ap_items, Ev.items_tup, Ev.items_lst, Ev.ap_yes, Ev.ap_lc, Ev.ap_dc, Ev.ap_rev, Ev.ap_dk, Ev.ap_dn, Ev.ap_none, Ev.ap_some, Ev.ap_cut, Ev.ap_enum, Ev.ap_zip, Ev.ap_range1, Ev.ap_range2, Ev.ap_callM, Ev.ownT_eq, Ev.ap_gd, Ev.ap_mut, Ev.isL_lst, Ev.app_eq, Ev.ap_seq, Ev.ap_gif, Ev.ap_set, Ev.put_fz, Ev.put_own, Ev.put_bor, Ev.ap_ret, Ev.ap_drop, Ev.ap_gnil, Ev.ap_raise, Ev.ap_for, Ev.ap_aug, Ev.ap_asg, Ev.ap_store, Ev.ap_bname, Ev.ap_bnil, Ev.ap_bcons, Ev.ap_btup, Ev.end_rt, Ev.end_own, Ev.end_nx, Ev.end_er, Ev.end_bor, Ev.vl_fz, Ev.vl_own, List.getElem?_cons_zero, List.getElem?_cons_succ, Option.bind_some, e1, e2, e5, e6, List.set_cons_zero, List.set_cons_succ, bLen_tI, add_int, sub_int, if_true, List.length_map]
        rw [if_pos (by omega)]
        simp [Ev.bind_ok, Ev.bind_err, Ev.map_ok, Ev.map_err, Ev.norm_fz, Ev.norm_own, Ev.norm_bor, Ev.norm_err, Ev.of_fz, Ev.of_own, Ev.ofB_some, Ev.o_ok, Ev.o_err, Ev.after_nx, Ev.after_rt, Ev.after_er, Ev.look_fz, Ev.look_bor, Ev.looks_nil, Ev.looks_cons, Ev.look2_eq, Ev.esc1_fz, Ev.esc1_bor, Ev.escs_nil, Ev.escs_cons, Ev.ap_var, Ev.ap_c, Ev.ap_nil, Ev.ap_cons, Ev.ap_star, Ev.ap_cb, Ev.ap_bin, Ev.ap_cmp, Ev.gcm_eq, Ev.ap_tru, Ev.tru_bl, Ev.ap_and, Ev.ap_or, Ev.ap_not, Ev.ap_andv, Ev.ap_orv, Ev.ap_notv, Ev.ap_if, Ev.ap_esc, Ev.ap_tup, Ev.ap_lst, Ev.lim_eq, Ev.ap_call, Ev.r_fz, Ev.r_own, Ev.r_err, Ev.ap_v, Ev.ap_chain, Ev.ap_neg, Ev.ap_items, Ev.items_tup, Ev.items_lst, Ev.ap_yes, Ev.ap_lc, Ev.ap_dc, Ev.ap_rev, Ev.ap_dk, Ev.ap_dn, Ev.ap_none, Ev.ap_some, Ev.ap_cut, Ev.ap_enum, Ev.ap_zip, Ev.ap_range1, Ev.ap_range2, Ev.ap_callM, Ev.ownT_eq, Ev.ap_gd, Ev.ap_mut, Ev.isL_lst, Ev.app_eq, Ev.ap_seq, Ev.ap_gif, Ev.ap_set, Ev.put_fz, Ev.put_own, Ev.put_bor, Ev.ap_ret, Ev.ap_drop, Ev.ap_gnil, Ev.ap_raise, Ev.ap_for, Ev.ap_aug, Ev.ap_asg, Ev.ap_store, Ev.ap_bname, Ev.ap_bnil, Ev.ap_bcons, Ev.ap_btup, Ev.end_rt, Ev.end_own, Ev.end_nx, Ev.end_er, Ev.end_bor, Ev.vl_fz, Ev.vl_own, costAt]
      · exact ⟨_, _, rfl⟩) ⟨_, _, rfl⟩
  exact ⟨s8', s9', by rw [e, q]; rfl⟩
theorem ne_map {α β : Type} {f : α → β} {l : List α} (h : l ≠ []) : l.map f ≠ [] := by simpa using h
def dictAt (f : Int → Int) (bs : List Int) : T := .dK (bs.map fun b => ((.inl b : Key), T.int (f b)))
theorem rangeB : rangeT (-1) 6 = B.map T.int := rfl
theorem nodupB : B.Nodup := by decide
theorem rc1 {l : List Int} (hl : Lay l) (f : Int → Int) (c d s2 : Sl) (s6 s7 s8 s9 : Sl) : ∃ s6' s7' s8' s9', forL (bName 6) brest_costs1 (B.map T.int) [c, d, s2, .fz (tI l), .fz (dictOf f), .own none (.dK []), s6, s7, s8, s9, .un] = .nx [c, d, s2, .fz (tI l), .fz (dictOf f), .own none (dictOf (costF l f)), s6', s7', s8', s9', .un] := by
  have hlen := lay_len hl
  obtain ⟨ρ', e, s6', s7', s8', s9', q⟩ := forL_pre (g := brest_costs1) (b := bName 6) T.int (fun s ρ => ∃ s6' s7' s8' s9', ρ = [c, d, s2, .fz (tI l), .fz (dictOf f), .own none (dictAt (costF l f) s), s6', s7', s8', s9', .un]) B [] [c, d, s2, .fz (tI l), .fz (dictOf f), .own none (.dK []), s6, s7, s8, s9, .un]
    (fun s b post ρ hp hx ⟨s6, s7, s8, s9, q⟩ => by
      obtain ⟨t8, t9, e2⟩ := rc2 hl f b c d s2 (.own none (dictAt (costF l f) s)) s8 s9
      refine ⟨_, by subst q; rfl, [c, d, s2, .fz (tI l), .fz (dictOf f), .own none (dictAt (costF l f) (s ++ [b])), .fz (.int b), .own none (.lst ((l.map (costAt l f b)).map T.int)), t8, t9, .un], ?_, ?_⟩
      · show brest_costs1 [c, d, s2, .fz (tI l), .fz (dictOf f), .own none (dictAt (costF l f) s), .fz (.int b), s7, s8, s9, .un] = _
        have e5 := bMin_ints (ne_map (f := costAt l f b) hl.ne)
        have e6 : stD (dictAt (costF l f) s) (.int b) (.int (costF l f b)) = some (dictAt (costF l f) (s ++ [b])) := by
          have hb : s.length ≤ 7 := by have := congrArg List.length hp; simp [B] at this; omega
          have e7 : putT (s.map fun b => ((.inl b : Key), T.int (costF l f b))) (.inl b) (.int (costF l f b)) = (s.map fun b => ((.inl b : Key), T.int (costF l f b))) ++ [(.inl b, .int (costF l f b))] := putT_new _ _ _ (fun p hp2 => by
            obtain ⟨y, hy, rfl⟩ := List.mem_map.mp hp2
            intro z
            have z : y = b := by injection z
            subst z
            have nd := nodupB
            rw [← List.nil_append B, hp] at nd
            simp [List.nodup_append] at nd
            exact (nd.2.2 y hy).1 rfl)
          simp only [stD, dictAt, T.key]
          rw [if_pos (by simp; omega)]
          simp [e7]
        unfold brest_costs2 at e2
        have e7 : mn (l.map (costAt l f b)) = costF l f b := rfl
        rw [e7] at e5
        unfold brest_costs1
        simp only [Ev.bind_ok, Ev.bind_err, Ev.map_ok, Ev.map_err, Ev.norm_fz, Ev.norm_own, Ev.norm_bor, Ev.norm_err, Ev.of_fz, Ev.of_own, Ev.ofB_some, Ev.o_ok, Ev.o_err, Ev.after_nx, Ev.after_rt, Ev.after_er, Ev.look_fz, Ev.look_bor, Ev.looks_nil, Ev.looks_cons, Ev.look2_eq, Ev.esc1_fz, Ev.esc1_bor, Ev.escs_nil, Ev.escs_cons, Ev.ap_var, Ev.ap_c, Ev.ap_nil, Ev.ap_cons, Ev.ap_star, Ev.ap_cb, Ev.ap_bin, Ev.ap_cmp, Ev.gcm_eq, Ev.ap_tru, Ev.tru_bl, Ev.ap_and, Ev.ap_or, Ev.ap_not, Ev.ap_andv, Ev.ap_orv, Ev.ap_notv, Ev.ap_if, Ev.ap_esc, Ev.ap_tup, Ev.ap_lst, Ev.lim_eq, Ev.ap_call, Ev.r_fz, Ev.r_own, Ev.r_err, Ev.ap_v, Ev.ap_chain, Ev.ap_neg, Ev.ap_items, Ev.items_tup, Ev.items_lst, Ev.ap_yes, Ev.ap_lc, Ev.ap_dc, Ev.ap_rev, Ev.ap_dk, Ev.ap_dn, Ev.ap_none, Ev.ap_some, Ev.ap_cut, Ev.ap_enum, Ev.ap_zip, Ev.ap_range1, Ev.ap_range2, Ev.ap_callM, Ev.ownT_eq, Ev.ap_gd, Ev.ap_mut, Ev.isL_lst, Ev.app_eq, Ev.ap_seq, Ev.ap_gif, Ev.ap_set, Ev.put_fz, Ev.put_own, Ev.put_bor, Ev.ap_ret, Ev.ap_drop, Ev.ap_gnil, Ev.ap_raise, Ev.ap_for, Ev.ap_aug, Ev.ap_asg, Ev.ap_store, Ev.ap_bname, Ev.ap_bnil, Ev.ap_bcons, Ev.ap_btup, Ev.end_rt, Ev.end_own, Ev.end_nx, Ev.end_er, Ev.end_bor, Ev.vl_fz, Ev.vl_own, List.getElem?_cons_zero, List.getElem?_cons_succ, Option.bind_some, List.set_cons_zero, List.set_cons_succ, List.length_nil, Nat.zero_le, if_true, items_tI, e2, e5, e6]
      · exact ⟨_, _, _, _, rfl⟩) ⟨_, _, _, _, rfl⟩
  exact ⟨s6', s7', s8', s9', by rw [e, q]; rfl⟩
def later : List (List Int) → Int → Int
  | [] => fun _ => 0
  | l :: P => costF l (later P)
def cs : List (List Int) → List (Int → Int)
  | [] => [later []]
  | l :: P => later (l :: P) :: cs P
theorem cs_head : ∀ P, cs P = later P :: (cs P).tail
  | [] => rfl
  | l :: P => rfl
theorem cs_len : ∀ P, (cs P).length = P.length + 1
  | [] => rfl
  | l :: P => by simp [cs, cs_len P]
theorem cs_get : ∀ (P : List (List Int)) (k : Nat), k ≤ P.length → (cs P)[k]? = some (later (P.drop k))
  | [], 0, _ => rfl
  | l :: P, 0, _ => rfl
  | [], k + 1, h => by simp at h
  | l :: P, k + 1, h => by
    have := cs_get P k (by simpa using h)
    simpa [cs] using this
theorem atI_last {α : Type} (xs : List α) (x : α) : atI (xs ++ [x]) (-1) = some x := by
  have e : ixN (xs ++ [x]).length (-1) = some xs.length := by
    unfold ixN
    simp
    omega
  unfold atI
  rw [e]
  simp
theorem atI_nat {α : Type} (xs : List α) (k : Nat) : atI xs (k : Int) = xs[k]? := by
  unfold atI ixN
  by_cases h : k < xs.length
  · simp [h]
  · simp [h]
theorem ix_last (xs : List T) (x : T) : aIx (.lst (xs ++ [x])) (.int (-1)) = some (.fz x) := by
  show (atI (xs ++ [x]) (-1)).map Nv.fz = _
  rw [atI_last]; rfl
theorem ixt_last (xs : List T) (x : T) : aIx (.tup (xs ++ [x])) (.int (-1)) = some (.fz x) := by
  show (atI (xs ++ [x]) (-1)).map Nv.fz = _
  rw [atI_last]; rfl
theorem lst_rev (ts : List T) : aRev (.lst ts) = some (.own (.lst ts.reverse)) := rfl
theorem rc0 (c : Sl) (L : List (List Int)) (hL : ∀ l ∈ L, Lay l) (hn : L.length ≤ 200) (s2 s3 s4 s5 s6 s7 s8 s9 : Sl) : ∃ s2' s3' s4' s5' s6' s7' s8' s9', forL (bName 3) brest_costs0 (L.reverse.map tI) [c, .own none (.lst [dictOf (later [])]), s2, s3, s4, s5, s6, s7, s8, s9, .un] = .nx [c, .own none (.lst ((cs L).reverse.map dictOf)), s2', s3', s4', s5', s6', s7', s8', s9', .un] := by
  obtain ⟨ρ', e, s2', s3', s4', s5', s6', s7', s8', s9', q⟩ := forL_pre (g := brest_costs0) (b := bName 3) tI (fun pre ρ => ∃ s2' s3' s4' s5' s6' s7' s8' s9', ρ = [c, .own none (.lst ((cs pre.reverse).reverse.map dictOf)), s2', s3', s4', s5', s6', s7', s8', s9', .un]) L.reverse [] [c, .own none (.lst [dictOf (later [])]), s2, s3, s4, s5, s6, s7, s8, s9, .un]
    (fun pre l post ρ hp hl ⟨s2, s3, s4, s5, s6, s7, s8, s9, q⟩ => by
      have hl' : Lay l := hL l (by simpa using hl)
      have hlen : pre.length ≤ 200 := by
        have := congrArg List.length hp
        simp at this; omega
      obtain ⟨t6, t7, t8, t9, e2⟩ := rc1 hl' (later pre.reverse) c (.own none (.lst ((cs pre.reverse).reverse.map dictOf))) s2 s6 s7 s8 s9
      refine ⟨_, by subst q; rfl, [c, .own none (.lst ((cs (pre ++ [l]).reverse).reverse.map dictOf)), s2, .fz (tI l), .fz (dictOf (later pre.reverse)), .fz (dictOf (costF l (later pre.reverse))), t6, t7, t8, t9, .un], ?_, ⟨_, _, _, _, _, _, _, _, rfl⟩⟩
      show brest_costs0 [c, .own none (.lst ((cs pre.reverse).reverse.map dictOf)), s2, .fz (tI l), s4, s5, s6, s7, s8, s9, .un] = _
      have e3 : aIx (.lst ((cs pre.reverse).reverse.map dictOf)) (.int (-1)) = some (.fz (dictOf (later pre.reverse))) := by
        rw [cs_head]
        simp only [List.reverse_cons, List.map_append, List.map_cons, List.map_nil]
        exact ix_last _ _
      have r : ∀ ρ, fRange2 (fACons (fNeg (fC (.int 1))) (fACons (fBin aAdd (fC (.int 5)) (fC (.int 1))) fANil)) ρ = .ok (B.map T.int) ρ := fun ρ => rfl
      have e4 : mAppend (.lst ((cs pre.reverse).reverse.map dictOf)) [dictOf (costF l (later pre.reverse))] = some (.lst ((cs (pre ++ [l]).reverse).reverse.map dictOf), .non) := by
        rw [Ev.app_eq, if_pos (by simp [cs_len]; omega)]
        simp [cs, later]
      unfold brest_costs1 at e2
      unfold brest_costs0
      simp only [Ev.ap_seq, Ev.ap_set, Ev.ap_bin, Ev.ap_var, List.getElem?_cons_zero, List.getElem?_cons_succ, Ev.norm_bor, Ev.bind_ok, Ev.ap_neg, Ev.ap_c, Ev.norm_fz, Ev.look2_eq, Ev.look_bor, Ev.look_fz, e3, Ev.of_fz, Ev.o_ok, Ev.put_fz, Ev.after_nx, List.set_cons_zero, List.set_cons_succ, Ev.ap_dk, Ev.put_own, Ev.ap_for, r, e2, Ev.ap_drop, Ev.ap_gd, Ev.ownT_eq, Ev.isL_lst, if_true, Ev.ap_mut, Ev.ap_esc, Ev.ap_cons, Ev.ap_nil, Ev.escs_cons, Ev.escs_nil, Ev.esc1_bor, e4]) ⟨_, _, _, _, _, _, _, _, rfl⟩
  exact ⟨s2', s3', s4', s5', s6', s7', s8', s9', by rw [e, q]; simp⟩
end K24
end

section
set_option Elab.async false
set_option linter.all false
set_option maxRecDepth 100000
set_option maxHeartbeats 400000
namespace K24
open PySem PySem.Spec PyProof.Rows L2 FX
theorem dcL_w {w : T} {ρ : FX.Env} {vs : List Nat} {i : Nat} (hv : vs = [i]) (hw : ∀ t, ((wipeE ρ vs).set i (.fz t))[i]? = some (.fz t)) (hk : ∀ t, backE ρ vs ((wipeE ρ vs).set i (.fz t)) = ρ) : ∀ (l : List Int) (acc : List (Key × T)), l.Nodup → (∀ j ∈ l, ∀ p ∈ acc, p.1 ≠ .inl j) → acc.length + l.length ≤ 1000000 →
    dcL vs (bName i) fYes (fVar i) (fC w) (l.map .int) acc ρ = .ok (acc ++ l.map fun j => ((.inl j : Key), w)) ρ
  | [], acc, _, _, _ => by simp [dcL]
  | j :: l, acc, nd, hn, hl => by
    have hl' : acc.length + (l.length + 1) ≤ 1000000 := hl
    have nd' := List.nodup_cons.mp nd
    have e1 : (fVar i ((wipeE ρ vs).set i (.fz (.int j)))).norm = .ok (.fz (.int j)) ((wipeE ρ vs).set i (.fz (.int j))) := by
      unfold fVar; rw [hw]; rfl
    have ih := dcL_w (w := w) hv hw hk l (acc ++ [((.inl j : Key), w)]) nd'.2 (fun k hkl p hp => by
      rcases List.mem_append.mp hp with hp | hp
      · exact hn k (List.mem_cons_of_mem _ hkl) p hp
      · rw [List.mem_singleton.mp hp]; intro e; cases e; exact nd'.1 hkl) (by rw [List.length_append]; simp; omega)
    simp only [List.map_cons, dcL, bName, fYes, e1]
    have e2 : (fC w ((wipeE ρ vs).set i (.fz (.int j)))).norm = .ok (.fz w) ((wipeE ρ vs).set i (.fz (.int j))) := rfl
    simp only [e2, escs, esc1, T.key]
    rw [if_pos (by omega), putT_new acc _ _ (hn j List.mem_cons_self), hk]
    have e3 : (bName i : T → FX.Env → Option FX.Env) = fun t ρ => some (ρ.set i (.fz t)) := rfl
    first
    | (rw [ih]; simp)
    | (rw [← e3, ih]; simp)
    | (have ih' := ih; unfold bName fYes at ih'; rw [ih']; simp)
theorem start_costs (c : T) : fDc [2] (fRange2 (fACons (fNeg (fC (.int 1))) (fACons (fBin aAdd (fC (.int 5)) (fC (.int 1))) fANil))) (bName 2) fYes (fVar 2) (fC (.int 0)) [.fz c, .un, .un, .un, .un, .un, .un, .un, .un, .un, .un] = .ok (.own (dictOf (later []))) [.fz c, .un, .un, .un, .un, .un, .un, .un, .un, .un, .un] := by
  have e := dcL_w (w := .int 0) (ρ := [.fz c, .un, .un, .un, .un, .un, .un, .un, .un, .un, .un]) (vs := [2]) (i := 2) rfl (fun t => rfl) (fun t => rfl) B [] nodupB (by simp) (by decide)
  have r : fRange2 (fACons (fNeg (fC (.int 1))) (fACons (fBin aAdd (fC (.int 5)) (fC (.int 1))) fANil)) = fun ρ => .ok (B.map T.int) ρ := rfl
  rw [Ev.ap_dc, r, Ev.bind_ok, e]
  rfl
theorem mkP1 {N : Nat} {G : FX.Env → O} {c : T} : mkP 1 N G [c] = endP (G (.fz c :: List.replicate (N - 1) .un)) := rfl
theorem mkP2 {N : Nat} {G : FX.Env → O} {c d : T} : mkP 2 N G [c, d] = endP (G (.fz c :: .fz d :: List.replicate (N - 2) .un)) := rfl
theorem mkP3 {N : Nat} {G : FX.Env → O} {c d e : T} : mkP 3 N G [c, d, e] = endP (G (.fz c :: .fz d :: .fz e :: List.replicate (N - 3) .un)) := rfl
theorem rest_ok {c : T} {L : List (List Int)} (hc : Seqs c (L.map tI)) (hL : ∀ l ∈ L, Lay l) (hn : L.length ≤ 200) : m_rest_costs [c] = .ok (.own (.lst ((cs L).map dictOf))) := by
  obtain ⟨s2', s3', s4', s5', s6', s7', s8', s9', e⟩ := rc0 (.fz c) L hL hn .un .un .un .un .un .un .un .un
  have e0 := start_costs c
  have e1 : ∃ r, aRev c = some r ∧ ∀ ρ, fItems (fun ρ => R.of (some r) ρ) ρ = .ok (L.reverse.map tI) ρ := by
    rcases hc with rfl | rfl
    · exact ⟨_, rfl, fun ρ => by rw [List.map_reverse]; rfl⟩
    · exact ⟨_, rfl, fun ρ => by rw [List.map_reverse]; rfl⟩
  obtain ⟨r, e2, e3⟩ := e1
  have e4 : fItems (fRev (fVar 0)) [.fz c, .own none (.lst [dictOf (later [])]), .un, .un, .un, .un, .un, .un, .un, .un, .un] = .ok (L.reverse.map tI) [.fz c, .own none (.lst [dictOf (later [])]), .un, .un, .un, .un, .un, .un, .un, .un, .un] := by
    have := e3 [.fz c, .own none (.lst [dictOf (later [])]), .un, .un, .un, .un, .un, .un, .un, .un, .un]
    rw [← this]
    simp only [Ev.bind_ok, Ev.bind_err, Ev.map_ok, Ev.map_err, Ev.norm_fz, Ev.norm_own, Ev.norm_bor, Ev.norm_err, Ev.of_fz, Ev.of_own, Ev.ofB_some, Ev.o_ok, Ev.o_err, Ev.after_nx, Ev.after_rt, Ev.after_er, Ev.look_fz, Ev.look_bor, Ev.looks_nil, Ev.looks_cons, Ev.look2_eq, Ev.esc1_fz, Ev.esc1_bor, Ev.escs_nil, Ev.escs_cons, Ev.ap_var, Ev.ap_c, Ev.ap_nil, Ev.ap_cons, Ev.ap_star, Ev.ap_cb, Ev.ap_bin, Ev.ap_cmp, Ev.gcm_eq, Ev.ap_tru, Ev.tru_bl, Ev.ap_and, Ev.ap_or, Ev.ap_not, Ev.ap_andv, Ev.ap_orv, Ev.ap_notv, Ev.ap_if, Ev.ap_esc, Ev.ap_tup, Ev.ap_lst, Ev.lim_eq, Ev.ap_call, Ev.r_fz, Ev.r_own, Ev.r_err, Ev.ap_v, Ev.ap_chain, Ev.ap_neg, Ev.ap_items, Ev.items_tup, Ev.items_lst, Ev.ap_yes, Ev.ap_lc, Ev.ap_dc, Ev.ap_rev, Ev.ap_dk, Ev.ap_dn, Ev.ap_none, Ev.ap_some, Ev.ap_cut, Ev.ap_enum, Ev.ap_zip, Ev.ap_range1, Ev.ap_range2, Ev.ap_callM, Ev.ownT_eq, Ev.ap_gd, Ev.ap_mut, Ev.isL_lst, Ev.app_eq, Ev.ap_seq, Ev.ap_gif, Ev.ap_set, Ev.put_fz, Ev.put_own, Ev.put_bor, Ev.ap_ret, Ev.ap_drop, Ev.ap_gnil, Ev.ap_raise, Ev.ap_for, Ev.ap_aug, Ev.ap_asg, Ev.ap_store, Ev.ap_bname, Ev.ap_bnil, Ev.ap_bcons, Ev.ap_btup, Ev.end_rt, Ev.end_own, Ev.end_nx, Ev.end_er, Ev.end_bor, Ev.vl_fz, Ev.vl_own, List.getElem?_cons_zero, Option.bind_some, e2]
  unfold brest_costs0 at e
  have es : List.replicate (11 - 1) Sl.un = [.un, .un, .un, .un, .un, .un, .un, .un, .un, .un] := rfl
  unfold m_rest_costs
  rw [mkP1, es]
  unfold g_rest_costs
  simp only [Ev.ap_seq, Ev.ap_set, Ev.ap_lst, Ev.ap_esc, Ev.ap_cons, Ev.ap_nil, e0, Ev.norm_own, Ev.bind_ok, Ev.escs_cons, Ev.escs_nil, Ev.esc1_fz, Ev.lim_eq, List.length_cons, List.length_nil, Nat.reduceAdd, Nat.reduceLeDiff, if_true, Ev.of_own, Ev.o_ok, Ev.put_own, Ev.after_nx, List.set_cons_zero, List.set_cons_succ, Ev.ap_for, e4, e, Ev.ap_ret, Ev.ap_rev, Ev.ap_var, List.getElem?_cons_zero, List.getElem?_cons_succ, Ev.norm_bor, Ev.look_bor, Option.bind_some, lst_rev, Ev.end_own]
  rw [← List.map_reverse, List.reverse_reverse]
end K24
end

section
set_option Elab.async false
set_option linter.all false
set_option maxRecDepth 100000
set_option maxHeartbeats 1000000
namespace K24
open PySem PySem.Spec PyProof.Rows L2 FX
/-! ### least_order -/
def srt (l : List Int) : List Int := l.mergeSort fun a b => decide (a ≤ b)
theorem sortD_ints (l : List Int) : sortD (l.map PyData.int) = (srt l).map PyData.int := by
  refine (List.map_mergeSort (r := fun a b => decide (a ≤ b)) (s := PySem.W.dataLe false id) (f := PyData.int) (l := l) fun a _ b _ => ?_).symm
  show _ = !PySem.W.dataLt (.int b) (.int a)
  rw [lt_int]
  by_cases h : a ≤ b
  · have : ¬ b < a := by omega
    simp [h, this]
  · have : b < a := by omega
    simp [h, this]
theorem srt_perm (l : List Int) : (srt l).Perm l := List.mergeSort_perm _ _
theorem srt_sorted (l : List Int) : (srt l).Pairwise (· ≤ ·) := by
  have := List.pairwise_mergeSort (le := fun (a b : Int) => decide (a ≤ b)) (fun a b c h1 h2 => by simp at *; omega) (fun a b => by simp; omega) l
  exact this.imp fun h => by simpa using h
theorem okSort_ints : ∀ l : List Int, okSort (l.map PyData.int) = true
  | [] => by decide
  | n :: ns => by
    have h := ok_ints n ns
    unfold okSort
    rw [h]
    have : ((n :: ns).map PyData.int).all isFlatK = true := by
      simp only [List.all_eq_true]
      intro x hx
      obtain ⟨i, _, rfl⟩ := List.mem_map.mp hx
      rfl
    rw [this]
    simp
theorem bSorted_ints (l : List Int) : bSorted [.lst (l.map T.int)] = some (.own (.lst ((srt l).map T.int))) := by
  have e : ∀ ts, bSorted [.lst ts] = (match cDs ts with | some ds => if okSort ds = true then some (.own (.lst (ofDs (sortD ds)))) else none | _ => none) := fun ts => rfl
  rw [e, cDs_ints]
  dsimp only
  rw [if_pos (okSort_ints l), sortD_ints, ofDs_ints]
def order (l : List Int) (x y : Int) : List Int := if 1 < l.length then y :: ((srt (l.filter fun z => decide (z ≠ x))).filter fun z => decide (z ≠ y)) ++ [x] else l
def cst (later : Int → Int) (b : Int) (l : List Int) (x y : Int) : Int := (if y = b ∨ b < 0 then 0 else 1) + l.length - 1 + later x
def ltC (c d : Int × List Int) : Prop := c.1 < d.1 ∨ c.1 = d.1 ∧ c.2 < d.2
instance (c d : Int × List Int) : Decidable (ltC c d) := by unfold ltC; infer_instance
def bst (s : Option (Int × List Int)) (c : Int × List Int) : Option (Int × List Int) := match s with
  | none => some c
  | some d => if ltC c d then some c else some d
def candsAt (l : List Int) (b : Int) (f : Int → Int) (x : Int) : List (Int × List Int) := (firstOnes l x).map fun y => (cst f b l x y, order l x y)
def cands (l : List Int) (b : Int) (f : Int → Int) : List (Int × List Int) := (l.map (candsAt l b f)).flatten
def oB : Option (Int × List Int) → T
  | none => .non
  | some c => .tup [.int c.1, tI c.2]
theorem cIsN_oB (s : Option (Int × List Int)) : cIsN (oB s) .non = some (decide (s = none)) := by
  cases s <;> rfl
theorem cLt_cand (c d : Int × List Int) : cLt (.tup [.int c.1, tI c.2]) (oB (some d)) = some (decide (ltC c d)) := by
  have e : cLt (.tup [.int c.1, tI c.2]) (oB (some d)) = cLtD (.tup [.int c.1, tI c.2]) (.tup [.int d.1, tI d.2]) := rfl
  have d1 : ∀ c : Int × List Int, (T.tup [.int c.1, tI c.2]).toD = some (.tuple [.int c.1, dI c.2]) := fun c => by simp [T.toD, toDs, toD_tI, dI]
  have al : PySem.W.alike (.tuple [.int c.1, dI c.2]) (.tuple [.int d.1, dI d.2]) = true := by simp [PySem.W.alike, PySem.W.alikeAll, alike_dI]
  have dp : PyData.depth (.tuple [.int c.1, dI c.2]) ≤ 64 := by simp [PyData.depth, PyData.depthAll, dI, dep_ints]
  have lt : PySem.W.dataLt (.tuple [.int c.1, dI c.2]) (.tuple [.int d.1, dI d.2]) = decide (ltC c d) := by
    rw [PySem.W.dataLt_pair (by simp [PySem.W.alike]) (alike_dI _ _), eqv_dI, lt_dI, lt_int]
    simp only [PyData.eqv, beq_iff_eq, decide_eq_true_eq, ltC]
    by_cases h1 : c.1 = d.1
    · by_cases h2 : c.2 = d.2
      · simp [h1, h2, List.lt_irrefl]
      · simp [h1, h2]
    · simp [h1]
  rw [e, cLtD, d1, d1]
  dsimp only
  rw [if_pos ⟨al, rfl, dp⟩, lt]
theorem escs_fz : ∀ (ts : List T) (ρ : FX.Env), escs (ts.map Vl.fz) ρ = some (ts, ρ)
  | [], ρ => rfl
  | t :: ts, ρ => by simp only [List.map_cons, escs, esc1, escs_fz ts]
theorem escs_app : ∀ (ts : List T) (us : List Vl) (ρ : FX.Env), escs (ts.map Vl.fz ++ us) ρ = (match escs us ρ with | some (vs, ρ2) => some (ts ++ vs, ρ2) | none => none)
  | [], us, ρ => by
    rw [List.map_nil, List.nil_append]
    cases escs us ρ with
    | none => rfl
    | some p => rfl
  | t :: ts, us, ρ => by
    rw [List.map_cons, List.cons_append]
    simp only [escs, esc1, escs_app ts]
    cases escs us ρ with
    | none => rfl
    | some p => rfl
theorem cGt_int (i j : Int) : cI (fun i j => decide (j < i)) (.int i) (.int j) = some (decide (j < i)) := rfl
theorem lo_turn {l : List Int} (hl : Lay l) (f : Int → Int) (b : Int) (s : Option (Int × List Int)) {x : Int} (hx : x ∈ l) (y : Int) (s5 s8 s9 : Sl)
    (h5 : s5 = .fz (.lst ((srt (l.filter fun z => decide (z ≠ x))).map T.int)) ∨ s5 = .own none (.lst ((srt (l.filter fun z => decide (z ≠ x))).map T.int))) :
    ∃ s5' s8' s9', (s5' = .fz (.lst ((srt (l.filter fun z => decide (z ≠ x))).map T.int)) ∨ s5' = .own none (.lst ((srt (l.filter fun z => decide (z ≠ x))).map T.int))) ∧
      bleast_order1 [.fz (tI l), .fz (.int b), .fz (dictOf f), .fz (oB s), .fz (.int x), s5, .un, .fz (.int y), s8, s9] = .nx [.fz (tI l), .fz (.int b), .fz (dictOf f), .fz (oB (bst s (cst f b l x y, order l x y))), .fz (.int x), s5', .un, .fz (.int y), s8', s9'] := by
  have hlen := lay_len hl
  let RR : List Int := srt (l.filter fun z => decide (z ≠ x))
  have hR : RR.length ≤ 6 := by rw [(srt_perm _).length_eq]; exact Nat.le_trans (List.length_filter_le _ _) hlen
  have e6 := ix_dict_of f (lay_B hl hx)
  -- the order
  have ho : ∃ s5', (s5' = .fz (.lst (RR.map T.int)) ∨ s5' = .own none (.lst (RR.map T.int))) ∧ fIf (fCmpT (cI fun i j => decide (j < i)) (fCB bLen (fACons (fVar 0) fANil)) (fC (.int 1))) (fTup (fACons (fVar 7) (fAStar (fLc [6] (fItems (fVar 5)) (bName 6) (fCmpT cNe (fVar 6) (fVar 7)) (fVar 6)) (fACons (fVar 4) fANil)))) (fVar 0) [.fz (tI l), .fz (.int b), .fz (dictOf f), .fz (oB s), .fz (.int x), s5, .un, .fz (.int y), s8, s9] = .ok (.fz (tI (order l x y))) [.fz (tI l), .fz (.int b), .fz (dictOf f), .fz (oB s), .fz (.int x), s5', .un, .fz (.int y), s8, s9] := by
    by_cases h1 : 1 < l.length
    · refine ⟨.fz (.lst (RR.map T.int)), .inl rfl, ?_⟩
      have h1' : decide ((1 : Int) < l.length) = true := by simp; omega
      have e2 := lcL_gen (vs := [6]) (b := bName 6) (ft := fCmpT cNe (fVar 6) (fVar 7)) (fe := fVar 6) (ρ := [.fz (tI l), .fz (.int b), .fz (dictOf f), .fz (oB s), .fz (.int x), .fz (.lst (RR.map T.int)), .un, .fz (.int y), s8, s9]) T.int (fun z => decide (z ≠ y)) T.int RR [] (fun z hz => by
        refine ⟨[.fz (tI l), .fz (.int b), .fz (dictOf f), .fz (oB s), .fz (.int x), .fz (.lst (RR.map T.int)), .fz (.int z), .fz (.int y), s8, s9], rfl, ?_, fun _ => rfl, rfl⟩
        simp only [Ev.bind_ok, Ev.bind_err, Ev.map_ok, Ev.map_err, Ev.norm_fz, Ev.norm_own, Ev.norm_bor, Ev.norm_err, Ev.of_fz, Ev.of_own, Ev.ofB_some, Ev.o_ok, Ev.o_err, Ev.after_nx, Ev.after_rt, Ev.after_er, Ev.look_fz, Ev.look_bor, Ev.looks_nil, Ev.looks_cons, Ev.look2_eq, Ev.esc1_fz, Ev.esc1_bor, Ev.escs_nil, Ev.escs_cons, Ev.ap_var, Ev.ap_c, Ev.ap_nil, Ev.ap_cons, Ev.ap_star, Ev.ap_cb, Ev.ap_bin, Ev.ap_cmp, Ev.gcm_eq, Ev.ap_tru, Ev.tru_bl, Ev.ap_and, Ev.ap_or, Ev.ap_not, Ev.ap_andv, Ev.ap_orv, Ev.ap_notv, Ev.ap_if, Ev.ap_esc, Ev.ap_tup, Ev.ap_lst, Ev.lim_eq, Ev.ap_call, Ev.r_fz, Ev.r_own, Ev.r_err, Ev.ap_v, Ev.ap_chain, Ev.ap_neg, Ev.ap_items, Ev.items_tup, Ev.items_lst, Ev.ap_yes, Ev.ap_lc, Ev.ap_dc, Ev.ap_rev, Ev.ap_dk, Ev.ap_dn, Ev.ap_none, Ev.ap_some, Ev.ap_cut, Ev.ap_enum, Ev.ap_zip, Ev.ap_range1, Ev.ap_range2, Ev.ap_callM, Ev.ownT_eq, Ev.ap_gd, Ev.ap_mut, Ev.isL_lst, Ev.app_eq, Ev.ap_seq, Ev.ap_gif, Ev.ap_set, Ev.put_fz, Ev.put_own, Ev.put_bor, Ev.ap_ret, Ev.ap_drop, Ev.ap_gnil, Ev.ap_raise, Ev.ap_for, Ev.ap_aug, Ev.ap_asg, Ev.ap_store, Ev.ap_bname, Ev.ap_bnil, Ev.ap_bcons, Ev.ap_btup, Ev.end_rt, Ev.end_own, Ev.end_nx, Ev.end_er, Ev.end_bor, Ev.vl_fz, Ev.vl_own, List.getElem?_cons_zero, List.getElem?_cons_succ, cNe_int]) (by simp; omega)
      rw [List.nil_append] at e2
      have e3 : fItems (fVar 5) [.fz (tI l), .fz (.int b), .fz (dictOf f), .fz (oB s), .fz (.int x), s5, .un, .fz (.int y), s8, s9] = .ok (RR.map T.int) [.fz (tI l), .fz (.int b), .fz (dictOf f), .fz (oB s), .fz (.int x), .fz (.lst (RR.map T.int)), .un, .fz (.int y), s8, s9] := by
        rcases h5 with rfl | rfl <;> rfl
      have e4 : (RR.filter fun z => decide (z ≠ y)).length ≤ 6 := Nat.le_trans (List.length_filter_le _ _) hR
      simp only [Ev.ap_if, Ev.ap_cmp, Ev.ap_cb, Ev.ap_cons, Ev.ap_nil, Ev.ap_var, List.getElem?_cons_zero, List.getElem?_cons_succ, Ev.norm_fz, Ev.norm_own, Ev.bind_ok, Ev.looks_cons, Ev.looks_nil, Ev.look_fz, Option.bind_some, bLen_tI, Ev.of_fz, Ev.ap_c, Ev.look2_eq, cGt_int, h1', Ev.ofB_some, if_true, Ev.ap_tup, Ev.ap_esc, Ev.ap_star, Ev.ap_lc, e3, e2, Ev.map_ok, Ev.items_lst, Ev.escs_cons, escs_app, Ev.esc1_fz, Ev.escs_nil, Ev.lim_eq]
      rw [if_pos (by simp only [List.length_cons, List.length_append, List.length_map, List.length_nil]; omega), Ev.of_fz]
      have e5 : order l x y = y :: (RR.filter fun z => decide (z ≠ y)) ++ [x] := if_pos h1
      rw [e5]
      simp only [tI, List.map_cons, List.map_append, List.map_nil, List.cons_append]
    · refine ⟨s5, h5, ?_⟩
      have h1' : decide ((1 : Int) < l.length) = false := by simp; omega
      simp only [Ev.bind_ok, Ev.bind_err, Ev.map_ok, Ev.map_err, Ev.norm_fz, Ev.norm_own, Ev.norm_bor, Ev.norm_err, Ev.of_fz, Ev.of_own, Ev.ofB_some, Ev.o_ok, Ev.o_err, Ev.after_nx, Ev.after_rt, Ev.after_er, Ev.look_fz, Ev.look_bor, Ev.looks_nil, Ev.looks_cons, Ev.look2_eq, Ev.esc1_fz, Ev.esc1_bor, Ev.escs_nil, Ev.escs_cons, Ev.ap_var, Ev.ap_c, Ev.ap_nil, Ev.ap_cons, Ev.ap_star, Ev.ap_cb, Ev.ap_bin, Ev.ap_cmp, Ev.gcm_eq, Ev.ap_tru, Ev.tru_bl, Ev.ap_and, Ev.ap_or, Ev.ap_not, Ev.ap_andv, Ev.ap_orv, Ev.ap_notv, Ev.ap_if, Ev.ap_esc, Ev.ap_tup, Ev.ap_lst, Ev.lim_eq, Ev.ap_call, Ev.r_fz, Ev.r_own, Ev.r_err, Ev.ap_v, Ev.ap_chain, Ev.ap_neg, Ev.ap_items, Ev.items_tup, Ev.items_lst, Ev.ap_yes, Ev.ap_lc, Ev.ap_dc, Ev.ap_rev, Ev.ap_dk, Ev.ap_dn, Ev.ap_none, Ev.ap_some, Ev.ap_cut, Ev.ap_enum, Ev.ap_zip, Ev.ap_range1, Ev.ap_range2, Ev.ap_callM, Ev.ownT_eq, Ev.ap_gd, Ev.ap_mut, Ev.isL_lst, Ev.app_eq, Ev.ap_seq, Ev.ap_gif, Ev.ap_set, Ev.put_fz, Ev.put_own, Ev.put_bor, Ev.ap_ret, Ev.ap_drop, Ev.ap_gnil, Ev.ap_raise, Ev.ap_for, Ev.ap_aug, Ev.ap_asg, Ev.ap_store, Ev.ap_bname, Ev.ap_bnil, Ev.ap_bcons, Ev.ap_btup, Ev.end_rt, Ev.end_own, Ev.end_nx, Ev.end_er, Ev.end_bor, Ev.vl_fz, Ev.vl_own, List.getElem?_cons_zero, List.getElem?_cons_succ, Option.bind_some, bLen_tI, cGt_int, h1', Bool.false_eq_true, if_false]
      simp [order, h1]
  obtain ⟨s5', h5', ho⟩ := ho
  refine ⟨s5', .fz (tI (order l x y)), .fz (.int (cst f b l x y)), h5', ?_⟩
  have hb : ∀ (u : Bool) , (if u = true then (0 : Int) else 1) = if u = true then 0 else 1 := fun u => rfl
  have hc : ∀ ρ, ρ = [Sl.fz (tI l), .fz (.int b), .fz (dictOf f), .fz (oB s), .fz (.int x), s5', .un, .fz (.int y), .fz (tI (order l x y)), s9] → fBin aAdd (fBin aSub (fBin aAdd (fIf (fOr (fCmpT cEq (fVar 7) (fVar 1)) (fCmpT cLt (fVar 1) (fC (.int 0)))) (fC (.int 0)) (fC (.int 1))) (fCB bLen (fACons (fVar 0) fANil))) (fC (.int 1))) (fBin aIx (fVar 2) (fVar 4)) ρ = .ok (.fz (.int (cst f b l x y))) ρ := by
    rintro ρ rfl
    simp only [Ev.bind_ok, Ev.bind_err, Ev.map_ok, Ev.map_err, Ev.norm_fz, Ev.norm_own, Ev.norm_bor, Ev.norm_err, Ev.of_fz, Ev.of_own, Ev.ofB_some, Ev.o_ok, Ev.o_err, Ev.after_nx, Ev.after_rt, Ev.after_er, Ev.look_fz, Ev.look_bor, Ev.looks_nil, Ev.looks_cons, Ev.look2_eq, Ev.esc1_fz, Ev.esc1_bor, Ev.escs_nil, Ev.escs_cons, Ev.ap_var, Ev.ap_c, Ev.ap_nil, Ev.ap_cons, Ev.ap_star, Ev.ap_cb, Ev.ap_bin, Ev.ap_cmp, Ev.gcm_eq, Ev.ap_tru, Ev.tru_bl, Ev.ap_and, Ev.ap_or, Ev.ap_not, Ev.ap_andv, Ev.ap_orv, Ev.ap_notv, Ev.ap_if, Ev.ap_esc, Ev.ap_tup, Ev.ap_lst, Ev.lim_eq, Ev.ap_call, Ev.r_fz, Ev.r_own, Ev.r_err, Ev.ap_v, Ev.ap_chain, Ev.ap_neg, Ev.ap_items, Ev.items_tup, Ev.items_lst, Ev.ap_yes, Ev.ap_lc, Ev.ap_dc, Ev.ap_rev, Ev.ap_dk, Ev.ap_dn, Ev.ap_none, Ev.ap_some, Ev.ap_cut, Ev.ap_enum, Ev.ap_zip, Ev.ap_range1, Ev.ap_range2, Ev.ap_callM, Ev.ownT_eq, Ev.ap_gd, Ev.ap_mut, Ev.isL_lst, Ev.app_eq, Ev.ap_seq, Ev.ap_gif, Ev.ap_set, Ev.put_fz, Ev.put_own, Ev.put_bor, Ev.ap_ret, Ev.ap_drop, Ev.ap_gnil, Ev.ap_raise, Ev.ap_for, Ev.ap_aug, Ev.ap_asg, Ev.ap_store, Ev.ap_bname, Ev.ap_bnil, Ev.ap_bcons, Ev.ap_btup, Ev.end_rt, Ev.end_own, Ev.end_nx, Ev.end_er, Ev.end_bor, Ev.vl_fz, Ev.vl_own, List.getElem?_cons_zero, List.getElem?_cons_succ, Option.bind_some, cEq_int, cLt_int]
    by_cases h1 : y = b
    · simp only [h1, decide_true, if_true, Ev.bind_ok, Ev.bind_err, Ev.map_ok, Ev.map_err, Ev.norm_fz, Ev.norm_own, Ev.norm_bor, Ev.norm_err, Ev.of_fz, Ev.of_own, Ev.ofB_some, Ev.o_ok, Ev.o_err, Ev.after_nx, Ev.after_rt, Ev.after_er, Ev.look_fz, Ev.look_bor, Ev.looks_nil, Ev.looks_cons, Ev.look2_eq, Ev.esc1_fz, Ev.esc1_bor, Ev.escs_nil, Ev.escs_cons, Ev.ap_var, Ev.ap_c, Ev.ap_nil, Ev.ap_cons, Ev.ap_star, Ev.ap_cb, Ev.ap_bin, Ev.ap_cmp, Ev.gcm_eq, Ev.ap_tru, Ev.tru_bl, Ev.ap_and, Ev.ap_or, Ev.ap_not, Ev.ap_andv, Ev.ap_orv, Ev.ap_notv, Ev.ap_if, Ev.ap_esc, Ev.ap_tup, Ev.ap_lst, Ev.lim_eq, Ev.ap_call, Ev.r_fz, Ev.r_own, Ev.r_err, Ev.ap_v, Ev.ap_chain, Ev.ap_neg, Ev.ap_items, Ev.items_tup, Ev.items_lst, Ev.ap_yes, Ev.ap_lc, Ev.ap_dc, Ev.ap_rev, Ev.ap_dk, Ev.ap_dn, Ev.ap_none, Ev.ap_some, Ev.ap_cut, Ev.ap_enum, Ev.ap_zip, Ev.ap_range1, Ev.ap_range2, Ev.ap_callM, Ev.ownT_eq, Ev.ap_gd, Ev.ap_mut, Ev.isL_lst, Ev.app_eq, Ev.ap_seq, Ev.ap_gif, Ev.ap_set, Ev.put_fz, Ev.put_own, Ev.put_bor, Ev.ap_ret, Ev.ap_drop, Ev.ap_gnil, Ev.ap_raise, Ev.ap_for, Ev.ap_aug, Ev.ap_asg, Ev.ap_store, Ev.ap_bname, Ev.ap_bnil, Ev.ap_bcons, Ev.ap_btup, Ev.end_rt, Ev.end_own, Ev.end_nx, Ev.end_er, Ev.end_bor, Ev.vl_fz, Ev.vl_own, Option.bind_some, add_int, sub_int, bLen_tI, e6, List.getElem?_cons_zero, List.getElem?_cons_succ]
      simp [cst]
    · by_cases h2 : b < 0
      · simp only [h1, h2, decide_true, decide_false, Bool.false_eq_true, if_false, if_true, Ev.bind_ok, Ev.bind_err, Ev.map_ok, Ev.map_err, Ev.norm_fz, Ev.norm_own, Ev.norm_bor, Ev.norm_err, Ev.of_fz, Ev.of_own, Ev.ofB_some, Ev.o_ok, Ev.o_err, Ev.after_nx, Ev.after_rt, Ev.after_er, Ev.look_fz, Ev.look_bor, Ev.looks_nil, Ev.looks_cons, Ev.look2_eq, Ev.esc1_fz, Ev.esc1_bor, Ev.escs_nil, Ev.escs_cons, Ev.ap_var, Ev.ap_c, Ev.ap_nil, Ev.ap_cons, Ev.ap_star, Ev.ap_cb, Ev.ap_bin, Ev.ap_cmp, Ev.gcm_eq, Ev.ap_tru, Ev.tru_bl, Ev.ap_and, Ev.ap_or, Ev.ap_not, Ev.ap_andv, Ev.ap_orv, Ev.ap_notv, Ev.ap_if, Ev.ap_esc, Ev.ap_tup, Ev.ap_lst, Ev.lim_eq, Ev.ap_call, Ev.r_fz, Ev.r_own, Ev.r_err, Ev.ap_v, Ev.ap_chain, Ev.ap_neg, Ev.ap_items, Ev.items_tup, Ev.items_lst, Ev.ap_yes, Ev.ap_lc, Ev.ap_dc, Ev.ap_rev, Ev.ap_dk, Ev.ap_dn, Ev.ap_none, Ev.ap_some, Ev.ap_cut, Ev.ap_enum, Ev.ap_zip, Ev.ap_range1, Ev.ap_range2, Ev.ap_callM, Ev.ownT_eq, Ev.ap_gd, Ev.ap_mut, Ev.isL_lst, Ev.app_eq, Ev.ap_seq, Ev.ap_gif, Ev.ap_set, Ev.put_fz, Ev.put_own, Ev.put_bor, Ev.ap_ret, Ev.ap_drop, Ev.ap_gnil, Ev.ap_raise, Ev.ap_for, Ev.ap_aug, Ev.ap_asg, Ev.ap_store, Ev.ap_bname, Ev.ap_bnil, Ev.ap_bcons, Ev.ap_btup, Ev.end_rt, Ev.end_own, Ev.end_nx, Ev.end_er, Ev.end_bor, Ev.vl_fz, Ev.vl_own, Option.bind_some, add_int, sub_int, bLen_tI, e6, List.getElem?_cons_zero, List.getElem?_cons_succ]
        simp [cst, h2]
      · simp only [h1, h2, decide_true, decide_false, Bool.false_eq_true, if_false, if_true, Ev.bind_ok, Ev.bind_err, Ev.map_ok, Ev.map_err, Ev.norm_fz, Ev.norm_own, Ev.norm_bor, Ev.norm_err, Ev.of_fz, Ev.of_own, Ev.ofB_some, Ev.o_ok, Ev.o_err, Ev.after_nx, Ev.after_rt, Ev.after_er, Ev.look_fz, Ev.look_bor, Ev.looks_nil, Ev.looks_cons, Ev.look2_eq, Ev.esc1_fz, Ev.esc1_bor, Ev.escs_nil, Ev.escs_cons, Ev.ap_var, Ev.ap_c, Ev.ap_nil, Ev.ap_cons, Ev.ap_star, Ev.ap_cb, Ev.ap_bin, Ev.ap_cmp, Ev.gcm_eq, Ev.ap_tru, Ev.tru_bl, Ev.ap_and, Ev.ap_or, Ev.ap_not, Ev.ap_andv, Ev.ap_orv, Ev.ap_notv, Ev.ap_if, Ev.ap_esc, Ev.ap_tup, Ev.ap_lst, Ev.lim_eq, Ev.ap_call, Ev.r_fz, Ev.r_own, Ev.r_err, Ev.ap_v, Ev.ap_chain, Ev.ap_neg, Ev.ap_items, Ev.items_tup, Ev.items_lst, Ev.ap_yes, Ev.ap_lc, Ev.ap_dc, Ev.ap_rev, Ev.ap_dk, Ev.ap_dn, Ev.ap_none, Ev.ap_some, Ev.ap_cut, Ev.ap_enum, Ev.ap_zip, Ev.ap_range1, Ev.ap_range2, Ev.ap_callM, Ev.ownT_eq, Ev.ap_gd, Ev.ap_mut, Ev.isL_lst, Ev.app_eq, Ev.ap_seq, Ev.ap_gif, Ev.ap_set, Ev.put_fz, Ev.put_own, Ev.put_bor, Ev.ap_ret, Ev.ap_drop, Ev.ap_gnil, Ev.ap_raise, Ev.ap_for, Ev.ap_aug, Ev.ap_asg, Ev.ap_store, Ev.ap_bname, Ev.ap_bnil, Ev.ap_bcons, Ev.ap_btup, Ev.end_rt, Ev.end_own, Ev.end_nx, Ev.end_er, Ev.end_bor, Ev.vl_fz, Ev.vl_own, Option.bind_some, add_int, sub_int, bLen_tI, e6, List.getElem?_cons_zero, List.getElem?_cons_succ]
        simp [cst, h1, h2]
  have hc := hc _ rfl
  unfold bleast_order1
  simp only [Ev.ap_seq, Ev.ap_set, ho, Ev.o_ok, Ev.put_fz, Ev.after_nx, List.set_cons_zero, List.set_cons_succ, hc, Ev.ap_gif, Ev.ap_or, Ev.ap_cmp, Ev.ap_var, List.getElem?_cons_zero, List.getElem?_cons_succ, Ev.norm_fz, Ev.bind_ok, Ev.ap_c, Ev.look2_eq, Ev.look_fz, cIsN_oB, Ev.ofB_some]
  have g := fun d => cLt_cand (cst f b l x y, order l x y) d
  dsimp only at g
  cases s with
  | none =>
    simp only [decide_true, if_true, Ev.bind_ok, Ev.bind_err, Ev.map_ok, Ev.map_err, Ev.norm_fz, Ev.norm_own, Ev.norm_bor, Ev.norm_err, Ev.of_fz, Ev.of_own, Ev.ofB_some, Ev.o_ok, Ev.o_err, Ev.after_nx, Ev.after_rt, Ev.after_er, Ev.look_fz, Ev.look_bor, Ev.looks_nil, Ev.looks_cons, Ev.look2_eq, Ev.esc1_fz, Ev.esc1_bor, Ev.escs_nil, Ev.escs_cons, Ev.ap_var, Ev.ap_c, Ev.ap_nil, Ev.ap_cons, Ev.ap_star, Ev.ap_cb, Ev.ap_bin, Ev.ap_cmp, Ev.gcm_eq, Ev.ap_tru, Ev.tru_bl, Ev.ap_and, Ev.ap_or, Ev.ap_not, Ev.ap_andv, Ev.ap_orv, Ev.ap_notv, Ev.ap_if, Ev.ap_esc, Ev.ap_tup, Ev.ap_lst, Ev.lim_eq, Ev.ap_call, Ev.r_fz, Ev.r_own, Ev.r_err, Ev.ap_v, Ev.ap_chain, Ev.ap_neg, Ev.ap_items, Ev.items_tup, Ev.items_lst, Ev.ap_yes, Ev.ap_lc, Ev.ap_dc, Ev.ap_rev, Ev.ap_dk, Ev.ap_dn, Ev.ap_none, Ev.ap_some, Ev.ap_cut, Ev.ap_enum, Ev.ap_zip, Ev.ap_range1, Ev.ap_range2, Ev.ap_callM, Ev.ownT_eq, Ev.ap_gd, Ev.ap_mut, Ev.isL_lst, Ev.app_eq, Ev.ap_seq, Ev.ap_gif, Ev.ap_set, Ev.put_fz, Ev.put_own, Ev.put_bor, Ev.ap_ret, Ev.ap_drop, Ev.ap_gnil, Ev.ap_raise, Ev.ap_for, Ev.ap_aug, Ev.ap_asg, Ev.ap_store, Ev.ap_bname, Ev.ap_bnil, Ev.ap_bcons, Ev.ap_btup, Ev.end_rt, Ev.end_own, Ev.end_nx, Ev.end_er, Ev.end_bor, Ev.vl_fz, Ev.vl_own, List.getElem?_cons_zero, List.getElem?_cons_succ, List.set_cons_zero, List.set_cons_succ, List.length_cons, List.length_nil, Nat.reduceAdd, Nat.reduceLeDiff]
    rfl
  | some d =>
    have n : (some d = none) = False := by simp
    simp only [n, decide_false, Bool.false_eq_true, if_false, Ev.bind_ok, Ev.bind_err, Ev.map_ok, Ev.map_err, Ev.norm_fz, Ev.norm_own, Ev.norm_bor, Ev.norm_err, Ev.of_fz, Ev.of_own, Ev.ofB_some, Ev.o_ok, Ev.o_err, Ev.after_nx, Ev.after_rt, Ev.after_er, Ev.look_fz, Ev.look_bor, Ev.looks_nil, Ev.looks_cons, Ev.look2_eq, Ev.esc1_fz, Ev.esc1_bor, Ev.escs_nil, Ev.escs_cons, Ev.ap_var, Ev.ap_c, Ev.ap_nil, Ev.ap_cons, Ev.ap_star, Ev.ap_cb, Ev.ap_bin, Ev.ap_cmp, Ev.gcm_eq, Ev.ap_tru, Ev.tru_bl, Ev.ap_and, Ev.ap_or, Ev.ap_not, Ev.ap_andv, Ev.ap_orv, Ev.ap_notv, Ev.ap_if, Ev.ap_esc, Ev.ap_tup, Ev.ap_lst, Ev.lim_eq, Ev.ap_call, Ev.r_fz, Ev.r_own, Ev.r_err, Ev.ap_v, Ev.ap_chain, Ev.ap_neg, Ev.ap_items, Ev.items_tup, Ev.items_lst, Ev.ap_yes, Ev.ap_lc, Ev.ap_dc, Ev.ap_rev, Ev.ap_dk, Ev.ap_dn, Ev.ap_none, Ev.ap_some, Ev.ap_cut, Ev.ap_enum, Ev.ap_zip, Ev.ap_range1, Ev.ap_range2, Ev.ap_callM, Ev.ownT_eq, Ev.ap_gd, Ev.ap_mut, Ev.isL_lst, Ev.app_eq, Ev.ap_seq, Ev.ap_gif, Ev.ap_set, Ev.put_fz, Ev.put_own, Ev.put_bor, Ev.ap_ret, Ev.ap_drop, Ev.ap_gnil, Ev.ap_raise, Ev.ap_for, Ev.ap_aug, Ev.ap_asg, Ev.ap_store, Ev.ap_bname, Ev.ap_bnil, Ev.ap_bcons, Ev.ap_btup, Ev.end_rt, Ev.end_own, Ev.end_nx, Ev.end_er, Ev.end_bor, Ev.vl_fz, Ev.vl_own, List.getElem?_cons_zero, List.getElem?_cons_succ, List.set_cons_zero, List.set_cons_succ, List.length_cons, List.length_nil, Nat.reduceAdd, Nat.reduceLeDiff, if_true, g]
    by_cases h : ltC (cst f b l x y, order l x y) d
    · simp only [h, decide_true, if_true, Ev.bind_ok, Ev.bind_err, Ev.map_ok, Ev.map_err, Ev.norm_fz, Ev.norm_own, Ev.norm_bor, Ev.norm_err, Ev.of_fz, Ev.of_own, Ev.ofB_some, Ev.o_ok, Ev.o_err, Ev.after_nx, Ev.after_rt, Ev.after_er, Ev.look_fz, Ev.look_bor, Ev.looks_nil, Ev.looks_cons, Ev.look2_eq, Ev.esc1_fz, Ev.esc1_bor, Ev.escs_nil, Ev.escs_cons, Ev.ap_var, Ev.ap_c, Ev.ap_nil, Ev.ap_cons, Ev.ap_star, Ev.ap_cb, Ev.ap_bin, Ev.ap_cmp, Ev.gcm_eq, Ev.ap_tru, Ev.tru_bl, Ev.ap_and, Ev.ap_or, Ev.ap_not, Ev.ap_andv, Ev.ap_orv, Ev.ap_notv, Ev.ap_if, Ev.ap_esc, Ev.ap_tup, Ev.ap_lst, Ev.lim_eq, Ev.ap_call, Ev.r_fz, Ev.r_own, Ev.r_err, Ev.ap_v, Ev.ap_chain, Ev.ap_neg, Ev.ap_items, Ev.items_tup, Ev.items_lst, Ev.ap_yes, Ev.ap_lc, Ev.ap_dc, Ev.ap_rev, Ev.ap_dk, Ev.ap_dn, Ev.ap_none, Ev.ap_some, Ev.ap_cut, Ev.ap_enum, Ev.ap_zip, Ev.ap_range1, Ev.ap_range2, Ev.ap_callM, Ev.ownT_eq, Ev.ap_gd, Ev.ap_mut, Ev.isL_lst, Ev.app_eq, Ev.ap_seq, Ev.ap_gif, Ev.ap_set, Ev.put_fz, Ev.put_own, Ev.put_bor, Ev.ap_ret, Ev.ap_drop, Ev.ap_gnil, Ev.ap_raise, Ev.ap_for, Ev.ap_aug, Ev.ap_asg, Ev.ap_store, Ev.ap_bname, Ev.ap_bnil, Ev.ap_bcons, Ev.ap_btup, Ev.end_rt, Ev.end_own, Ev.end_nx, Ev.end_er, Ev.end_bor, Ev.vl_fz, Ev.vl_own, List.getElem?_cons_zero, List.getElem?_cons_succ, List.set_cons_zero, List.set_cons_succ, List.length_cons, List.length_nil, Nat.reduceAdd, Nat.reduceLeDiff]
      simp [bst, h, oB]
    · simp only [h, decide_false, Bool.false_eq_true, if_false, Ev.bind_ok, Ev.bind_err, Ev.map_ok, Ev.map_err, Ev.norm_fz, Ev.norm_own, Ev.norm_bor, Ev.norm_err, Ev.of_fz, Ev.of_own, Ev.ofB_some, Ev.o_ok, Ev.o_err, Ev.after_nx, Ev.after_rt, Ev.after_er, Ev.look_fz, Ev.look_bor, Ev.looks_nil, Ev.looks_cons, Ev.look2_eq, Ev.esc1_fz, Ev.esc1_bor, Ev.escs_nil, Ev.escs_cons, Ev.ap_var, Ev.ap_c, Ev.ap_nil, Ev.ap_cons, Ev.ap_star, Ev.ap_cb, Ev.ap_bin, Ev.ap_cmp, Ev.gcm_eq, Ev.ap_tru, Ev.tru_bl, Ev.ap_and, Ev.ap_or, Ev.ap_not, Ev.ap_andv, Ev.ap_orv, Ev.ap_notv, Ev.ap_if, Ev.ap_esc, Ev.ap_tup, Ev.ap_lst, Ev.lim_eq, Ev.ap_call, Ev.r_fz, Ev.r_own, Ev.r_err, Ev.ap_v, Ev.ap_chain, Ev.ap_neg, Ev.ap_items, Ev.items_tup, Ev.items_lst, Ev.ap_yes, Ev.ap_lc, Ev.ap_dc, Ev.ap_rev, Ev.ap_dk, Ev.ap_dn, Ev.ap_none, Ev.ap_some, Ev.ap_cut, Ev.ap_enum, Ev.ap_zip, Ev.ap_range1, Ev.ap_range2, Ev.ap_callM, Ev.ownT_eq, Ev.ap_gd, Ev.ap_mut, Ev.isL_lst, Ev.app_eq, Ev.ap_seq, Ev.ap_gif, Ev.ap_set, Ev.put_fz, Ev.put_own, Ev.put_bor, Ev.ap_ret, Ev.ap_drop, Ev.ap_gnil, Ev.ap_raise, Ev.ap_for, Ev.ap_aug, Ev.ap_asg, Ev.ap_store, Ev.ap_bname, Ev.ap_bnil, Ev.ap_bcons, Ev.ap_btup, Ev.end_rt, Ev.end_own, Ev.end_nx, Ev.end_er, Ev.end_bor, Ev.vl_fz, Ev.vl_own]
      simp [bst, h]
theorem lo1 {l : List Int} (hl : Lay l) (f : Int → Int) (b : Int) (s : Option (Int × List Int)) {x : Int} (hx : x ∈ l) (s5 s7 s8 s9 : Sl)
    (h5 : s5 = .fz (.lst ((srt (l.filter fun z => decide (z ≠ x))).map T.int)) ∨ s5 = .own none (.lst ((srt (l.filter fun z => decide (z ≠ x))).map T.int))) :
    ∃ s5' s7' s8' s9', forL (bName 7) bleast_order1 ((firstOnes l x).map T.int) [.fz (tI l), .fz (.int b), .fz (dictOf f), .fz (oB s), .fz (.int x), s5, .un, s7, s8, s9] = .nx [.fz (tI l), .fz (.int b), .fz (dictOf f), .fz (oB ((candsAt l b f x).foldl bst s)), .fz (.int x), s5', .un, s7', s8', s9'] := by
  obtain ⟨ρ', e, s5', s7', s8', s9', h5', q⟩ := forL_pre (g := bleast_order1) (b := bName 7) T.int (fun pre ρ => ∃ s5' s7' s8' s9', (s5' = .fz (.lst ((srt (l.filter fun z => decide (z ≠ x))).map T.int)) ∨ s5' = .own none (.lst ((srt (l.filter fun z => decide (z ≠ x))).map T.int))) ∧ ρ = [.fz (tI l), .fz (.int b), .fz (dictOf f), .fz (oB ((pre.map fun y => (cst f b l x y, order l x y)).foldl bst s)), .fz (.int x), s5', .un, s7', s8', s9']) (firstOnes l x) [] [.fz (tI l), .fz (.int b), .fz (dictOf f), .fz (oB s), .fz (.int x), s5, .un, s7, s8, s9]
    (fun pre y post ρ hp hy ⟨s5, s7, s8, s9, h5, q⟩ => by
      obtain ⟨s5', s8', s9', h5', e⟩ := lo_turn hl f b ((pre.map fun y => (cst f b l x y, order l x y)).foldl bst s) hx y s5 s8 s9 h5
      refine ⟨_, by subst q; rfl, _, e, s5', .fz (.int y), s8', s9', h5', ?_⟩
      simp only [List.map_append, List.map_cons, List.map_nil, List.foldl_append, List.foldl_cons, List.foldl_nil]) ⟨_, _, _, _, h5, rfl⟩
  exact ⟨s5', s7', s8', s9', by rw [e, q]; rfl⟩
theorem lo0 {l : List Int} (hl : Lay l) (f : Int → Int) (b : Int) (s4 s5 s7 s8 s9 : Sl) :
    ∃ s4' s5' s7' s8' s9', forL (bName 4) bleast_order0 (l.map T.int) [.fz (tI l), .fz (.int b), .fz (dictOf f), .fz .non, s4, s5, .un, s7, s8, s9] = .nx [.fz (tI l), .fz (.int b), .fz (dictOf f), .fz (oB ((cands l b f).foldl bst none)), s4', s5', .un, s7', s8', s9'] := by
  have hlen := lay_len hl
  obtain ⟨ρ', e, s4', s5', s7', s8', s9', q⟩ := forL_pre (g := bleast_order0) (b := bName 4) T.int (fun pre ρ => ∃ s4' s5' s7' s8' s9', ρ = [.fz (tI l), .fz (.int b), .fz (dictOf f), .fz (oB (((pre.map (candsAt l b f)).flatten).foldl bst none)), s4', s5', .un, s7', s8', s9']) l [] [.fz (tI l), .fz (.int b), .fz (dictOf f), .fz .non, s4, s5, .un, s7, s8, s9]
    (fun pre x post ρ hp hx ⟨s4, s5, s7, s8, s9, q⟩ => by
      obtain ⟨s5', s7', s8', s9', e⟩ := lo1 hl f b (((pre.map (candsAt l b f)).flatten).foldl bst none) hx (.own none (.lst ((srt (l.filter fun z => decide (z ≠ x))).map T.int))) s7 s8 s9 (.inr rfl)
      refine ⟨_, by subst q; rfl, [.fz (tI l), .fz (.int b), .fz (dictOf f), .fz (oB ((((pre ++ [x]).map (candsAt l b f)).flatten).foldl bst none)), .fz (.int x), s5', .un, s7', s8', s9'], ?_, ⟨_, _, _, _, _, rfl⟩⟩
      show bleast_order0 [.fz (tI l), .fz (.int b), .fz (dictOf f), .fz (oB (((pre.map (candsAt l b f)).flatten).foldl bst none)), .fz (.int x), s5, .un, s7, s8, s9] = _
      have e0 := lcL_gen (vs := [6]) (b := bName 6) (ft := fCmpT cNe (fVar 6) (fVar 4)) (fe := fVar 6) (ρ := [.fz (tI l), .fz (.int b), .fz (dictOf f), .fz (oB (((pre.map (candsAt l b f)).flatten).foldl bst none)), .fz (.int x), s5, .un, s7, s8, s9]) T.int (fun z => decide (z ≠ x)) T.int l [] (fun z hz => by
        refine ⟨[.fz (tI l), .fz (.int b), .fz (dictOf f), .fz (oB (((pre.map (candsAt l b f)).flatten).foldl bst none)), .fz (.int x), s5, .fz (.int z), s7, s8, s9], rfl, ?_, fun _ => rfl, rfl⟩
        simp only [Ev.bind_ok, Ev.bind_err, Ev.map_ok, Ev.map_err, Ev.norm_fz, Ev.norm_own, Ev.norm_bor, Ev.norm_err, Ev.of_fz, Ev.of_own, Ev.ofB_some, Ev.o_ok, Ev.o_err, Ev.after_nx, Ev.after_rt, Ev.after_er, Ev.look_fz, Ev.look_bor, Ev.looks_nil, Ev.looks_cons, Ev.look2_eq, Ev.esc1_fz, Ev.esc1_bor, Ev.escs_nil, Ev.escs_cons, Ev.ap_var, Ev.ap_c, Ev.ap_nil, Ev.ap_cons, Ev.ap_star, Ev.ap_cb, Ev.ap_bin, Ev.ap_cmp, Ev.gcm_eq, Ev.ap_tru, Ev.tru_bl, Ev.ap_and, Ev.ap_or, Ev.ap_not, Ev.ap_andv, Ev.ap_orv, Ev.ap_notv, Ev.ap_if, Ev.ap_esc, Ev.ap_tup, Ev.ap_lst, Ev.lim_eq, Ev.ap_call, Ev.r_fz, Ev.r_own, Ev.r_err, Ev.ap_v, Ev.ap_chain, Ev.ap_neg, Ev.ap_items, Ev.items_tup, Ev.items_lst, Ev.ap_yes, Ev.ap_lc, Ev.ap_dc, Ev.ap_rev, Ev.ap_dk, Ev.ap_dn, Ev.ap_none, Ev.ap_some, Ev.ap_cut, Ev.ap_enum, Ev.ap_zip, Ev.ap_range1, Ev.ap_range2, Ev.ap_callM, Ev.ownT_eq, Ev.ap_gd, Ev.ap_mut, Ev.isL_lst, Ev.app_eq, Ev.ap_seq, Ev.ap_gif, Ev.ap_set, Ev.put_fz, Ev.put_own, Ev.put_bor, Ev.ap_ret, Ev.ap_drop, Ev.ap_gnil, Ev.ap_raise, Ev.ap_for, Ev.ap_aug, Ev.ap_asg, Ev.ap_store, Ev.ap_bname, Ev.ap_bnil, Ev.ap_bcons, Ev.ap_btup, Ev.end_rt, Ev.end_own, Ev.end_nx, Ev.end_er, Ev.end_bor, Ev.vl_fz, Ev.vl_own, List.getElem?_cons_zero, List.getElem?_cons_succ, cNe_int]) (by simp; omega)
      rw [List.nil_append] at e0
      have e1 := first_ok (l := l) (by omega) x
      have e2 : (((pre ++ [x]).map (candsAt l b f)).flatten).foldl bst none = (candsAt l b f x).foldl bst (((pre.map (candsAt l b f)).flatten).foldl bst none) := by
        simp [List.foldl_append]
      rw [e2]
      unfold bleast_order1 at e
      unfold bleast_order0
      simp only [Ev.bind_ok, Ev.bind_err, Ev.map_ok, Ev.map_err, Ev.norm_fz, Ev.norm_own, Ev.norm_bor, Ev.norm_err, Ev.of_fz, Ev.of_own, Ev.ofB_some, Ev.o_ok, Ev.o_err, Ev.after_nx, Ev.after_rt, Ev.after_er, Ev.look_fz, Ev.look_bor, Ev.looks_nil, Ev.looks_cons, Ev.look2_eq, Ev.esc1_fz, Ev.esc1_bor, Ev.escs_nil, Ev.escs_cons, Ev.ap_var, Ev.ap_c, Ev.ap_nil, Ev.ap_cons, Ev.ap_star, Ev.ap_cb, Ev.ap_bin, Ev.ap_cmp, Ev.gcm_eq, Ev.ap_tru, Ev.tru_bl, Ev.ap_and, Ev.ap_or, Ev.ap_not, Ev.ap_andv, Ev.ap_orv, Ev.ap_notv, Ev.ap_if, Ev.ap_esc, Ev.ap_tup, Ev.ap_lst, Ev.lim_eq, Ev.ap_call, Ev.r_fz, Ev.r_own, Ev.r_err, Ev.ap_v, Ev.ap_chain, Ev.ap_neg, Ev.ap_items, Ev.items_tup, Ev.items_lst, Ev.ap_yes, Ev.ap_lc, Ev.ap_dc, Ev.ap_rev, Ev.ap_dk, Ev.ap_dn, Ev.ap_none, Ev.ap_some, Ev.ap_cut, Ev.ap_enum, Ev.ap_zip, Ev.ap_range1, Ev.ap_range2, Ev.ap_callM, Ev.ownT_eq, Ev.ap_gd, Ev.ap_mut, Ev.isL_lst, Ev.app_eq, Ev.ap_seq, Ev.ap_gif, Ev.ap_set, Ev.put_fz, Ev.put_own, Ev.put_bor, Ev.ap_ret, Ev.ap_drop, Ev.ap_gnil, Ev.ap_raise, Ev.ap_for, Ev.ap_aug, Ev.ap_asg, Ev.ap_store, Ev.ap_bname, Ev.ap_bnil, Ev.ap_bcons, Ev.ap_btup, Ev.end_rt, Ev.end_own, Ev.end_nx, Ev.end_er, Ev.end_bor, Ev.vl_fz, Ev.vl_own, List.getElem?_cons_zero, List.getElem?_cons_succ, Option.bind_some, List.set_cons_zero, List.set_cons_succ, items_tI, e0, bSorted_ints, e1, e]) ⟨_, _, _, _, _, rfl⟩
  exact ⟨s4', s5', s7', s8', s9', by rw [e, q]; rfl⟩
theorem least_ok {l : List Int} (hl : Lay l) (f : Int → Int) (b : Int) {c : Int × List Int} (hc : (cands l b f).foldl bst none = some c) : m_least_order [tI l, .int b, dictOf f] = .ok (.fz (tI c.2)) := by
  obtain ⟨s4', s5', s7', s8', s9', e⟩ := lo0 hl f b .un .un .un .un .un
  rw [hc] at e
  have es : List.replicate (10 - 3) Sl.un = [.un, .un, .un, .un, .un, .un, .un] := rfl
  have e1 : aIx (oB (some c)) (.int 1) = some (.fz (tI c.2)) := rfl
  unfold bleast_order0 at e
  unfold m_least_order
  rw [mkP3, es]
  unfold g_least_order
  simp only [Ev.bind_ok, Ev.bind_err, Ev.map_ok, Ev.map_err, Ev.norm_fz, Ev.norm_own, Ev.norm_bor, Ev.norm_err, Ev.of_fz, Ev.of_own, Ev.ofB_some, Ev.o_ok, Ev.o_err, Ev.after_nx, Ev.after_rt, Ev.after_er, Ev.look_fz, Ev.look_bor, Ev.looks_nil, Ev.looks_cons, Ev.look2_eq, Ev.esc1_fz, Ev.esc1_bor, Ev.escs_nil, Ev.escs_cons, Ev.ap_var, Ev.ap_c, Ev.ap_nil, Ev.ap_cons, Ev.ap_star, Ev.ap_cb, Ev.ap_bin, Ev.ap_cmp, Ev.gcm_eq, Ev.ap_tru, Ev.tru_bl, Ev.ap_and, Ev.ap_or, Ev.ap_not, Ev.ap_andv, Ev.ap_orv, Ev.ap_notv, Ev.ap_if, Ev.ap_esc, Ev.ap_tup, Ev.ap_lst, Ev.lim_eq, Ev.ap_call, Ev.r_fz, Ev.r_own, Ev.r_err, Ev.ap_v, Ev.ap_chain, Ev.ap_neg, Ev.ap_items, Ev.items_tup, Ev.items_lst, Ev.ap_yes, Ev.ap_lc, Ev.ap_dc, Ev.ap_rev, Ev.ap_dk, Ev.ap_dn, Ev.ap_none, Ev.ap_some, Ev.ap_cut, Ev.ap_enum, Ev.ap_zip, Ev.ap_range1, Ev.ap_range2, Ev.ap_callM, Ev.ownT_eq, Ev.ap_gd, Ev.ap_mut, Ev.isL_lst, Ev.app_eq, Ev.ap_seq, Ev.ap_gif, Ev.ap_set, Ev.put_fz, Ev.put_own, Ev.put_bor, Ev.ap_ret, Ev.ap_drop, Ev.ap_gnil, Ev.ap_raise, Ev.ap_for, Ev.ap_aug, Ev.ap_asg, Ev.ap_store, Ev.ap_bname, Ev.ap_bnil, Ev.ap_bcons, Ev.ap_btup, Ev.end_rt, Ev.end_own, Ev.end_nx, Ev.end_er, Ev.end_bor, Ev.vl_fz, Ev.vl_own, List.getElem?_cons_zero, List.getElem?_cons_succ, Option.bind_some, List.set_cons_zero, List.set_cons_succ, items_tI, e, e1]
end K24
end

section
set_option Elab.async false
set_option linter.all false
namespace K24
open PySem PySem.Spec PyProof.Rows L2 FX
/-! ### the least of a list, and the order of candidates -/
theorem lt_app {α : Type} [LT α] : ∀ (u v w w' : List α), u.length = v.length → u < v → u ++ w < v ++ w'
  | [], [], w, w', _, h => absurd h (List.not_lt_nil _)
  | [], b :: v, w, w', e, _ => by simp at e
  | a :: u, [], w, w', e, _ => by simp at e
  | a :: u, b :: v, w, w', e, h => by
    rw [List.cons_lt_cons_iff] at h
    rw [List.cons_append, List.cons_append, List.cons_lt_cons_iff]
    rcases h with h | ⟨h1, h2⟩
    · exact .inl h
    · exact .inr ⟨h1, lt_app u v w w' (by simpa using e) h2⟩
structure Tot (α : Type) [LT α] : Prop where
  irr : ∀ a : α, ¬ a < a
  tr : ∀ a b c : α, a < b → b < c → a < c
  tri : ∀ a b : α, a < b ∨ a = b ∨ b < a
theorem tot_int : Tot Int := ⟨fun a => by omega, fun a b c => by omega, fun a b => by omega⟩
theorem tot_list {α : Type} [LT α] (t : Tot α) : Tot (List α) := by
  refine ⟨fun a => ?_, fun a => ?_, fun a => ?_⟩
  · induction a with
    | nil => exact List.not_lt_nil _
    | cons x a ih =>
      rw [List.cons_lt_cons_iff]
      rintro (h | ⟨_, h⟩)
      · exact t.irr _ h
      · exact ih h
  · induction a with
    | nil =>
      intro b c h1 h2
      cases c with
      | nil => exact absurd h2 (List.not_lt_nil _)
      | cons y c => exact List.nil_lt_cons _ _
    | cons x a ih =>
      intro b c h1 h2
      cases b with
      | nil => exact absurd h1 (List.not_lt_nil _)
      | cons y b =>
        cases c with
        | nil => exact absurd h2 (List.not_lt_nil _)
        | cons z c =>
          rw [List.cons_lt_cons_iff] at h1 h2 ⊢
          rcases h1 with h1 | ⟨e1, h1⟩
          · rcases h2 with h2 | ⟨e2, h2⟩
            · exact .inl (t.tr _ _ _ h1 h2)
            · subst e2; exact .inl h1
          · subst e1
            rcases h2 with h2 | ⟨e2, h2⟩
            · exact .inl h2
            · exact .inr ⟨e2, ih _ _ h1 h2⟩
  · induction a with
    | nil =>
      intro b
      cases b with
      | nil => exact .inr (.inl rfl)
      | cons y b => exact .inl (List.nil_lt_cons _ _)
    | cons x a ih =>
      intro b
      cases b with
      | nil => exact .inr (.inr (List.nil_lt_cons _ _))
      | cons y b =>
        rw [List.cons_lt_cons_iff, List.cons_lt_cons_iff]
        rcases t.tri x y with h | h | h
        · exact .inl (.inl h)
        · subst h
          rcases ih b with h | h | h
          · exact .inl (.inr ⟨rfl, h⟩)
          · exact .inr (.inl (by rw [h]))
          · exact .inr (.inr (.inr ⟨rfl, h⟩))
        · exact .inr (.inr (.inl h))
theorem tL : Tot (List Int) := tot_list tot_int
theorem tLL : Tot (List (List Int)) := tot_list tL
/-- pairs of a cost and a thing -/
def ltP {α : Type} [LT α] (c d : Int × α) : Prop := c.1 < d.1 ∨ c.1 = d.1 ∧ c.2 < d.2
theorem ltP_irr {α : Type} [LT α] (t : Tot α) (c : Int × α) : ¬ ltP c c := by
  rintro (h | ⟨_, h⟩)
  · omega
  · exact t.irr _ h
theorem ltP_tr {α : Type} [LT α] (t : Tot α) {c d e : Int × α} (h : ltP c d) (h' : ltP d e) : ltP c e := by
  rcases h with h | ⟨e1, h⟩ <;> rcases h' with h' | ⟨e2, h'⟩
  · exact .inl (by omega)
  · exact .inl (by omega)
  · exact .inl (by omega)
  · exact .inr ⟨by omega, t.tr _ _ _ h h'⟩
theorem ltP_tri {α : Type} [LT α] (t : Tot α) (c d : Int × α) : ltP c d ∨ c = d ∨ ltP d c := by
  rcases Int.lt_trichotomy c.1 d.1 with h | h | h
  · exact .inl (.inl h)
  · rcases t.tri c.2 d.2 with h2 | h2 | h2
    · exact .inl (.inr ⟨h, h2⟩)
    · exact .inr (.inl (Prod.ext h h2))
    · exact .inr (.inr (.inr ⟨h.symm, h2⟩))
  · exact .inr (.inr (.inl h))
theorem bst_fold : ∀ (cs : List (Int × List Int)) (s : Option (Int × List Int)), (s = none → cs ≠ []) → ∃ c, cs.foldl bst s = some c ∧ (c ∈ cs ∨ s = some c) ∧ (∀ d, s = some d → ¬ ltC d c) ∧ ∀ d ∈ cs, ¬ ltC d c
  | [], none, h => absurd rfl (h rfl)
  | [], some c, _ => ⟨c, rfl, .inr rfl, fun d e => by cases e; exact ltP_irr tL c, fun d h => by cases h⟩
  | e :: cs, s, _ => by
    have hs : ∃ m, bst s e = some m ∧ (m = e ∨ s = some m) ∧ ¬ ltC e m ∧ ∀ d, s = some d → ¬ ltC d m := by
      cases s with
      | none => exact ⟨e, rfl, .inl rfl, ltP_irr tL e, fun d z => by cases z⟩
      | some d =>
        by_cases h : ltC e d
        · exact ⟨e, if_pos h, .inl rfl, ltP_irr tL e, fun d' z => by cases z; exact fun q => ltP_irr tL d (ltP_tr tL q h)⟩
        · exact ⟨d, if_neg h, .inr rfl, h, fun d' z => by cases z; exact ltP_irr tL d⟩
    obtain ⟨m, e1, h1, h2, h3⟩ := hs
    obtain ⟨c, f1, f2, f3, f4⟩ := bst_fold cs (some m) (fun z => by cases z)
    have f3 := f3 m rfl
    have key : ∀ d, ¬ ltC d m → ¬ ltC d c := fun d hd q => by
      rcases ltP_tri tL m c with z | z | z
      · exact f3 z
      · subst z; exact hd q
      · exact hd (ltP_tr tL q z)
    refine ⟨c, by rw [List.foldl_cons, e1, f1], ?_, fun d z => key d (h3 d z), fun d hd => ?_⟩
    · rcases f2 with f2 | f2
      · exact .inl (List.mem_cons_of_mem _ f2)
      · injection f2 with f2
        subst f2
        rcases h1 with h1 | h1
        · subst h1; exact .inl List.mem_cons_self
        · exact .inr h1
    · rcases List.mem_cons.mp hd with z | z
      · subst z; exact key _ h2
      · exact f4 d z
theorem mn_mem : ∀ {l : List Int}, l ≠ [] → mn l ∈ l ∧ ∀ x ∈ l, mn l ≤ x
  | [], h => absurd rfl h
  | n :: ns, _ => by
    have : ∀ (ns : List Int) (n : Int), (ns.foldl min n = n ∨ ns.foldl min n ∈ ns) ∧ ns.foldl min n ≤ n ∧ ∀ x ∈ ns, ns.foldl min n ≤ x := by
      intro ns
      induction ns with
      | nil => intro n; exact ⟨.inl rfl, by simp, fun x h => by cases h⟩
      | cons m ns ih =>
        intro n
        obtain ⟨h1, h2, h3⟩ := ih (min n m)
        rw [List.foldl_cons]
        refine ⟨?_, by omega, fun x hx => ?_⟩
        · rcases h1 with h1 | h1
          · rcases Int.le_total n m with h | h
            · exact .inl (by omega)
            · exact .inr (List.mem_cons.mpr (.inl (by omega)))
          · exact .inr (List.mem_cons_of_mem _ h1)
        · rcases List.mem_cons.mp hx with z | z
          · subst z; omega
          · exact h3 x z
    obtain ⟨h1, h2, h3⟩ := this ns n
    refine ⟨List.mem_cons.mpr h1, fun x hx => ?_⟩
    rcases List.mem_cons.mp hx with z | z
    · subst z; exact h2
    · exact h3 x z
end K24
end

section
set_option Elab.async false
set_option linter.all false
namespace K24
open PySem PySem.Spec PyProof.Rows L2 FX
def hd (o : List Int) : Int := o.headD 0
def lst (o : List Int) : Int := o.getLastD 0
def c1 (b : Int) (o : List Int) : Int := (if hd o = b ∨ b < 0 then 0 else 1) + o.length - 1
def tot : Int → List (List Int) → Int
  | _, [] => 0
  | b, o :: S => c1 b o + tot (lst o) S
def Fit : List (List Int) → List (List Int) → Prop
  | [], [] => True
  | o :: S, l :: L => o.Perm l ∧ Fit S L
  | _, _ => False
theorem lst_snoc (u : List Int) (x : Int) : lst (u ++ [x]) = x := by simp [lst, List.getLastD_eq_getLast?]
theorem filt_perm {x : Int} : ∀ {l : List Int}, l.Nodup → x ∈ l → (x :: l.filter fun z => decide (z ≠ x)).Perm l
  | [], _, h => by cases h
  | a :: t, nd, h => by
    have nd' := List.nodup_cons.mp nd
    by_cases e : a = x
    · subst e
      have : t.filter (fun z => decide (z ≠ a)) = t := List.filter_eq_self.mpr fun z hz => by
        simp; intro q; subst q; exact nd'.1 hz
      simp only [List.filter_cons, ne_eq, not_true_eq_false, decide_false, Bool.false_eq_true, if_false]
      simp only [ne_eq] at this
      rw [this]
    · have hx : x ∈ t := by
        rcases List.mem_cons.mp h with z | z
        · exact absurd z.symm e
        · exact z
      have ih := filt_perm nd'.2 hx
      simp only [List.filter_cons, ne_eq, e, not_false_eq_true, decide_true, if_true]
      simp only [ne_eq] at ih
      exact (List.Perm.swap _ _ _).trans (ih.cons a)
theorem one_first {l : List Int} {x y : Int} (hy : y ∈ firstOnes l x) : y ∈ l ∧ (y ≠ x ∨ l.length = 1) := by
  simp only [firstOnes, List.mem_filter, Bool.or_eq_true, decide_eq_true_eq] at hy
  exact hy
theorem order_two {l : List Int} (hl : Lay l) {x y : Int} (hx : x ∈ l) (hy : y ∈ firstOnes l x) (h : 1 < l.length) : ∃ mid, order l x y = y :: mid ++ [x] ∧ mid.Pairwise (· ≤ ·) ∧ (y :: mid ++ [x]).Perm l := by
  refine ⟨(srt (l.filter fun z => decide (z ≠ x))).filter fun z => decide (z ≠ y), if_pos h, (srt_sorted _).filter _, ?_⟩
  obtain ⟨hy1, hy2⟩ := one_first hy
  have hy3 : y ≠ x := by rcases hy2 with z | z; exact z; omega
  have p1 := srt_perm (l.filter fun z => decide (z ≠ x))
  have nd : (srt (l.filter fun z => decide (z ≠ x))).Nodup := p1.nodup_iff.mpr (hl.nd.filter _)
  have hm : y ∈ srt (l.filter fun z => decide (z ≠ x)) := p1.mem_iff.mpr (by simp [hy1, hy3])
  have p2 := filt_perm nd hm
  have p3 := p2.trans p1
  refine List.perm_append_comm.trans ?_
  rw [List.singleton_append]
  exact (p3.cons x).trans (filt_perm hl.nd hx)
theorem lay_one {l : List Int} (hl : Lay l) (h : ¬ 1 < l.length) : ∃ a, l = [a] := by
  match l, hl.ne, h with
  | [a], _, _ => exact ⟨a, rfl⟩
  | a :: b :: t, _, h => simp at h
theorem order_ok {l : List Int} (hl : Lay l) {x y : Int} (hx : x ∈ l) (hy : y ∈ firstOnes l x) (f : Int → Int) (b : Int) : (order l x y).Perm l ∧ cst f b l x y = c1 b (order l x y) + f (lst (order l x y)) := by
  by_cases h : 1 < l.length
  · obtain ⟨mid, e, _, p⟩ := order_two hl hx hy h
    rw [e]
    refine ⟨p, ?_⟩
    rw [lst_snoc]
    unfold cst c1
    rw [p.length_eq]
    rfl
  · obtain ⟨a, rfl⟩ := lay_one hl h
    have ex : x = a := by simpa using hx
    have ey : y = a := by simpa using (one_first hy).1
    subst ex; subst ey
    have e : order [y] y y = [y] := if_neg h
    rw [e]
    exact ⟨List.Perm.refl _, rfl⟩
theorem sorted_le : ∀ {u v : List Int}, u.Pairwise (· ≤ ·) → u.Perm v → ¬ v < u
  | [], v, _, p => fun h => by
    have : v = [] := by simpa using p.symm
    subst this; exact tL.irr _ h
  | a :: u, [], _, p => by have := p.length_eq; simp at this
  | a :: u, c :: v, s, p => by
    have s' := List.pairwise_cons.mp s
    rw [List.cons_lt_cons_iff]
    have hc : a ≤ c := by
      rcases List.mem_cons.mp (p.mem_iff.mpr (List.mem_cons_self : c ∈ c :: v)) with z | z
      · omega
      · exact s'.1 c z
    rintro (h | ⟨e, h⟩)
    · omega
    · subst e
      exact sorted_le s'.2 p.cons_inv h
theorem covers {l : List Int} (hl : Lay l) (f : Int → Int) (b : Int) {o : List Int} (p : o.Perm l) : ∃ c ∈ cands l b f, c.1 = c1 b o + f (lst o) ∧ ¬ o < c.2 := by
  have mem : ∀ {x y}, x ∈ l → y ∈ firstOnes l x → (cst f b l x y, order l x y) ∈ cands l b f := fun {x y} hx hy => by
    simp only [cands, List.mem_flatten, List.mem_map]
    exact ⟨_, ⟨x, hx, rfl⟩, List.mem_map.mpr ⟨y, hy, rfl⟩⟩
  by_cases h : 1 < l.length
  · have ho : 1 < o.length := by rw [p.length_eq]; exact h
    obtain ⟨y, m, x, rfl⟩ : ∃ y m x, o = y :: m ++ [x] := by
      match o, ho with
      | y :: z :: t, _ =>
        refine ⟨y, (z :: t).dropLast, (z :: t).getLast (by simp), ?_⟩
        rw [List.cons_append, List.dropLast_concat_getLast]
    have hx : x ∈ l := p.mem_iff.mp (by simp)
    have hyx : y ≠ x := by
      have nd := p.nodup_iff.mpr hl.nd
      intro z; subst z
      simp at nd
    have hy : y ∈ firstOnes l x := by
      have : y ∈ l := p.mem_iff.mp (by simp)
      simp [firstOnes, this, hyx]
    obtain ⟨mid, e, s, q⟩ := order_two hl hx hy h
    refine ⟨_, mem hx hy, ?_, ?_⟩
    · show cst f b l x y = _
      rw [lst_snoc]
      unfold cst c1
      rw [p.length_eq]
      rfl
    · show ¬ y :: m ++ [x] < order l x y
      rw [e]
      have pm : mid.Perm m := by
        have := q.trans p.symm
        rw [List.cons_append, List.cons_append] at this
        exact (List.perm_append_right_iff [x]).mp this.cons_inv
      have nlt := sorted_le s pm
      rcases tL.tri mid m with z | z | z
      · have z2 : mid ++ [x] < m ++ [x] := lt_app _ _ _ _ pm.length_eq z
        intro q2
        rw [List.cons_append, List.cons_append, List.cons_lt_cons_iff] at q2
        rcases q2 with q2 | ⟨_, q2⟩
        · omega
        · exact tL.irr _ (tL.tr _ _ _ q2 z2)
      · subst z; exact tL.irr _
      · exact absurd z nlt
  · obtain ⟨a, rfl⟩ := lay_one hl h
    have : o = [a] := List.perm_singleton.mp p
    subst this
    have ha : a ∈ firstOnes [a] a := by simp [firstOnes]
    have e : order [a] a a = [a] := if_neg h
    refine ⟨_, mem (List.mem_singleton.mpr rfl) ha, ?_, ?_⟩
    · rfl
    · show ¬ [a] < order [a] a a
      rw [e]; exact tL.irr _
/-- the pick: the least (cost, order) over all orders of the layer -/
def pick (l : List Int) (b : Int) (f : Int → Int) : List Int := match (cands l b f).foldl bst none with
  | some c => c.2
  | none => []
theorem cost_ok {l : List Int} (hl : Lay l) (f : Int → Int) (b : Int) : (∀ c ∈ cands l b f, costF l f b ≤ c.1) ∧ ∃ c ∈ cands l b f, c.1 = costF l f b := by
  have at1 : ∀ x ∈ l, (∀ y ∈ firstOnes l x, costAt l f b x ≤ cst f b l x y) ∧ ∃ y ∈ firstOnes l x, costAt l f b x = cst f b l x y := fun x hx => by
    obtain ⟨m1, m2⟩ := mn_mem (begins_ne (b := b) (first_ne hl x))
    refine ⟨fun y hy => ?_, ?_⟩
    · have := m2 _ (List.mem_map.mpr ⟨y, hy, rfl⟩)
      unfold costAt cst; omega
    · obtain ⟨y, hy, e⟩ := List.mem_map.mp m1
      exact ⟨y, hy, by unfold costAt cst; omega⟩
  obtain ⟨m1, m2⟩ := mn_mem (ne_map (f := costAt l f b) hl.ne)
  refine ⟨fun c hc => ?_, ?_⟩
  · simp only [cands, List.mem_flatten, List.mem_map] at hc
    obtain ⟨_, ⟨x, hx, rfl⟩, hc⟩ := hc
    obtain ⟨y, hy, rfl⟩ := List.mem_map.mp hc
    exact Int.le_trans (m2 _ (List.mem_map.mpr ⟨x, hx, rfl⟩)) ((at1 x hx).1 y hy)
  · obtain ⟨x, hx, e⟩ := List.mem_map.mp m1
    obtain ⟨y, hy, e2⟩ := (at1 x hx).2
    refine ⟨(cst f b l x y, order l x y), ?_, (e2.symm.trans e)⟩
    · simp only [cands, List.mem_flatten, List.mem_map]
      exact ⟨_, ⟨x, hx, rfl⟩, List.mem_map.mpr ⟨y, hy, rfl⟩⟩
theorem pick_ok {l : List Int} (hl : Lay l) (f : Int → Int) (b : Int) : (∃ c, (cands l b f).foldl bst none = some c ∧ pick l b f = c.2) ∧ (pick l b f).Perm l ∧ costF l f b = c1 b (pick l b f) + f (lst (pick l b f)) ∧ (∀ o, o.Perm l → costF l f b ≤ c1 b o + f (lst o) ∧ (c1 b o + f (lst o) = costF l f b → ¬ o < pick l b f)) := by
  obtain ⟨k1, c', hc', k2⟩ := cost_ok hl f b
  have ne : cands l b f ≠ [] := fun z => by rw [z] at hc'; cases hc'
  obtain ⟨c, f1, f2, _, f4⟩ := bst_fold (cands l b f) none (fun _ => ne)
  have f2 : c ∈ cands l b f := by rcases f2 with z | z; exact z; cases z
  have ep : pick l b f = c.2 := by unfold pick; rw [f1]
  have ec : c.1 = costF l f b := by
    have := k1 c f2
    have h2 := f4 c' hc'
    unfold ltC at h2
    omega
  refine ⟨⟨c, f1, ep⟩, ?_⟩
  rw [ep]
  have hc := f2
  simp only [cands, List.mem_flatten, List.mem_map] at hc
  obtain ⟨_, ⟨x, hx, rfl⟩, hc⟩ := hc
  obtain ⟨y, hy, rfl⟩ := List.mem_map.mp hc
  obtain ⟨o1, o2⟩ := order_ok hl hx hy f b
  refine ⟨o1, by rw [← ec]; exact o2, fun o p => ?_⟩
  obtain ⟨d, hd, d1, d2⟩ := covers hl f b p
  refine ⟨by rw [← d1]; exact k1 d hd, fun e lt => ?_⟩
  have n := f4 d hd
  unfold ltC at n
  have ed : d.1 = (cst f b l x y, order l x y).1 := by rw [ec, d1, e]
  have n2 : ¬ d.2 < order l x y := fun z => n (.inr ⟨ed, z⟩)
  rcases tL.tri o d.2 with z | z | z
  · exact d2 z
  · exact n2 (z ▸ lt)
  · exact n2 (tL.tr _ _ _ z lt)
def greedy : Int → List (List Int) → List (List Int)
  | _, [] => []
  | b, l :: P => pick l b (later P) :: greedy (lst (pick l b (later P))) P
theorem greedy_ok : ∀ (L : List (List Int)) (b : Int), (∀ l ∈ L, Lay l) → Fit (greedy b L) L ∧ tot b (greedy b L) = later L b ∧ ∀ S, Fit S L → later L b ≤ tot b S ∧ (tot b S = later L b → ¬ S < greedy b L)
  | [], b, _ => ⟨trivial, rfl, fun S h => by
    cases S with
    | nil => exact ⟨by simp [later, tot], fun _ => List.not_lt_nil _⟩
    | cons o S => exact h.elim⟩
  | l :: P, b, hL => by
    have hl := hL l List.mem_cons_self
    obtain ⟨_, p1, p2, p3⟩ := pick_ok hl (later P) b
    obtain ⟨i1, i2, i3⟩ := greedy_ok P (lst (pick l b (later P))) (fun m hm => hL m (List.mem_cons_of_mem _ hm))
    refine ⟨⟨p1, i1⟩, ?_, fun S h => ?_⟩
    · show c1 b (pick l b (later P)) + tot (lst (pick l b (later P))) (greedy (lst (pick l b (later P))) P) = costF l (later P) b
      rw [i2, p2]
    · cases S with
      | nil => exact h.elim
      | cons o S =>
        obtain ⟨h1, h2⟩ := h
        obtain ⟨q1, q2⟩ := p3 o h1
        obtain ⟨_, _, j3⟩ := greedy_ok P (lst o) (fun m hm => hL m (List.mem_cons_of_mem _ hm))
        obtain ⟨r1, r2⟩ := j3 S h2
        show costF l (later P) b ≤ c1 b o + tot (lst o) S ∧ (c1 b o + tot (lst o) S = costF l (later P) b → ¬ o :: S < pick l b (later P) :: greedy (lst (pick l b (later P))) P)
        refine ⟨by omega, fun e => ?_⟩
        rw [List.cons_lt_cons_iff]
        rintro (z | ⟨z, z2⟩)
        · exact q2 (by omega) z
        · rw [← z] at z2
          exact r2 (by omega) z2
end K24
end

section
set_option Elab.async false
set_option linter.all false
set_option maxRecDepth 100000
set_option maxHeartbeats 1000000
namespace K24
open PySem PySem.Spec PyProof.Rows L2 FX
/-! ### told swaps of nodup orders -/
def enc (b : Int) : Option Int := if b < 0 then none else some b
theorem told_tail : ∀ (t : List Int) (x n : Int), (x :: t).Nodup → t.foldl tstep (n, some x) = (n + t.length, some (lst (x :: t)))
  | [], x, n, _ => by simp [lst]
  | y :: t, x, n, nd => by
    have nd' := List.nodup_cons.mp nd
    have hxy : ¬ x = y := fun z => nd'.1 (by simp [z])
    have e : tstep (n, some x) y = (n + 1, some y) := by simp [tstep, hxy]
    rw [List.foldl_cons, e, told_tail t y (n + 1) nd'.2]
    have : lst (x :: y :: t) = lst (y :: t) := by simp [lst]
    rw [this]
    simp; omega
theorem told_order {o : List Int} (ho : Lay o) (b n : Int) : o.foldl tstep (n, enc b) = (n + c1 b o, enc (lst o)) := by
  match o, ho.ne, ho.nd, ho.lo with
  | x :: t, _, nd, lo =>
    have hx := (lo x List.mem_cons_self).1
    have e : tstep (n, enc b) x = (n + (if hd (x :: t) = b ∨ b < 0 then 0 else 1), some x) := by
      unfold tstep enc
      by_cases h1 : b < 0
      · simp [h1]
      · have : (x = b) = (b = x) := propext eq_comm
        simp [h1, hd, this]
    have hl : 0 ≤ lst (x :: t) := by
      have : lst (x :: t) ∈ x :: t := by
        obtain ⟨u, z, e⟩ : ∃ u z, x :: t = u ++ [z] := ⟨_, _, (List.dropLast_concat_getLast (by simp)).symm⟩
        rw [e, lst_snoc]; simp
      exact (lo _ this).1
    have e2 : enc (lst (x :: t)) = some (lst (x :: t)) := if_neg (by omega)
    rw [List.foldl_cons, e, told_tail t x _ nd, e2]
    simp [c1]; omega
theorem lay_perm {o l : List Int} (p : o.Perm l) (hl : Lay l) : Lay o := ⟨fun z => hl.ne (by subst z; simpa using p.symm), p.nodup_iff.mpr hl.nd, fun i hi => hl.lo i (p.mem_iff.mp hi)⟩
theorem told_tot : ∀ (S : List (List Int)) (b n : Int), (∀ o ∈ S, Lay o) → (S.flatten.foldl tstep (n, enc b)).1 = n + tot b S
  | [], b, n, _ => by simp [tot]
  | o :: S, b, n, h => by
    rw [List.flatten_cons, List.foldl_append, told_order (h o List.mem_cons_self), told_tot S _ _ fun p hp => h p (List.mem_cons_of_mem _ hp)]
    simp [tot]; omega
theorem told_eq {S : List (List Int)} (h : ∀ o ∈ S, Lay o) : told S = tot (-1) S := by
  have := told_tot S (-1) 0 h
  have e : enc (-1) = none := rfl
  rw [e] at this
  unfold told
  rw [this]; omega
theorem fit_lay : ∀ {S L : List (List Int)}, Fit S L → (∀ l ∈ L, Lay l) → (∀ o ∈ S, Lay o)
  | [], [], _, _ => fun o h => by cases h
  | o :: S, l :: L, h, hL => fun q hq => by
    rcases List.mem_cons.mp hq with z | z
    · subst z; exact lay_perm h.1 (hL l List.mem_cons_self)
    · exact fit_lay h.2 (fun m hm => hL m (List.mem_cons_of_mem _ hm)) q z
  | [], l :: L, h, _ => h.elim
  | o :: S, [], h, _ => h.elim
theorem fit_len : ∀ {S L : List (List Int)}, Fit S L → S.length = L.length
  | [], [], _ => rfl
  | o :: S, l :: L, h => by simp [fit_len h.2]
  | [], l :: L, h => h.elim
  | o :: S, [], h => h.elim
/-! ### fewest_swaps -/
theorem tI_last {o : List Int} (h : o ≠ []) : aIx (tI o) (.int (-1)) = some (.fz (.int (lst o))) := by
  obtain ⟨u, x, rfl⟩ : ∃ u x, o = u ++ [x] := ⟨_, _, (List.dropLast_concat_getLast h).symm⟩
  rw [lst_snoc]
  unfold tI
  rw [List.map_append]
  exact ixt_last _ _
theorem ix_costs {L : List (List Int)} {k : Nat} (h : k ≤ L.length) : aIx (.lst ((cs L).map dictOf)) (.int k) = some (.fz (dictOf (later (L.drop k)))) := by
  show (atI ((cs L).map dictOf) (k : Int)).map Nv.fz = _
  rw [K24.atI_nat, List.getElem?_map, cs_get L k h]
  rfl
theorem fs0 (c : Sl) {L : List (List Int)} (hL : ∀ l ∈ L, Lay l) (hn : L.length ≤ 200) : ∀ (P pre : List (List Int)) (acc : List (List Int)) (b : Int) (s4 s5 : Sl), L = pre ++ P → acc.length ≤ pre.length →
    ∃ s3 s4' s5', forL (bTup 2 (bCons (bName 4) (bCons (bName 5) bNil))) bfewest_swaps0 (enumT pre.length (P.map tI)) [c, .own none (.lst ((cs L).map dictOf)), .own none (.lst (acc.map tI)), .fz (.int b), s4, s5] = .nx [c, .own none (.lst ((cs L).map dictOf)), .own none (.lst ((acc ++ greedy b P).map tI)), s3, s4', s5']
  | [], pre, acc, b, s4, s5, _, _ => ⟨_, _, _, by simp [enumT, forL, greedy]; exact ⟨rfl, rfl, rfl⟩⟩
  | l :: P, pre, acc, b, s4, s5, e, ha => by
    have hl : Lay l := hL l (by simp [e])
    have hlen : pre.length + (P.length + 1) = L.length := by rw [e]; simp
    obtain ⟨⟨cc, f1, ep⟩, p1, _, _⟩ := pick_ok hl (later P) b
    have e1 := least_ok hl (later P) b f1
    rw [← ep] at e1
    have hk : L.drop (pre.length + 1) = P := by rw [e, List.drop_append]; simp
    have e2 := ix_costs (L := L) (k := pre.length + 1) (by omega)
    rw [hk] at e2
    obtain ⟨s3, s4', s5', ih⟩ := fs0 c hL hn P (pre ++ [l]) (acc ++ [pick l b (later P)]) (lst (pick l b (later P))) (.fz (.int pre.length)) (.fz (tI l)) (by simp [e]) (by simp; omega)
    have en : enumT pre.length ((l :: P).map tI) = .tup [.int pre.length, tI l] :: enumT (pre ++ [l]).length (P.map tI) := by
      rw [List.length_append]; rfl
    have eb : bTup 2 (bCons (bName 4) (bCons (bName 5) bNil)) (.tup [.int pre.length, tI l]) [c, .own none (.lst ((cs L).map dictOf)), .own none (.lst (acc.map tI)), .fz (.int b), s4, s5] = some [c, .own none (.lst ((cs L).map dictOf)), .own none (.lst (acc.map tI)), .fz (.int b), .fz (.int pre.length), .fz (tI l)] := rfl
    have e3 : (acc.map tI).length ≤ 1000000 := by simp; omega
    have e4 := ix_last (acc.map tI) (tI (pick l b (later P)))
    have e5 := tI_last (lay_perm p1 hl).ne
    have e6 : ((pre.length : Nat) : Int) + 1 = ((pre.length + 1 : Nat) : Int) := by simp
    have eg : bfewest_swaps0 [c, .own none (.lst ((cs L).map dictOf)), .own none (.lst (acc.map tI)), .fz (.int b), .fz (.int pre.length), .fz (tI l)] = .nx [c, .own none (.lst ((cs L).map dictOf)), .own none (.lst ((acc ++ [pick l b (later P)]).map tI)), .fz (.int (lst (pick l b (later P)))), .fz (.int pre.length), .fz (tI l)] := by
      unfold bfewest_swaps0
      simp only [Ev.bind_ok, Ev.bind_err, Ev.map_ok, Ev.map_err, Ev.norm_fz, Ev.norm_own, Ev.norm_bor, Ev.norm_err, Ev.of_fz, Ev.of_own, Ev.ofB_some, Ev.o_ok, Ev.o_err, Ev.after_nx, Ev.after_rt, Ev.after_er, Ev.look_fz, Ev.look_bor, Ev.looks_nil, Ev.looks_cons, Ev.look2_eq, Ev.esc1_fz, Ev.esc1_bor, Ev.escs_nil, Ev.escs_cons, Ev.ap_var, Ev.ap_c, Ev.ap_nil, Ev.ap_cons, Ev.ap_star, Ev.ap_cb, Ev.ap_bin, Ev.ap_cmp, Ev.gcm_eq, Ev.ap_tru, Ev.tru_bl, Ev.ap_and, Ev.ap_or, Ev.ap_not, Ev.ap_andv, Ev.ap_orv, Ev.ap_notv, Ev.ap_if, Ev.ap_esc, Ev.ap_tup, Ev.ap_lst, Ev.lim_eq, Ev.ap_call, Ev.r_fz, Ev.r_own, Ev.r_err, Ev.ap_v, Ev.ap_chain, Ev.ap_neg, Ev.ap_items, Ev.items_tup, Ev.items_lst, Ev.ap_yes, Ev.ap_lc, Ev.ap_dc, Ev.ap_rev, Ev.ap_dk, Ev.ap_dn, Ev.ap_none, Ev.ap_some, Ev.ap_cut, Ev.ap_enum, Ev.ap_zip, Ev.ap_range1, Ev.ap_range2, Ev.ap_callM, Ev.ownT_eq, Ev.ap_gd, Ev.ap_mut, Ev.isL_lst, Ev.app_eq, Ev.ap_seq, Ev.ap_gif, Ev.ap_set, Ev.put_fz, Ev.put_own, Ev.put_bor, Ev.ap_ret, Ev.ap_drop, Ev.ap_gnil, Ev.ap_raise, Ev.ap_for, Ev.ap_aug, Ev.ap_asg, Ev.ap_store, Ev.ap_bname, Ev.ap_bnil, Ev.ap_bcons, Ev.ap_btup, Ev.end_rt, Ev.end_own, Ev.end_nx, Ev.end_er, Ev.end_bor, Ev.vl_fz, Ev.vl_own, List.getElem?_cons_zero, List.getElem?_cons_succ, Option.bind_some, List.set_cons_zero, List.set_cons_succ, add_int, e6, e2, e1, e3, if_true, e4, e5, List.map_append, List.map_cons, List.map_nil]
    refine ⟨s3, s4', s5', ?_⟩
    rw [en]
    simp only [forL, eb, eg, ih]
    simp [greedy]
theorem fewest_ok {c : T} {L : List (List Int)} (hc : Seqs c (L.map tI)) (hL : ∀ l ∈ L, Lay l) (hn : L.length ≤ 200) : m_fewest_swaps [c] = .ok (.fz (.tup [.int (tot (-1) (greedy (-1) L)), tII (greedy (-1) L)])) := by
  obtain ⟨s3, s4, s5, e⟩ := fs0 (.fz c) hL hn L [] [] (-1) .un .un rfl (by simp)
  have e1 := chk_ok hc (by simpa using hn) fun t ht => by obtain ⟨l, hl, rfl⟩ := List.mem_map.mp ht; exact is_layer_ok (hL l hl)
  have e2 := rest_ok hc hL hn
  obtain ⟨g1, _, _⟩ := greedy_ok L (-1) hL
  have e3 := told_ok (c := .lst ((greedy (-1) L).map tI)) (L := greedy (-1) L) (.inl rfl)
  rw [told_eq (fit_lay g1 hL)] at e3
  have e4 : bTuple [.lst ((greedy (-1) L).map tI)] = some (.fz (tII (greedy (-1) L))) := rfl
  have ec : c.items = some (L.map tI) := by rcases hc with rfl | rfl <;> rfl
  have es : List.replicate (6 - 1) Sl.un = [.un, .un, .un, .un, .un] := rfl
  have en : (-1 : Int) = -1 := rfl
  unfold bfewest_swaps0 at e
  simp only [List.nil_append, List.length_nil, List.map_nil] at e
  unfold m_fewest_swaps
  rw [mkP1, es]
  unfold g_fewest_swaps
  simp only [Ev.bind_ok, Ev.bind_err, Ev.map_ok, Ev.map_err, Ev.norm_fz, Ev.norm_own, Ev.norm_bor, Ev.norm_err, Ev.of_fz, Ev.of_own, Ev.ofB_some, Ev.o_ok, Ev.o_err, Ev.after_nx, Ev.after_rt, Ev.after_er, Ev.look_fz, Ev.look_bor, Ev.looks_nil, Ev.looks_cons, Ev.look2_eq, Ev.esc1_fz, Ev.esc1_bor, Ev.escs_nil, Ev.escs_cons, Ev.ap_var, Ev.ap_c, Ev.ap_nil, Ev.ap_cons, Ev.ap_star, Ev.ap_cb, Ev.ap_bin, Ev.ap_cmp, Ev.gcm_eq, Ev.ap_tru, Ev.tru_bl, Ev.ap_and, Ev.ap_or, Ev.ap_not, Ev.ap_andv, Ev.ap_orv, Ev.ap_notv, Ev.ap_if, Ev.ap_esc, Ev.ap_tup, Ev.ap_lst, Ev.lim_eq, Ev.ap_call, Ev.r_fz, Ev.r_own, Ev.r_err, Ev.ap_v, Ev.ap_chain, Ev.ap_neg, Ev.ap_items, Ev.items_tup, Ev.items_lst, Ev.ap_yes, Ev.ap_lc, Ev.ap_dc, Ev.ap_rev, Ev.ap_dk, Ev.ap_dn, Ev.ap_none, Ev.ap_some, Ev.ap_cut, Ev.ap_enum, Ev.ap_zip, Ev.ap_range1, Ev.ap_range2, Ev.ap_callM, Ev.ownT_eq, Ev.ap_gd, Ev.ap_mut, Ev.isL_lst, Ev.app_eq, Ev.ap_seq, Ev.ap_gif, Ev.ap_set, Ev.put_fz, Ev.put_own, Ev.put_bor, Ev.ap_ret, Ev.ap_drop, Ev.ap_gnil, Ev.ap_raise, Ev.ap_for, Ev.ap_aug, Ev.ap_asg, Ev.ap_store, Ev.ap_bname, Ev.ap_bnil, Ev.ap_bcons, Ev.ap_btup, Ev.end_rt, Ev.end_own, Ev.end_nx, Ev.end_er, Ev.end_bor, Ev.vl_fz, Ev.vl_own, List.getElem?_cons_zero, List.getElem?_cons_succ, Option.bind_some, List.set_cons_zero, List.set_cons_succ, e1, e2, List.length_nil, List.length_cons, Nat.reduceAdd, Nat.reduceLeDiff, Nat.zero_le, if_true, ec, e, e3, e4]
end K24
end

section
set_option Elab.async false
set_option linter.all false
set_option maxRecDepth 100000
set_option maxHeartbeats 1000000
namespace K24
open PySem PySem.Spec PyProof.Rows L2 FX
/-! ### _law_orders -/
def ins (x : Int) (o : List Int) : List (List Int) := (List.range (o.length + 1)).map fun i => o.take i ++ [x] ++ o.drop i
def grow (F : List (List Int)) (x : Int) : List (List Int) := (F.map (ins x)).flatten
def perms (l : List Int) : List (List Int) := l.foldl grow [[]]
theorem add_lst (a b : List T) (h : a.length + b.length ≤ 16777216) : aAdd (.lst a) (.lst b) = some (.own (.lst (a ++ b))) := if_pos h
theorem add_tup (a b : List T) (h : a.length + b.length ≤ 16777216) : aAdd (.tup a) (.tup b) = some (.fz (.tup (a ++ b))) := if_pos h
theorem cut_take (ts : List T) (i : Nat) : aCut (.tup ts) none (some (i : Int)) = some (.fz (.tup (ts.take i))) := by
  have : cutT ts none (some (i : Int)) = ts.take i := by
    unfold cutT
    rw [HT.sIx_none, HT.sIx_nat]
    simp [← List.take_eq_take_min]
  show some (Nv.fz (.tup (cutT ts none (some (i : Int))))) = _
  rw [this]
theorem cut_drop (ts : List T) (i : Nat) : aCut (.tup ts) (some (i : Int)) none = some (.fz (.tup (ts.drop i))) := by
  have : cutT ts (some (i : Int)) none = ts.drop i := by
    unfold cutT
    rw [HT.sIx_none, HT.sIx_nat]
    rcases Nat.le_total i ts.length with h | h
    · rw [Nat.min_eq_left h]
      rw [List.take_of_length_le (by rw [List.length_drop]; omega)]
    · rw [Nat.min_eq_right h, Nat.sub_self, List.take_zero, List.drop_eq_nil_of_le h]
  show some (Nv.fz (.tup (cutT ts (some (i : Int)) none))) = _
  rw [this]
theorem range_at (n : Nat) : FX.rangeT 0 n = (List.range n).map fun i => T.int (i : Nat) := by
  unfold FX.rangeT
  simp
theorem range_len {f : FX.Env → R (List Vl)} {ρ : FX.Env} {n : Nat} (h : f ρ = .ok [.fz (.int ((n : Int) + 1))] ρ) (ok : okR ((n : Int) + 1) = true) : fRange1 f ρ = .ok ((List.range (n + 1)).map fun i : Nat => T.int i) ρ := by
  have e7 : ((n : Int) + 1) = ((n + 1 : Nat) : Int) := by simp
  rw [Ev.ap_range1, h, Ev.bind_ok]
  dsimp only
  rw [if_pos ok, e7, range_at]
theorem lc_of {vs : List Nat} {fi : FX.Env → R (List T)} {b : T → FX.Env → Option FX.Env} {ft : FX.Env → R Bool} {fe : FX.Env → R Vl} {ρ : FX.Env} {ts ys : List T} (h1 : fi ρ = .ok ts ρ) (h2 : lcL vs b ft fe ts [] ρ = .ok ys ρ) : fLc vs fi b ft fe ρ = .ok (.own (.lst ys)) ρ := by
  rw [Ev.ap_lc, h1, Ev.bind_ok, h2]; rfl
theorem set_cat {i : Nat} {g : T → T → Option Nv} {f : FX.Env → R Vl} {ρ : FX.Env} {A B C : T} (h0 : ρ[i]? = some (.own none A)) (h1 : f ρ = .ok (.own B) ρ) (h2 : g A B = some (.own C)) : gSet i (fBin g (fVar i) f) ρ = .nx (ρ.set i (.own none C)) := by
  simp only [Ev.ap_set, Ev.ap_bin, Ev.ap_var, h0, Ev.norm_bor, Ev.bind_ok, h1, Ev.norm_own, Ev.look2_eq, Ev.look_bor, Ev.look_fz, h2, Ev.of_own, Ev.o_ok, Ev.put_own]
theorem lo_ins (l : List Int) (s1 : Sl) (x : Int) (acc : List (List Int)) (o : List Int) (h : acc.length + o.length ≤ 1000) : b_law_orders1 [.fz (tI l), s1, .fz (.int x), .own none (.lst (acc.map tI)), .fz (tI o), .un] = .nx [.fz (tI l), s1, .fz (.int x), .own none (.lst ((acc ++ ins x o).map tI)), .fz (tI o), .un] := by
  have e1 := lcL_gen (vs := [5]) (b := bName 5) (ft := fYes) (fe := fBin aAdd (fBin aAdd (fCut (fVar 4) fNone (fSome (fVar 5))) (fTup (fACons (fVar 2) fANil))) (fCut (fVar 4) (fSome (fVar 5)) fNone)) (ρ := [.fz (tI l), s1, .fz (.int x), .own none (.lst (acc.map tI)), .fz (tI o), .un]) (fun i : Nat => T.int i) (fun _ => true) (fun i => tI (o.take i ++ [x] ++ o.drop i)) (List.range (o.length + 1)) [] (fun i hi => by
    refine ⟨[.fz (tI l), s1, .fz (.int x), .own none (.lst (acc.map tI)), .fz (tI o), .fz (.int i)], rfl, rfl, fun _ => ?_, rfl⟩
    have c1 := cut_take (o.map T.int) i
    have c2 := cut_drop (o.map T.int) i
    have a1 := add_tup ((o.map T.int).take i) [.int x] (by simp; omega)
    have a2 := add_tup ((o.map T.int).take i ++ [.int x]) ((o.map T.int).drop i) (by simp; omega)
    simp only [Ev.bind_ok, Ev.bind_err, Ev.map_ok, Ev.map_err, Ev.norm_fz, Ev.norm_own, Ev.norm_bor, Ev.norm_err, Ev.of_fz, Ev.of_own, Ev.ofB_some, Ev.o_ok, Ev.o_err, Ev.after_nx, Ev.after_rt, Ev.after_er, Ev.look_fz, Ev.look_bor, Ev.looks_nil, Ev.looks_cons, Ev.look2_eq, Ev.esc1_fz, Ev.esc1_bor, Ev.escs_nil, Ev.escs_cons, Ev.ap_var, Ev.ap_c, Ev.ap_nil, Ev.ap_cons, Ev.ap_star, Ev.ap_cb, Ev.ap_bin, Ev.ap_cmp, Ev.gcm_eq, Ev.ap_tru, Ev.tru_bl, Ev.ap_and, Ev.ap_or, Ev.ap_not, Ev.ap_andv, Ev.ap_orv, Ev.ap_notv, Ev.ap_if, Ev.ap_esc, Ev.ap_tup, Ev.ap_lst, Ev.lim_eq, Ev.ap_call, Ev.r_fz, Ev.r_own, Ev.r_err, Ev.ap_v, Ev.ap_chain, Ev.ap_neg, Ev.ap_items, Ev.items_tup, Ev.items_lst, Ev.ap_yes, Ev.ap_lc, Ev.ap_dc, Ev.ap_rev, Ev.ap_dk, Ev.ap_dn, Ev.ap_none, Ev.ap_some, Ev.ap_cut, Ev.ap_enum, Ev.ap_zip, Ev.ap_range1, Ev.ap_range2, Ev.ap_callM, Ev.ownT_eq, Ev.ap_gd, Ev.ap_mut, Ev.isL_lst, Ev.app_eq, Ev.ap_seq, Ev.ap_gif, Ev.ap_set, Ev.put_fz, Ev.put_own, Ev.put_bor, Ev.ap_ret, Ev.ap_drop, Ev.ap_gnil, Ev.ap_raise, Ev.ap_for, Ev.ap_aug, Ev.ap_asg, Ev.ap_store, Ev.ap_bname, Ev.ap_bnil, Ev.ap_bcons, Ev.ap_btup, Ev.end_rt, Ev.end_own, Ev.end_nx, Ev.end_er, Ev.end_bor, Ev.vl_fz, Ev.vl_own, tI, List.getElem?_cons_zero, List.getElem?_cons_succ, Option.bind_some, c1, c2, List.length_cons, List.length_nil, Nat.reduceAdd, Nat.reduceLeDiff, if_true, a1, a2]
    simp) (by rw [List.length_range, List.length_nil]; omega)
  have e2 : (List.range (o.length + 1)).filter (fun _ => true) = List.range (o.length + 1) := by simp
  rw [e2, List.nil_append] at e1
  have e3 : (List.range (o.length + 1)).map (fun i => tI (o.take i ++ [x] ++ o.drop i)) = (ins x o).map tI := by simp [ins]
  rw [e3] at e1
  have e4 := range_at (o.length + 1)
  have e5 : okR ((o.length : Int) + 1) = true := by
    unfold okR
    simp only [Bool.and_eq_true, decide_eq_true_eq]
    omega
  have e6 := add_lst (acc.map tI) ((ins x o).map tI) (by simp [ins]; omega)
  have e7 : ((o.length : Int) + 1) = ((o.length + 1 : Nat) : Int) := by simp
  have er : fRange1 (fACons (fBin aAdd (fCB bLen (fACons (fVar 4) fANil)) (fC (.int 1))) fANil) [.fz (tI l), s1, .fz (.int x), .own none (.lst (acc.map tI)), .fz (tI o), .un] = .ok ((List.range (o.length + 1)).map fun i : Nat => T.int i) [.fz (tI l), s1, .fz (.int x), .own none (.lst (acc.map tI)), .fz (tI o), .un] := by
    have ea : fACons (fBin aAdd (fCB bLen (fACons (fVar 4) fANil)) (fC (.int 1))) fANil [.fz (tI l), s1, .fz (.int x), .own none (.lst (acc.map tI)), .fz (tI o), .un] = .ok [.fz (.int ((o.length : Int) + 1))] [.fz (tI l), s1, .fz (.int x), .own none (.lst (acc.map tI)), .fz (tI o), .un] := by
      simp only [Ev.bind_ok, Ev.bind_err, Ev.map_ok, Ev.map_err, Ev.norm_fz, Ev.norm_own, Ev.norm_bor, Ev.norm_err, Ev.of_fz, Ev.of_own, Ev.ofB_some, Ev.o_ok, Ev.o_err, Ev.after_nx, Ev.after_rt, Ev.after_er, Ev.look_fz, Ev.look_bor, Ev.looks_nil, Ev.looks_cons, Ev.look2_eq, Ev.esc1_fz, Ev.esc1_bor, Ev.escs_nil, Ev.escs_cons, Ev.ap_var, Ev.ap_c, Ev.ap_nil, Ev.ap_cons, Ev.ap_star, Ev.ap_cb, Ev.ap_bin, Ev.ap_cmp, Ev.gcm_eq, Ev.ap_tru, Ev.tru_bl, Ev.ap_and, Ev.ap_or, Ev.ap_not, Ev.ap_andv, Ev.ap_orv, Ev.ap_notv, Ev.ap_if, Ev.ap_esc, Ev.ap_tup, Ev.ap_lst, Ev.lim_eq, Ev.ap_call, Ev.r_fz, Ev.r_own, Ev.r_err, Ev.ap_v, Ev.ap_chain, Ev.ap_neg, Ev.ap_items, Ev.items_tup, Ev.items_lst, Ev.ap_yes, Ev.ap_lc, Ev.ap_dc, Ev.ap_rev, Ev.ap_dk, Ev.ap_dn, Ev.ap_none, Ev.ap_some, Ev.ap_cut, Ev.ap_enum, Ev.ap_zip, Ev.ap_range1, Ev.ap_range2, Ev.ap_callM, Ev.ownT_eq, Ev.ap_gd, Ev.ap_mut, Ev.isL_lst, Ev.app_eq, Ev.ap_seq, Ev.ap_gif, Ev.ap_set, Ev.put_fz, Ev.put_own, Ev.put_bor, Ev.ap_ret, Ev.ap_drop, Ev.ap_gnil, Ev.ap_raise, Ev.ap_for, Ev.ap_aug, Ev.ap_asg, Ev.ap_store, Ev.ap_bname, Ev.ap_bnil, Ev.ap_bcons, Ev.ap_btup, Ev.end_rt, Ev.end_own, Ev.end_nx, Ev.end_er, Ev.end_bor, Ev.vl_fz, Ev.vl_own, List.getElem?_cons_zero, List.getElem?_cons_succ, Option.bind_some, bLen_tI, add_int]
    exact range_len ea e5
  have e8 := set_cat (i := 3) (g := aAdd) (ρ := [.fz (tI l), s1, .fz (.int x), .own none (.lst (acc.map tI)), .fz (tI o), .un]) rfl (lc_of er e1) e6
  rw [← List.map_append] at e8
  exact e8
theorem ins_mem {x : Int} {o p : List Int} (h : p ∈ ins x o) : p.Perm (x :: o) := by
  simp only [ins, List.mem_map] at h
  obtain ⟨i, _, rfl⟩ := h
  have : (o.take i ++ [x] ++ o.drop i).Perm (x :: (o.take i ++ o.drop i)) := by
    rw [List.append_assoc, List.singleton_append]
    exact List.perm_middle
  rwa [List.take_append_drop] at this
theorem ins_len (x : Int) (o : List Int) : (ins x o).length = o.length + 1 := by simp [ins]
theorem grow_perm {F : List (List Int)} {x : Int} {l : List Int} (h : ∀ o, o ∈ F ↔ o.Perm l) : ∀ o, o ∈ grow F x ↔ o.Perm (x :: l) := by
  intro o
  simp only [grow, List.mem_flatten, List.mem_map]
  constructor
  · rintro ⟨_, ⟨p, hp, rfl⟩, ho⟩
    exact (ins_mem ho).trans (((h p).mp hp).cons x)
  · intro p
    have hx : x ∈ o := p.mem_iff.mpr List.mem_cons_self
    obtain ⟨u, v, rfl⟩ := List.append_of_mem hx
    have q : (u ++ v).Perm l := (List.perm_middle.symm.trans p).cons_inv
    refine ⟨_, ⟨u ++ v, (h _).mpr q, rfl⟩, ?_⟩
    simp only [ins, List.mem_map, List.mem_range]
    refine ⟨u.length, by simp; omega, ?_⟩
    simp
theorem perms_pre : ∀ (l pre : List Int) (F : List (List Int)), (∀ o, o ∈ F ↔ o.Perm pre) → ∀ o, o ∈ l.foldl grow F ↔ o.Perm (pre ++ l)
  | [], pre, F, h => by simpa using h
  | x :: l, pre, F, h => by
    have ih := perms_pre l (x :: pre) (grow F x) (grow_perm h)
    intro o
    rw [List.foldl_cons, ih o]
    constructor
    · intro p; exact p.trans (by simpa using (List.perm_middle (a := x) (l₁ := pre) (l₂ := l)).symm)
    · intro p; exact p.trans (by simpa using (List.perm_middle (a := x) (l₁ := pre) (l₂ := l)))
theorem perms_mem (l o : List Int) : o ∈ perms l ↔ o.Perm l := by
  have := perms_pre l [] [[]] (fun o => by simp) o
  simpa [perms] using this
def fct : Nat → Nat
  | 0 => 1
  | n + 1 => (n + 1) * fct n
theorem grow_len {F : List (List Int)} {x : Int} {n : Nat} (h : ∀ o ∈ F, o.length = n) : (grow F x).length = (n + 1) * F.length := by
  induction F with
  | nil => simp [grow]
  | cons o F ih =>
    have ih := ih fun p hp => h p (List.mem_cons_of_mem _ hp)
    have e : grow (o :: F) x = ins x o ++ grow F x := by simp [grow]
    rw [e, List.length_append, ih, ins_len, h o List.mem_cons_self, List.length_cons, Nat.mul_succ]
    omega
theorem perms_len : ∀ (l : List Int) (pre : List Int) (F : List (List Int)), F.length = fct pre.length → (∀ o ∈ F, o.length = pre.length) → (l.foldl grow F).length = fct (pre.length + l.length)
  | [], pre, F, h, _ => h
  | x :: l, pre, F, h, g => by
    have := perms_len l (x :: pre) (grow F x) (by rw [grow_len g, h]; rfl) (fun o ho => by
      simp only [grow, List.mem_flatten, List.mem_map] at ho
      obtain ⟨_, ⟨p, hp, rfl⟩, ho⟩ := ho
      rw [(ins_mem ho).length_eq]
      simp [g p hp])
    rw [List.foldl_cons, this]
    simp only [List.length_cons]
    congr 1
    omega
theorem perms_fct (l : List Int) : (perms l).length = fct l.length := by
  have := perms_len l [] [[]] rfl (fun o ho => by simpa using ho)
  simpa [perms] using this
def ords (l : List Int) : List (List Int) := (perms l).mergeSort fun a b => !decide (b < a)
theorem ords_mem (l o : List Int) : o ∈ ords l ↔ o.Perm l := by
  rw [← perms_mem l o]
  exact (List.mergeSort_perm _ _).mem_iff
theorem ords_len (l : List Int) : (ords l).length = fct l.length := by
  rw [← perms_fct l]
  exact (List.mergeSort_perm _ _).length_eq
theorem sortD_dI (L : List (List Int)) : sortD (L.map dI) = (L.mergeSort fun a b => !decide (b < a)).map dI := by
  refine (List.map_mergeSort (r := fun a b => !decide (b < a)) (s := PySem.W.dataLe false id) (f := dI) (l := L) fun a _ b _ => ?_).symm
  show _ = !PySem.W.dataLt (dI b) (dI a)
  rw [lt_dI]
theorem ok_dIs (L : List (List Int)) : okOrd (L.map dI) = true := by
  have : PyData.depthAll (L.map dI) ≤ 60 := by have := dep_dI L; omega
  simp only [okOrd, Bool.and_eq_true, List.all_eq_true, decide_eq_true_eq]
  refine ⟨⟨fun x hx y hy => ?_, fun x hx => ?_⟩, this⟩
  · obtain ⟨i, _, rfl⟩ := List.mem_map.mp hx
    obtain ⟨j, _, rfl⟩ := List.mem_map.mp hy
    exact alike_dI i j
  · obtain ⟨i, _, rfl⟩ := List.mem_map.mp hx
    simp [isNone, dI]
theorem bSorted_tI {L : List (List Int)} (h : ∀ l ∈ L, l ≠ []) : bSorted [.lst (L.map tI)] = some (.own (.lst ((L.mergeSort fun a b => !decide (b < a)).map tI))) := by
  have e : ∀ ts, bSorted [.lst ts] = (match cDs ts with | some ds => if okSort ds = true then some (.own (.lst (ofDs (sortD ds)))) else none | _ => none) := fun ts => rfl
  have ok : okSort (L.map dI) = true := by
    unfold okSort
    rw [ok_dIs]
    have : (L.map dI).all isTupC = true := by
      simp only [List.all_eq_true]
      intro x hx
      obtain ⟨l, hl, rfl⟩ := List.mem_map.mp hx
      match l, h l hl with
      | i :: l, _ => rfl
    rw [this]; rfl
  rw [e, cDs_tI]
  dsimp only
  rw [if_pos ok, sortD_dI, ofDs_dI]
theorem pre_le {α : Type} {l pre post : List α} {a : α} (h : [] ++ l = pre ++ a :: post) : pre.length + 1 ≤ l.length := by
  have := congrArg List.length h
  simp at this; omega
theorem grow_le {F pre : List (List Int)} {n : Nat} (h : ∀ o ∈ F, o.length = n) (x : Int) (hp : pre.length ≤ F.length) (hm : ∀ o ∈ pre, o ∈ F) : (grow pre x).length ≤ (n + 1) * F.length := by
  rw [grow_len (n := n) fun o ho => h o (hm o ho)]
  exact Nat.mul_le_mul_left _ hp
theorem lord1 (l : List Int) (s1 : Sl) (x : Int) (F : List (List Int)) (s4 : Sl) {n : Nat} (h : ∀ o ∈ F, o.length = n) (hb : (n + 1) * F.length + n ≤ 1000) : ∃ s4', forL (bName 4) b_law_orders1 (F.map tI) [.fz (tI l), s1, .fz (.int x), .own none (.lst []), s4, .un] = .nx [.fz (tI l), s1, .fz (.int x), .own none (.lst ((grow F x).map tI)), s4', .un] := by
  obtain ⟨ρ', e, s4', q⟩ := forL_pre (g := b_law_orders1) (b := bName 4) tI (fun pre ρ => ∃ s4', ρ = [.fz (tI l), s1, .fz (.int x), .own none (.lst ((grow pre x).map tI)), s4', .un]) F [] [.fz (tI l), s1, .fz (.int x), .own none (.lst []), s4, .un]
    (fun pre o post ρ hp ho ⟨s4, q⟩ => by
      have h1 := pre_le hp
      have h2 : ∀ o ∈ pre, o ∈ F := fun p hp2 => by
        rw [List.nil_append] at hp
        rw [hp]; exact List.mem_append.mpr (.inl hp2)
      have h3 := grow_le h x (by omega) h2
      refine ⟨_, by subst q; rfl, _, lo_ins l s1 x (grow pre x) o (by rw [h o ho]; omega), .fz (tI o), ?_⟩
      simp [grow]) ⟨s4, rfl⟩
  exact ⟨s4', by rw [e, q]; rfl⟩
theorem lord0 (l : List Int) : ∀ (m pre : List Int) (F : List (List Int)) (s1 s2 s3 s4 : Sl), (s1 = .fz (.lst (F.map tI)) ∨ s1 = .own none (.lst (F.map tI))) → F.length = fct pre.length → (∀ o ∈ F, o.length = pre.length) → pre.length + m.length ≤ 4 →
    ∃ s1' s2' s3' s4', (s1' = .fz (.lst ((m.foldl grow F).map tI)) ∨ s1' = .own none (.lst ((m.foldl grow F).map tI))) ∧ forL (bName 2) b_law_orders0 (m.map T.int) [.fz (tI l), s1, s2, s3, s4, .un] = .nx [.fz (tI l), s1', s2', s3', s4', .un]
  | [], pre, F, s1, s2, s3, s4, h1, _, _, _ => ⟨s1, s2, s3, s4, h1, rfl⟩
  | x :: m, pre, F, s1, s2, s3, s4, h1, h2, h3, h4 => by
    have hb : (pre.length + 1) * F.length + pre.length ≤ 1000 := by
      rw [h2]
      have h5 : pre.length ≤ 3 := by simp at h4; omega
      match pre.length, h5 with
      | 0, _ => decide
      | 1, _ => decide
      | 2, _ => decide
      | 3, _ => decide
    obtain ⟨s4', e⟩ := lord1 l (.fz (.lst (F.map tI))) x F s4 h3 hb
    have g3 : ∀ o ∈ grow F x, o.length = (x :: pre).length := fun o ho => by
      simp only [grow, List.mem_flatten, List.mem_map] at ho
      obtain ⟨_, ⟨p, hp, rfl⟩, ho⟩ := ho
      rw [(ins_mem ho).length_eq]
      simp [h3 p hp]
    obtain ⟨t1, t2, t3, t4, t5, ih⟩ := lord0 l m (x :: pre) (grow F x) (.fz (.lst ((grow F x).map tI))) (.fz (.int x)) (.fz (.lst ((grow F x).map tI))) s4' (.inl rfl) (by rw [grow_len h3, h2]; rfl) g3 (by simp at h4 ⊢; omega)
    refine ⟨t1, t2, t3, t4, t5, ?_⟩
    have eb : bName 2 (T.int x) [.fz (tI l), s1, s2, s3, s4, .un] = some [.fz (tI l), s1, .fz (.int x), s3, s4, .un] := rfl
    have ei : fItems (fVar 1) [.fz (tI l), s1, .fz (.int x), .own none (.lst []), s4, .un] = .ok (F.map tI) [.fz (tI l), .fz (.lst (F.map tI)), .fz (.int x), .own none (.lst []), s4, .un] := by
      rcases h1 with rfl | rfl <;> rfl
    have eg : b_law_orders0 [.fz (tI l), s1, .fz (.int x), s3, s4, .un] = .nx [.fz (tI l), .fz (.lst ((grow F x).map tI)), .fz (.int x), .fz (.lst ((grow F x).map tI)), s4', .un] := by
      unfold b_law_orders1 at e
      unfold b_law_orders0
      simp only [Ev.ap_seq, Ev.ap_set, Ev.ap_lst, Ev.ap_esc, Ev.ap_nil, Ev.bind_ok, Ev.escs_nil, Ev.lim_eq, List.length_nil, Nat.zero_le, if_true, Ev.of_own, Ev.o_ok, Ev.put_own, Ev.after_nx, List.set_cons_zero, List.set_cons_succ, Ev.ap_for, ei, e, Ev.ap_var, List.getElem?_cons_zero, List.getElem?_cons_succ, Ev.put_bor, Ev.esc1_bor]
    simp only [List.map_cons, forL, eb, eg, ih, List.foldl_cons]
theorem orders_ok {l : List Int} (hl : l ≠ []) (h4 : l.length ≤ 4) : m__law_orders [tI l] = .ok (.own (.lst ((ords l).map tI))) := by
  obtain ⟨s1', s2', s3', s4', h1, e⟩ := lord0 l l [] [[]] (.own none (.lst ([[]].map tI))) .un .un .un (.inr rfl) rfl (fun o ho => by simpa using ho) (by simpa using h4)
  have hne : ∀ o ∈ perms l, o ≠ [] := fun o ho z => by
    subst z
    have := (perms_mem l []).mp ho
    exact hl (by simpa using this.symm)
  have e1 := bSorted_tI hne
  have es : List.replicate (6 - 1) Sl.un = [.un, .un, .un, .un, .un] := rfl
  have e2 : [[]].map tI = [T.tup []] := rfl
  unfold b_law_orders0 at e
  rw [e2] at e
  have h1 : s1' = .fz (.lst ((perms l).map tI)) ∨ s1' = .own none (.lst ((perms l).map tI)) := h1
  unfold m__law_orders
  rw [mkP1, es]
  unfold g__law_orders
  simp only [Ev.bind_ok, Ev.bind_err, Ev.map_ok, Ev.map_err, Ev.norm_fz, Ev.norm_own, Ev.norm_bor, Ev.norm_err, Ev.of_fz, Ev.of_own, Ev.ofB_some, Ev.o_ok, Ev.o_err, Ev.after_nx, Ev.after_rt, Ev.after_er, Ev.look_fz, Ev.look_bor, Ev.looks_nil, Ev.looks_cons, Ev.look2_eq, Ev.esc1_fz, Ev.esc1_bor, Ev.escs_nil, Ev.escs_cons, Ev.ap_var, Ev.ap_c, Ev.ap_nil, Ev.ap_cons, Ev.ap_star, Ev.ap_cb, Ev.ap_bin, Ev.ap_cmp, Ev.gcm_eq, Ev.ap_tru, Ev.tru_bl, Ev.ap_and, Ev.ap_or, Ev.ap_not, Ev.ap_andv, Ev.ap_orv, Ev.ap_notv, Ev.ap_if, Ev.ap_esc, Ev.ap_tup, Ev.ap_lst, Ev.lim_eq, Ev.ap_call, Ev.r_fz, Ev.r_own, Ev.r_err, Ev.ap_v, Ev.ap_chain, Ev.ap_neg, Ev.ap_items, Ev.items_tup, Ev.items_lst, Ev.ap_yes, Ev.ap_lc, Ev.ap_dc, Ev.ap_rev, Ev.ap_dk, Ev.ap_dn, Ev.ap_none, Ev.ap_some, Ev.ap_cut, Ev.ap_enum, Ev.ap_zip, Ev.ap_range1, Ev.ap_range2, Ev.ap_callM, Ev.ownT_eq, Ev.ap_gd, Ev.ap_mut, Ev.isL_lst, Ev.app_eq, Ev.ap_seq, Ev.ap_gif, Ev.ap_set, Ev.put_fz, Ev.put_own, Ev.put_bor, Ev.ap_ret, Ev.ap_drop, Ev.ap_gnil, Ev.ap_raise, Ev.ap_for, Ev.ap_aug, Ev.ap_asg, Ev.ap_store, Ev.ap_bname, Ev.ap_bnil, Ev.ap_bcons, Ev.ap_btup, Ev.end_rt, Ev.end_own, Ev.end_nx, Ev.end_er, Ev.end_bor, Ev.vl_fz, Ev.vl_own, List.getElem?_cons_zero, List.getElem?_cons_succ, Option.bind_some, List.set_cons_zero, List.set_cons_succ, List.length_nil, List.length_cons, Nat.reduceAdd, Nat.reduceLeDiff, Nat.zero_le, if_true, items_tI, e]
  rcases h1 with rfl | rfl
  · simp only [Ev.bind_ok, Ev.bind_err, Ev.map_ok, Ev.map_err, Ev.norm_fz, Ev.norm_own, Ev.norm_bor, Ev.norm_err, Ev.of_fz, Ev.of_own, Ev.ofB_some, Ev.o_ok, Ev.o_err, Ev.after_nx, Ev.after_rt, Ev.after_er, Ev.look_fz, Ev.look_bor, Ev.looks_nil, Ev.looks_cons, Ev.look2_eq, Ev.esc1_fz, Ev.esc1_bor, Ev.escs_nil, Ev.escs_cons, Ev.ap_var, Ev.ap_c, Ev.ap_nil, Ev.ap_cons, Ev.ap_star, Ev.ap_cb, Ev.ap_bin, Ev.ap_cmp, Ev.gcm_eq, Ev.ap_tru, Ev.tru_bl, Ev.ap_and, Ev.ap_or, Ev.ap_not, Ev.ap_andv, Ev.ap_orv, Ev.ap_notv, Ev.ap_if, Ev.ap_esc, Ev.ap_tup, Ev.ap_lst, Ev.lim_eq, Ev.ap_call, Ev.r_fz, Ev.r_own, Ev.r_err, Ev.ap_v, Ev.ap_chain, Ev.ap_neg, Ev.ap_items, Ev.items_tup, Ev.items_lst, Ev.ap_yes, Ev.ap_lc, Ev.ap_dc, Ev.ap_rev, Ev.ap_dk, Ev.ap_dn, Ev.ap_none, Ev.ap_some, Ev.ap_cut, Ev.ap_enum, Ev.ap_zip, Ev.ap_range1, Ev.ap_range2, Ev.ap_callM, Ev.ownT_eq, Ev.ap_gd, Ev.ap_mut, Ev.isL_lst, Ev.app_eq, Ev.ap_seq, Ev.ap_gif, Ev.ap_set, Ev.put_fz, Ev.put_own, Ev.put_bor, Ev.ap_ret, Ev.ap_drop, Ev.ap_gnil, Ev.ap_raise, Ev.ap_for, Ev.ap_aug, Ev.ap_asg, Ev.ap_store, Ev.ap_bname, Ev.ap_bnil, Ev.ap_bcons, Ev.ap_btup, Ev.end_rt, Ev.end_own, Ev.end_nx, Ev.end_er, Ev.end_bor, Ev.vl_fz, Ev.vl_own, List.getElem?_cons_zero, List.getElem?_cons_succ, Option.bind_some, e1]; rfl
  · simp only [Ev.bind_ok, Ev.bind_err, Ev.map_ok, Ev.map_err, Ev.norm_fz, Ev.norm_own, Ev.norm_bor, Ev.norm_err, Ev.of_fz, Ev.of_own, Ev.ofB_some, Ev.o_ok, Ev.o_err, Ev.after_nx, Ev.after_rt, Ev.after_er, Ev.look_fz, Ev.look_bor, Ev.looks_nil, Ev.looks_cons, Ev.look2_eq, Ev.esc1_fz, Ev.esc1_bor, Ev.escs_nil, Ev.escs_cons, Ev.ap_var, Ev.ap_c, Ev.ap_nil, Ev.ap_cons, Ev.ap_star, Ev.ap_cb, Ev.ap_bin, Ev.ap_cmp, Ev.gcm_eq, Ev.ap_tru, Ev.tru_bl, Ev.ap_and, Ev.ap_or, Ev.ap_not, Ev.ap_andv, Ev.ap_orv, Ev.ap_notv, Ev.ap_if, Ev.ap_esc, Ev.ap_tup, Ev.ap_lst, Ev.lim_eq, Ev.ap_call, Ev.r_fz, Ev.r_own, Ev.r_err, Ev.ap_v, Ev.ap_chain, Ev.ap_neg, Ev.ap_items, Ev.items_tup, Ev.items_lst, Ev.ap_yes, Ev.ap_lc, Ev.ap_dc, Ev.ap_rev, Ev.ap_dk, Ev.ap_dn, Ev.ap_none, Ev.ap_some, Ev.ap_cut, Ev.ap_enum, Ev.ap_zip, Ev.ap_range1, Ev.ap_range2, Ev.ap_callM, Ev.ownT_eq, Ev.ap_gd, Ev.ap_mut, Ev.isL_lst, Ev.app_eq, Ev.ap_seq, Ev.ap_gif, Ev.ap_set, Ev.put_fz, Ev.put_own, Ev.put_bor, Ev.ap_ret, Ev.ap_drop, Ev.ap_gnil, Ev.ap_raise, Ev.ap_for, Ev.ap_aug, Ev.ap_asg, Ev.ap_store, Ev.ap_bname, Ev.ap_bnil, Ev.ap_bcons, Ev.ap_btup, Ev.end_rt, Ev.end_own, Ev.end_nx, Ev.end_er, Ev.end_bor, Ev.vl_fz, Ev.vl_own, List.getElem?_cons_zero, List.getElem?_cons_succ, Option.bind_some, e1]; rfl
end K24
end

section
set_option Elab.async false
set_option linter.all false
set_option maxRecDepth 100000
set_option maxHeartbeats 1000000
namespace K24
open PySem PySem.Spec PyProof.Rows L2 FX
/-! ### _law_count -/
def chg : List Int → Nat
  | x :: y :: t => (if y ≠ x then 1 else 0) + chg (y :: t)
  | _ => 0
theorem chg_told : ∀ (t : List Int) (x n : Int), (t.foldl tstep (n, some x)).1 = n + chg (x :: t)
  | [], x, n => by simp [chg]
  | y :: t, x, n => by
    rw [List.foldl_cons]
    by_cases h : y = x
    · have e : tstep (n, some x) y = (n, some y) := by simp [tstep, h]
      rw [e, chg_told t y n]
      simp [chg, h]
    · have h' : ¬ x = y := fun z => h z.symm
      have e : tstep (n, some x) y = (n + 1, some y) := by simp [tstep, h']
      rw [e, chg_told t y (n + 1)]
      simp [chg, h]; omega
theorem told_chg (L : List (List Int)) : told L = chg L.flatten := by
  unfold told
  cases e : L.flatten with
  | nil => rfl
  | cons x t =>
    rw [List.foldl_cons]
    have e : tstep (0, none) x = (0, some x) := by simp [tstep]
    rw [e, chg_told]; omega
theorem chg_count : ∀ w : List Int, ((List.range (w.length - 1)).filter fun i => decide (w.getD (i + 1) 0 ≠ w.getD i 0)).length = chg w
  | [] => rfl
  | [x] => rfl
  | x :: y :: t => by
    have ih := chg_count (y :: t)
    have e : (x :: y :: t).length - 1 = ((y :: t).length - 1) + 1 := by simp
    rw [e, List.range_succ_eq_map, List.filter_cons, List.filter_map]
    have e2 : ((fun i => decide ((x :: y :: t).getD (i + 1) 0 ≠ (x :: y :: t).getD i 0)) ∘ Nat.succ) = fun i => decide ((y :: t).getD (i + 1) 0 ≠ (y :: t).getD i 0) := by
      funext i; simp
    rw [e2]
    by_cases h : y = x
    · simp only [chg, h, ne_eq, not_true_eq_false, if_false]
      rw [if_neg (by simp)]
      rw [List.length_map]
      rw [h] at ih
      simpa using ih
    · simp only [chg, ne_eq, h, not_false_eq_true, if_true]
      rw [if_pos (by simp [h])]
      rw [List.length_cons, List.length_map]
      have : ∀ n, n = chg (y :: t) → n + 1 = 1 + chg (y :: t) := fun n h => by omega
      exact this _ ih
theorem ix_at {w : List Int} {k : Nat} (h : k < w.length) : aIx (.lst (w.map T.int)) (.int k) = some (.fz (.int (w.getD k 0))) := by
  show (atI (w.map T.int) (k : Int)).map Nv.fz = _
  rw [K24.atI_nat, List.getElem?_map, List.getElem?_eq_getElem h]
  simp [List.getD, h]
theorem lc_loop (c : Sl) (S : List (List Int)) (hb : S.flatten.length ≤ 1000) : ∃ s2, forL (bName 2) b_law_count0 (S.map tI) [c, .own none (.lst []), .un, .un] = .nx [c, .own none (.lst (S.flatten.map T.int)), s2, .un] := by
  obtain ⟨ρ', e, s2, q⟩ := forL_pre (g := b_law_count0) (b := bName 2) tI (fun pre ρ => ∃ s2, ρ = [c, .own none (.lst (pre.flatten.map T.int)), s2, .un]) S [] [c, .own none (.lst []), .un, .un]
    (fun pre o post ρ hp ho ⟨s2, q⟩ => by
      have h1 : pre.flatten.length + o.length ≤ 1000 := by
        have := congrArg (fun z => z.flatten.length) hp
        simp only [List.nil_append, List.flatten_append, List.flatten_cons, List.length_append] at this
        omega
      have e1 := add_lst (pre.flatten.map T.int) (o.map T.int) (by simp only [List.length_map]; omega)
      have e2 : fCB bList (fACons (fVar 2) fANil) [c, .own none (.lst (pre.flatten.map T.int)), .fz (tI o), .un] = .ok (.own (.lst (o.map T.int))) [c, .own none (.lst (pre.flatten.map T.int)), .fz (tI o), .un] := rfl
      have e3 := set_cat (i := 1) (g := aAdd) (ρ := [c, .own none (.lst (pre.flatten.map T.int)), .fz (tI o), .un]) rfl e2 e1
      rw [← List.map_append] at e3
      refine ⟨_, by subst q; rfl, _, e3, .fz (tI o), ?_⟩
      simp) ⟨.un, rfl⟩
  exact ⟨s2, by rw [e, q]; rfl⟩
theorem count_ok {c : T} {S : List (List Int)} (hc : Seqs c (S.map tI)) (hb : S.flatten.length ≤ 1000) : m__law_count [c] = .ok (.fz (.int (told S))) := by
  obtain ⟨s2, e⟩ := lc_loop (.fz c) S hb
  have ec : c.items = some (S.map tI) := by rcases hc with rfl | rfl <;> rfl
  generalize hw : S.flatten = w at e hb
  have e1 := lcL_gen (vs := [3]) (b := bName 3) (ft := fCmpT cNe (fBin aIx (fVar 1) (fVar 3)) (fBin aIx (fVar 1) (fBin aSub (fVar 3) (fC (.int 1))))) (fe := fVar 3) (ρ := [.fz c, .own none (.lst (w.map T.int)), s2, .un]) (fun i : Nat => T.int (1 + (i : Int))) (fun i => decide (w.getD (i + 1) 0 ≠ w.getD i 0)) (fun i => .int (1 + (i : Int))) (List.range (w.length - 1)) [] (fun i hi => by
    have hi := List.mem_range.mp hi
    refine ⟨[.fz c, .own none (.lst (w.map T.int)), s2, .fz (.int (1 + (i : Int)))], rfl, ?_, fun _ => rfl, rfl⟩
    have i1 := ix_at (w := w) (k := i + 1) (by omega)
    have i2 := ix_at (w := w) (k := i) (by omega)
    have c1 : (1 + (i : Int)) = ((i + 1 : Nat) : Int) := by omega
    have c2 : ((i + 1 : Nat) : Int) - 1 = (i : Int) := by omega
    rw [c1]
    simp only [Ev.bind_ok, Ev.bind_err, Ev.map_ok, Ev.map_err, Ev.norm_fz, Ev.norm_own, Ev.norm_bor, Ev.norm_err, Ev.of_fz, Ev.of_own, Ev.ofB_some, Ev.o_ok, Ev.o_err, Ev.after_nx, Ev.after_rt, Ev.after_er, Ev.look_fz, Ev.look_bor, Ev.looks_nil, Ev.looks_cons, Ev.look2_eq, Ev.esc1_fz, Ev.esc1_bor, Ev.escs_nil, Ev.escs_cons, Ev.ap_var, Ev.ap_c, Ev.ap_nil, Ev.ap_cons, Ev.ap_star, Ev.ap_cb, Ev.ap_bin, Ev.ap_cmp, Ev.gcm_eq, Ev.ap_tru, Ev.tru_bl, Ev.ap_and, Ev.ap_or, Ev.ap_not, Ev.ap_andv, Ev.ap_orv, Ev.ap_notv, Ev.ap_if, Ev.ap_esc, Ev.ap_tup, Ev.ap_lst, Ev.lim_eq, Ev.ap_call, Ev.r_fz, Ev.r_own, Ev.r_err, Ev.ap_v, Ev.ap_chain, Ev.ap_neg, Ev.ap_items, Ev.items_tup, Ev.items_lst, Ev.ap_yes, Ev.ap_lc, Ev.ap_dc, Ev.ap_rev, Ev.ap_dk, Ev.ap_dn, Ev.ap_none, Ev.ap_some, Ev.ap_cut, Ev.ap_enum, Ev.ap_zip, Ev.ap_range1, Ev.ap_range2, Ev.ap_callM, Ev.ownT_eq, Ev.ap_gd, Ev.ap_mut, Ev.isL_lst, Ev.app_eq, Ev.ap_seq, Ev.ap_gif, Ev.ap_set, Ev.put_fz, Ev.put_own, Ev.put_bor, Ev.ap_ret, Ev.ap_drop, Ev.ap_gnil, Ev.ap_raise, Ev.ap_for, Ev.ap_aug, Ev.ap_asg, Ev.ap_store, Ev.ap_bname, Ev.ap_bnil, Ev.ap_bcons, Ev.ap_btup, Ev.end_rt, Ev.end_own, Ev.end_nx, Ev.end_er, Ev.end_bor, Ev.vl_fz, Ev.vl_own, List.getElem?_cons_zero, List.getElem?_cons_succ, i1, sub_int, c2, i2, cNe_int]) (by rw [List.length_range, List.length_nil]; omega)
  rw [List.nil_append] at e1
  have er : fRange2 (fACons (fC (.int 1)) (fACons (fCB bLen (fACons (fVar 1) fANil)) fANil)) [.fz c, .own none (.lst (w.map T.int)), s2, .un] = .ok ((List.range (w.length - 1)).map fun i : Nat => T.int (1 + (i : Int))) [.fz c, .own none (.lst (w.map T.int)), s2, .un] := by
    have ea : fACons (fC (.int 1)) (fACons (fCB bLen (fACons (fVar 1) fANil)) fANil) [.fz c, .own none (.lst (w.map T.int)), s2, .un] = .ok [.fz (.int 1), .fz (.int w.length)] [.fz c, .own none (.lst (w.map T.int)), s2, .un] := by
      simp only [Ev.bind_ok, Ev.bind_err, Ev.map_ok, Ev.map_err, Ev.norm_fz, Ev.norm_own, Ev.norm_bor, Ev.norm_err, Ev.of_fz, Ev.of_own, Ev.ofB_some, Ev.o_ok, Ev.o_err, Ev.after_nx, Ev.after_rt, Ev.after_er, Ev.look_fz, Ev.look_bor, Ev.looks_nil, Ev.looks_cons, Ev.look2_eq, Ev.esc1_fz, Ev.esc1_bor, Ev.escs_nil, Ev.escs_cons, Ev.ap_var, Ev.ap_c, Ev.ap_nil, Ev.ap_cons, Ev.ap_star, Ev.ap_cb, Ev.ap_bin, Ev.ap_cmp, Ev.gcm_eq, Ev.ap_tru, Ev.tru_bl, Ev.ap_and, Ev.ap_or, Ev.ap_not, Ev.ap_andv, Ev.ap_orv, Ev.ap_notv, Ev.ap_if, Ev.ap_esc, Ev.ap_tup, Ev.ap_lst, Ev.lim_eq, Ev.ap_call, Ev.r_fz, Ev.r_own, Ev.r_err, Ev.ap_v, Ev.ap_chain, Ev.ap_neg, Ev.ap_items, Ev.items_tup, Ev.items_lst, Ev.ap_yes, Ev.ap_lc, Ev.ap_dc, Ev.ap_rev, Ev.ap_dk, Ev.ap_dn, Ev.ap_none, Ev.ap_some, Ev.ap_cut, Ev.ap_enum, Ev.ap_zip, Ev.ap_range1, Ev.ap_range2, Ev.ap_callM, Ev.ownT_eq, Ev.ap_gd, Ev.ap_mut, Ev.isL_lst, Ev.app_eq, Ev.ap_seq, Ev.ap_gif, Ev.ap_set, Ev.put_fz, Ev.put_own, Ev.put_bor, Ev.ap_ret, Ev.ap_drop, Ev.ap_gnil, Ev.ap_raise, Ev.ap_for, Ev.ap_aug, Ev.ap_asg, Ev.ap_store, Ev.ap_bname, Ev.ap_bnil, Ev.ap_bcons, Ev.ap_btup, Ev.end_rt, Ev.end_own, Ev.end_nx, Ev.end_er, Ev.end_bor, Ev.vl_fz, Ev.vl_own, List.getElem?_cons_zero, List.getElem?_cons_succ, Option.bind_some, bLen_lst, List.length_map]
    have o1 : okR 1 = true := rfl
    have o2 : okR (w.length : Int) = true := by
      unfold okR
      simp only [Bool.and_eq_true, decide_eq_true_eq]
      omega
    have e3 : FX.rangeT 1 (w.length : Int) = (List.range (w.length - 1)).map fun i : Nat => T.int (1 + (i : Int)) := by
      unfold FX.rangeT
      have : ((w.length : Int) - 1).toNat = w.length - 1 := by omega
      rw [this]
    rw [Ev.ap_range2, ea, Ev.bind_ok]
    dsimp only
    rw [if_pos ⟨o1, o2⟩, e3]
  have e2 := lc_of er e1
  have e4 : told S = ((List.range (w.length - 1)).filter fun i => decide (w.getD (i + 1) 0 ≠ w.getD i 0)).length := by
    rw [told_chg, hw, chg_count]
  have es : List.replicate (4 - 1) Sl.un = [.un, .un, .un] := rfl
  unfold b_law_count0 at e
  unfold m__law_count
  rw [mkP1, es, e4]
  unfold g__law_count
  simp only [Ev.ap_seq, Ev.ap_set, Ev.ap_lst, Ev.ap_esc, Ev.ap_nil, Ev.bind_ok, Ev.escs_nil, Ev.lim_eq, List.length_nil, Nat.zero_le, if_true, Ev.of_own, Ev.o_ok, Ev.put_own, Ev.after_nx, List.set_cons_zero, List.set_cons_succ, Ev.ap_for, Ev.ap_items, Ev.ap_var, List.getElem?_cons_zero, List.getElem?_cons_succ, Ev.norm_fz, Ev.esc1_fz, ec]
  simp only [e, Ev.after_nx, Ev.ap_ret, Ev.ap_cb, Ev.ap_cons, Ev.ap_nil, e2, Ev.norm_own, Ev.bind_ok, Ev.looks_cons, Ev.looks_nil, Ev.look_fz, Option.bind_some, bLen_lst, Ev.of_fz, Ev.o_ok, Ev.end_rt, List.length_map]
end K24
end

section
set_option Elab.async false
set_option linter.all false
set_option maxRecDepth 100000
set_option maxHeartbeats 1000000
namespace K24
open PySem PySem.Spec PyProof.Rows L2 FX
/-! ### pairs of a count and a tuple of orders -/
def tC (r : Int × List (List Int)) : T := .tup [.int r.1, tII r.2]
def dC (r : Int × List (List Int)) : PyData := .tuple [.int r.1, dII r.2]
open PySem.W in
theorem row_dIs : ∀ L M : List (List Int), rowLt (L.map dI) (M.map dI) = decide (L < M)
  | [], [] => by
    have e : rowLt [] [] = false := lex_irrefl _
    simp [e]
  | [], y :: ys => by
    have e : rowLt [] (dI y :: ys.map dI) = true := by
      unfold rowLt
      rw [toks_all_cons]
      simp only [keyToksAll]
      rw [lex_diff (O := itemOrd) (by simp)]
      rfl
    simpa using e
  | x :: xs, [] => by
    have e : rowLt (dI x :: xs.map dI) [] = false := by
      unfold rowLt
      rw [toks_all_cons]
      simp only [keyToksAll]
      rw [lex_diff (O := itemOrd) (by simp)]
      rfl
    simpa using e
  | x :: xs, y :: ys => by
    have e : rowLt (dI x :: xs.map dI) (dI y :: ys.map dI) = if x = y then rowLt (xs.map dI) (ys.map dI) else decide (x < y) := by
      unfold rowLt
      rw [dataLt_cons (alike_dI x y), eqv_dI, lt_dI]
      simp only [decide_eq_true_eq]
    rw [List.map_cons, List.map_cons, e, row_dIs xs ys]
    have h := @List.cons_lt_cons_iff _ _ x y xs ys
    by_cases hxy : x = y
    · subst hxy
      rw [if_pos rfl]
      apply decide_eq_decide.mpr
      rw [h]
      constructor
      · exact fun z => .inr ⟨rfl, z⟩
      · rintro (z | ⟨_, z⟩)
        · exact absurd z (tL.irr _)
        · exact z
    · rw [if_neg hxy]
      apply decide_eq_decide.mpr
      rw [h]
      constructor
      · exact fun z => .inl z
      · rintro (z | ⟨z, _⟩)
        · exact z
        · exact absurd z hxy
theorem lt_dII (L M : List (List Int)) : PySem.W.dataLt (dII L) (dII M) = decide (L < M) := by
  unfold dII
  rw [PySem.W.dataLt_tuple]
  exact row_dIs L M
instance (c d : Int × List (List Int)) : Decidable (ltP c d) := by unfold ltP; infer_instance
theorem alike_dC (c d : Int × List (List Int)) : PySem.W.alike (dC c) (dC d) = true := by simp [dC, PySem.W.alike, PySem.W.alikeAll, alike_dII]
theorem lt_dC (c d : Int × List (List Int)) : PySem.W.dataLt (dC c) (dC d) = decide (ltP c d) := by
  unfold dC
  rw [PySem.W.dataLt_pair (by simp [PySem.W.alike]) (alike_dII _ _), eqv_dII, lt_dII, lt_int]
  simp only [PyData.eqv, beq_iff_eq, decide_eq_true_eq, ltP]
  by_cases h1 : c.1 = d.1
  · by_cases h2 : c.2 = d.2
    · simp [h1, h2, tLL.irr]
    · simp [h1, h2]
  · simp [h1]
theorem toD_tC (c : Int × List (List Int)) : (tC c).toD = some (dC c) := by simp [tC, T.toD, toDs, toD_tII, dC]
theorem depth_dC (c : Int × List (List Int)) : PyData.depth (dC c) ≤ 3 := by
  have := dep_dI c.2
  simp [dC, PyData.depth, PyData.depthAll, dII]; omega
theorem cLt_tC (c d : Int × List (List Int)) : cLt (tC c) (tC d) = some (decide (ltP c d)) := by
  have e : cLt (tC c) (tC d) = cLtD (tC c) (tC d) := rfl
  rw [e, cLtD, toD_tC, toD_tC]
  dsimp only
  rw [if_pos ⟨alike_dC c d, rfl, by have := depth_dC c; omega⟩, lt_dC]
theorem cDs_tC : ∀ L : List (Int × List (List Int)), cDs (L.map tC) = some (L.map dC)
  | [] => rfl
  | l :: L => by
    have : (tC l).cD = some (dC l) := by simp [tC, T.cD, cDs, cD_tII, dC]
    simp [cDs, this, cDs_tC L]
theorem dep_dCs : ∀ L : List (Int × List (List Int)), PyData.depthAll (L.map dC) ≤ 3
  | [] => by simp [PyData.depthAll]
  | l :: L => by
    have h := dep_dCs L
    have h2 := depth_dC l
    have e : PyData.depthAll ((l :: L).map dC) = max (PyData.depth (dC l)) (PyData.depthAll (L.map dC)) := by rw [List.map_cons, PyData.depthAll]
    rw [e]; omega
theorem ok_dCs (L : List (Int × List (List Int))) : okOrd (L.map dC) = true := by
  have : PyData.depthAll (L.map dC) ≤ 60 := by have := dep_dCs L; omega
  simp only [okOrd, Bool.and_eq_true, List.all_eq_true, decide_eq_true_eq]
  refine ⟨⟨fun x hx y hy => ?_, fun x hx => ?_⟩, this⟩
  · obtain ⟨i, _, rfl⟩ := List.mem_map.mp hx
    obtain ⟨j, _, rfl⟩ := List.mem_map.mp hy
    exact alike_dC i j
  · obtain ⟨i, _, rfl⟩ := List.mem_map.mp hx
    simp [isNone, dC]
def mnC : List (Int × List (List Int)) → Int × List (List Int)
  | [] => (0, [])
  | c :: L => L.foldl (fun a y => if ltP y a then y else a) c
theorem minD_dC (c : Int × List (List Int)) : ∀ L : List (Int × List (List Int)), PySem.W.minD (dC c) (L.map dC) = dC (mnC (c :: L)) := by
  intro L
  unfold PySem.W.minD
  show _ = dC (L.foldl (fun a y => if ltP y a then y else a) c)
  induction L generalizing c with
  | nil => rfl
  | cons d L ih =>
    rw [List.map_cons, List.foldl_cons, List.foldl_cons, lt_dC]
    by_cases h : ltP d c
    · simp only [h, decide_true, if_true]; exact ih d
    · simp only [h, decide_false, Bool.false_eq_true, if_false]; exact ih c
theorem ofD_dC (c : Int × List (List Int)) : ofD (dC c) = tC c := by simp [dC, ofD, ofDs, ofD_dII, tC]
theorem bMin_tC {L : List (Int × List (List Int))} (h : L ≠ []) : bMin [.lst (L.map tC)] = some (.fz (tC (mnC L))) := by
  cases L with
  | nil => exact absurd rfl h
  | cons n ns =>
    have e : cDs ((n :: ns).map tC) = some (dC n :: ns.map dC) := cDs_tC (n :: ns)
    have e2 : ∀ ts : List T, bMin [.lst ts] = (match cDs ts with | some (d :: ds) => if okOrd (d :: ds) = true then some (.fz (ofD (PySem.W.minD d ds))) else none | _ => none) := fun ts => rfl
    have h2 : okOrd (dC n :: ns.map dC) = true := ok_dCs (n :: ns)
    rw [e2, e]
    dsimp only
    rw [if_pos h2, minD_dC, ofD_dC]
theorem mnC_ok {L : List (Int × List (List Int))} (h : L ≠ []) : mnC L ∈ L ∧ ∀ d ∈ L, ¬ ltP d (mnC L) := by
  cases L with
  | nil => exact absurd rfl h
  | cons c L =>
    have : ∀ (L : List (Int × List (List Int))) (c), let m := L.foldl (fun a y => if ltP y a then y else a) c; (m = c ∨ m ∈ L) ∧ ¬ ltP c m ∧ ∀ d ∈ L, ¬ ltP d m := by
      intro L
      induction L with
      | nil => intro c; exact ⟨.inl rfl, ltP_irr tLL c, fun d h => by cases h⟩
      | cons e L ih =>
        intro c
        have key : ∀ {m c' d : Int × List (List Int)}, ¬ ltP c' m → ¬ ltP d c' → ¬ ltP d m := fun {m c' d} h1 h2 q => by
          rcases ltP_tri tLL c' m with z | z | z
          · exact h1 z
          · subst z; exact h2 q
          · exact h2 (ltP_tr tLL q z)
        by_cases h : ltP e c
        · obtain ⟨h1, h2, h3⟩ := ih e
          simp only [List.foldl_cons, h, if_true]
          refine ⟨?_, key h2 fun q => ltP_irr tLL _ (ltP_tr tLL q h), fun d hd => ?_⟩
          · rcases h1 with z | z
            · exact .inr (List.mem_cons.mpr (.inl z))
            · exact .inr (List.mem_cons_of_mem _ z)
          · rcases List.mem_cons.mp hd with z | z
            · subst z; exact h2
            · exact h3 d z
        · obtain ⟨h1, h2, h3⟩ := ih c
          simp only [List.foldl_cons, h, if_false]
          refine ⟨?_, h2, fun d hd => ?_⟩
          · rcases h1 with z | z
            · exact .inl z
            · exact .inr (List.mem_cons_of_mem _ z)
          · rcases List.mem_cons.mp hd with z | z
            · subst z; exact key h2 h
            · exact h3 d z
    obtain ⟨h1, h2, h3⟩ := this L c
    refine ⟨List.mem_cons.mpr h1, fun d hd => ?_⟩
    rcases List.mem_cons.mp hd with z | z
    · subst z; exact h2
    · exact h3 d z
end K24
end

section
set_option Elab.async false
set_option linter.all false
set_option maxRecDepth 100000
set_option maxHeartbeats 1000000
namespace K24
open PySem PySem.Spec PyProof.Rows L2 FX
/-! ### _law_best -/
abbrev Rr := Int × List (List Int)
abbrev HT' := List (Int × Rr)
def encH (H : HT') : List (Key × T) := H.map fun p => ((.inl p.1 : Key), tC p.2)
def look (H : HT') (k : Int) : Option Rr := (H.find? fun p => decide (p.1 = k)).map (·.2)
def putH (H : HT') (k : Int) (r : Rr) : HT' := if H.any fun p => decide (p.1 = k) then H.map fun p => if p.1 = k then (p.1, r) else p else H ++ [(k, r)]
def updH (H : HT') (c : Int × Rr) : HT' := match look H c.1 with
  | none => putH H c.1 c.2
  | some r => if ltP c.2 r then putH H c.1 c.2 else H
theorem valT_enc : ∀ (H : HT') (k : Int), valT (encH H) (.inl k) = (look H k).map tC
  | [], k => rfl
  | p :: H, k => by
    have ih := valT_enc H k
    unfold valT look encH at ih ⊢
    rw [List.map_cons, List.find?_cons, List.find?_cons]
    have e : decide (((.inl p.1 : Key)) = .inl k) = decide (p.1 = k) := by
      apply decide_eq_decide.mpr
      constructor
      · intro z; injection z
      · intro z; rw [z]
    rw [e]
    by_cases h : p.1 = k
    · simp [h]
    · simp only [h, decide_false]
      exact ih
theorem putT_enc (H : HT') (k : Int) (r : Rr) : putT (encH H) (.inl k) (tC r) = encH (putH H k r) := by
  have e1 : (encH H).any (fun kv => decide (kv.1 = (.inl k : Key))) = H.any fun p => decide (p.1 = k) := by
    unfold encH
    rw [List.any_map]
    congr 1
    funext p
    apply decide_eq_decide.mpr
    constructor
    · intro z; injection z
    · intro z; show (Sum.inl p.1 : Key) = .inl k; rw [z]
  unfold putT putH
  rw [e1]
  split
  · unfold encH
    rw [List.map_map, List.map_map]
    congr 1
    funext p
    simp only [Function.comp]
    by_cases h : p.1 = k
    · have h' : (Sum.inl p.1 : Key) = .inl k := by rw [h]
      simp [h]
    · have h' : ¬ (Sum.inl p.1 : Key) = .inl k := fun z => h (by injection z)
      simp [h]
  · simp [encH]
theorem look_put (H : HT') (k : Int) (r : Rr) (k' : Int) : look (putH H k r) k' = if k' = k then some r else look H k' := by
  unfold putH
  split
  · rename_i h
    induction H with
    | nil => simp at h
    | cons p H ih =>
      unfold look at ih ⊢
      rw [List.map_cons, List.find?_cons, List.find?_cons]
      by_cases hp : p.1 = k
      · simp only [hp, if_true]
        by_cases hk : k = k'
        · simp [hk]
        · have hk' : ¬ k' = k := fun z => hk z.symm
          simp only [hk, hk', decide_false, if_false]
          clear ih h
          induction H with
          | nil => rfl
          | cons q H ih2 =>
            rw [List.map_cons, List.find?_cons, List.find?_cons]
            by_cases hq : q.1 = k
            · simp only [hq, if_true, hk, decide_false]; exact ih2
            · simp only [hq, if_false]
              by_cases hq2 : q.1 = k'
              · simp [hq2]
              · simp only [hq2, decide_false]; exact ih2
      · simp only [hp, if_false]
        by_cases hq : p.1 = k'
        · have : ¬ k' = k := fun z => hp (hq.trans z)
          simp [hq, this]
        · simp only [hq, decide_false]
          have : (H.any fun p => decide (p.1 = k)) = true := by simpa [hp] using h
          exact ih this
  · rename_i h
    unfold look
    rw [List.find?_append]
    by_cases hk : k' = k
    · subst hk
      have : H.find? (fun p => decide (p.1 = k')) = none := by
        rw [List.find?_eq_none]
        intro p hp z
        exact h (List.any_eq_true.mpr ⟨p, hp, z⟩)
      simp [this]
    · have hk' : ¬ k = k' := fun z => hk z.symm
      simp [hk, hk']
def GoodH (H : HT') (C : List (Int × Rr)) : Prop := (∀ k r, look H k = some r → (k, r) ∈ C) ∧ ∀ c ∈ C, ∃ r, look H c.1 = some r ∧ ¬ ltP c.2 r
theorem good_nil : GoodH [] [] := ⟨fun k r h => (by cases h), fun c h => (by cases h)⟩
theorem good_upd {H : HT'} {C : List (Int × Rr)} (g : GoodH H C) (c : Int × Rr) : GoodH (updH H c) (C ++ [c]) := by
  have key : ∀ {m c' d : Rr}, ¬ ltP c' m → ¬ ltP d c' → ¬ ltP d m := fun {m c' d} h1 h2 q => by
    rcases ltP_tri tLL c' m with z | z | z
    · exact h1 z
    · subst z; exact h2 q
    · exact h2 (ltP_tr tLL q z)
  have put : (∀ r, look H c.1 = some r → ltP c.2 r) → GoodH (putH H c.1 c.2) (C ++ [c]) := fun hlt => by
    refine ⟨fun k r h => ?_, fun d hd => ?_⟩
    · rw [look_put] at h
      split at h
      · rename_i e
        injection h with h
        subst e; subst h
        exact List.mem_append.mpr (.inr (List.mem_singleton.mpr rfl))
      · exact List.mem_append.mpr (.inl (g.1 k r h))
    · rw [look_put]
      rcases List.mem_append.mp hd with hd | hd
      · obtain ⟨r, h1, h2⟩ := g.2 d hd
        by_cases e : d.1 = c.1
        · rw [if_pos e]
          rw [e] at h1
          exact ⟨_, rfl, key (fun q => ltP_irr tLL _ (ltP_tr tLL q (hlt r h1))) h2⟩
        · rw [if_neg e]; exact ⟨r, h1, h2⟩
      · rw [List.mem_singleton.mp hd, if_pos rfl]
        exact ⟨_, rfl, ltP_irr tLL _⟩
  unfold updH
  cases h : look H c.1 with
  | none => exact put fun r z => by rw [h] at z; cases z
  | some r =>
    dsimp only
    split
    · rename_i hl; exact put fun r' z => by rw [h] at z; cases z; exact hl
    · rename_i hl
      refine ⟨fun k r h => List.mem_append.mpr (.inl (g.1 k r h)), fun d hd => ?_⟩
      rcases List.mem_append.mp hd with hd | hd
      · exact g.2 d hd
      · rw [List.mem_singleton.mp hd]; exact ⟨r, h, hl⟩
theorem good_fold : ∀ (D : List (Int × Rr)) (H : HT') (C : List (Int × Rr)), GoodH H C → GoodH (D.foldl updH H) (C ++ D)
  | [], H, C, g => by simpa using g
  | d :: D, H, C, g => by
    have := good_fold D (updH H d) (C ++ [d]) (good_upd g d)
    simpa using this
theorem bin_fz {g : T → T → Option Nv} {fa fb : FX.Env → R Vl} {ρ : FX.Env} {A B C : T} (h1 : fa ρ = .ok (.fz A) ρ) (h2 : fb ρ = .ok (.fz B) ρ) (h3 : g A B = some (.fz C)) : fBin g fa fb ρ = .ok (.fz C) ρ := by
  simp only [Ev.ap_bin, h1, Ev.norm_fz, Ev.bind_ok, h2, Ev.look2_eq, Ev.look_fz, h3, Ev.of_fz]
def kO : Option Int → T
  | none => .non
  | some i => .int i
/-- the tree t is walked as a dict of these keys -/
def FT (t : T) (K : List (Option Int)) (r : Option Int → Rr) : Prop := dkeys true t = some (K.map kO) ∧ ∀ k ∈ K, aIxA t (kO k) = some (.fz (tC (r k)))
def dst (k : Option Int) (o : List Int) : Int := if k = none ∨ k = some (hd o) then 0 else 1
def candK (r : Option Int → Rr) (o : List Int) (k : Option Int) : Int × Rr := (lst o, ((r k).1 + o.length - 1 + dst k o, (r k).2 ++ [o]))
theorem cNotIn_enc (H : HT') (k : Int) : cNotIn (.int k) (.dK (encH H)) = some (decide (look H k = none)) := by
  have e : cNotIn (.int k) (.dK (encH H)) = orB (cInK true) (orB (cInD true) (cInS true)) (.int k) (.dK (encH H)) := rfl
  have e2 : cInK true (.int k) (.dK (encH H)) = some (decide (look H k = none)) := by
    show (some (valT (encH H) (.inl k))).map (fun o : Option T => !o.isSome) = _
    rw [valT_enc]
    cases look H k <;> rfl
  rw [e]
  show orB (cInK true) _ _ _ = _
  unfold orB
  rw [e2]
theorem ix_enc {H : HT'} {k : Int} {r : Rr} (h : look H k = some r) : aIx (.dK (encH H)) (.int k) = some (.fz (tC r)) := by
  have e : aIx (.dK (encH H)) (.int k) = (match (some (valT (encH H) (.inl k)) : Option (Option T)) with | some (some w) => some (.fz w) | _ => none) := rfl
  rw [e, valT_enc, h]; rfl
theorem tI_head {o : List Int} (h : o ≠ []) : aIx (tI o) (.int 0) = some (.fz (.int (hd o))) := by
  match o, h with
  | x :: t, _ =>
    show (atI ((x :: t).map T.int) ((0 : Nat) : Int)).map Nv.fz = _
    rw [K24.atI_nat]; rfl
theorem stD_enc {H : HT'} (h : H.length ≤ 1000) (k : Int) (r : Rr) : stD (.dK (encH H)) (.int k) (tC r) = some (.dK (encH (putH H k r))) := by
  simp only [stD, T.key, Option.map_some]
  rw [if_pos (by simp [encH]; omega), putT_enc]
theorem lb_turn (c0 : Sl) (t : T) (l o : List Int) (H : HT') (k : Option Int) (r : Rr) (hk : aIxA t (kO k) = some (.fz (tC r))) (ho : o ≠ []) (hH : H.length ≤ 1000) (hS : r.2.length ≤ 1000) (s6 s7 s8 s9 : Sl) : ∃ s6' s7' s8' s9', b_law_best2 [c0, .fz t, .fz (tI l), .own none (.dK (encH H)), .fz (tI o), .fz (kO k), s6, s7, s8, s9] = .nx [c0, .fz t, .fz (tI l), .own none (.dK (encH (updH H (lst o, (r.1 + o.length - 1 + dst k o, r.2 ++ [o]))))), .fz (tI o), .fz (kO k), s6', s7', s8', s9'] := by
  obtain ⟨c, S⟩ := r
  dsimp only at hS ⊢
  refine ⟨.fz (.int c), .fz (tII S), .fz (.int (c + o.length - 1 + dst k o)), .fz (tC (c + o.length - 1 + dst k o, S ++ [o])), ?_⟩
  have hk' : aIxA t (kO k) = some (.fz (.tup [.int c, tII S])) := hk
  have h0 := tI_head ho
  have h1 := tI_last ho
  have e8 : fBin aAdd (fBin aSub (fBin aAdd (fVar 6) (fCB bLen (fACons (fVar 4) fANil))) (fC (.int 1))) (fIf (fOr (fCmpT cIsN (fVar 5) (fC .non)) (fCmpT cEq (fVar 5) (fBin aIx (fVar 4) (fC (.int 0))))) (fC (.int 0)) (fC (.int 1))) [c0, .fz t, .fz (tI l), .own none (.dK (encH H)), .fz (tI o), .fz (kO k), .fz (.int c), .fz (tII S), s8, s9] = .ok (.fz (.int (c + o.length - 1 + dst k o))) [c0, .fz t, .fz (tI l), .own none (.dK (encH H)), .fz (tI o), .fz (kO k), .fz (.int c), .fz (tII S), s8, s9] := by
    cases k with
    | none =>
      have n : cIsN (kO none) .non = some true := rfl
      simp only [Ev.bind_ok, Ev.bind_err, Ev.map_ok, Ev.map_err, Ev.norm_fz, Ev.norm_own, Ev.norm_bor, Ev.norm_err, Ev.of_fz, Ev.of_own, Ev.ofB_some, Ev.o_ok, Ev.o_err, Ev.after_nx, Ev.after_rt, Ev.after_er, Ev.look_fz, Ev.look_bor, Ev.looks_nil, Ev.looks_cons, Ev.look2_eq, Ev.esc1_fz, Ev.esc1_bor, Ev.escs_nil, Ev.escs_cons, Ev.ap_var, Ev.ap_c, Ev.ap_nil, Ev.ap_cons, Ev.ap_star, Ev.ap_cb, Ev.ap_bin, Ev.ap_cmp, Ev.gcm_eq, Ev.ap_tru, Ev.tru_bl, Ev.ap_and, Ev.ap_or, Ev.ap_not, Ev.ap_andv, Ev.ap_orv, Ev.ap_notv, Ev.ap_if, Ev.ap_esc, Ev.ap_tup, Ev.ap_lst, Ev.lim_eq, Ev.ap_call, Ev.r_fz, Ev.r_own, Ev.r_err, Ev.ap_v, Ev.ap_chain, Ev.ap_neg, Ev.ap_items, Ev.items_tup, Ev.items_lst, Ev.ap_yes, Ev.ap_lc, Ev.ap_dc, Ev.ap_rev, Ev.ap_dk, Ev.ap_dn, Ev.ap_none, Ev.ap_some, Ev.ap_cut, Ev.ap_enum, Ev.ap_zip, Ev.ap_range1, Ev.ap_range2, Ev.ap_callM, Ev.ownT_eq, Ev.ap_gd, Ev.ap_mut, Ev.isL_lst, Ev.app_eq, Ev.ap_seq, Ev.ap_gif, Ev.ap_set, Ev.put_fz, Ev.put_own, Ev.put_bor, Ev.ap_ret, Ev.ap_drop, Ev.ap_gnil, Ev.ap_raise, Ev.ap_for, Ev.ap_aug, Ev.ap_asg, Ev.ap_store, Ev.ap_bname, Ev.ap_bnil, Ev.ap_bcons, Ev.ap_btup, Ev.end_rt, Ev.end_own, Ev.end_nx, Ev.end_er, Ev.end_bor, Ev.vl_fz, Ev.vl_own, List.getElem?_cons_zero, List.getElem?_cons_succ, Option.bind_some, bLen_tI, add_int, sub_int, n, if_true]
      simp [dst]
    | some i =>
      have n : cIsN (kO (some i)) .non = some false := rfl
      have q : cEq (kO (some i)) (.int (hd o)) = some (decide (i = hd o)) := cEq_int _ _
      simp only [Ev.bind_ok, Ev.bind_err, Ev.map_ok, Ev.map_err, Ev.norm_fz, Ev.norm_own, Ev.norm_bor, Ev.norm_err, Ev.of_fz, Ev.of_own, Ev.ofB_some, Ev.o_ok, Ev.o_err, Ev.after_nx, Ev.after_rt, Ev.after_er, Ev.look_fz, Ev.look_bor, Ev.looks_nil, Ev.looks_cons, Ev.look2_eq, Ev.esc1_fz, Ev.esc1_bor, Ev.escs_nil, Ev.escs_cons, Ev.ap_var, Ev.ap_c, Ev.ap_nil, Ev.ap_cons, Ev.ap_star, Ev.ap_cb, Ev.ap_bin, Ev.ap_cmp, Ev.gcm_eq, Ev.ap_tru, Ev.tru_bl, Ev.ap_and, Ev.ap_or, Ev.ap_not, Ev.ap_andv, Ev.ap_orv, Ev.ap_notv, Ev.ap_if, Ev.ap_esc, Ev.ap_tup, Ev.ap_lst, Ev.lim_eq, Ev.ap_call, Ev.r_fz, Ev.r_own, Ev.r_err, Ev.ap_v, Ev.ap_chain, Ev.ap_neg, Ev.ap_items, Ev.items_tup, Ev.items_lst, Ev.ap_yes, Ev.ap_lc, Ev.ap_dc, Ev.ap_rev, Ev.ap_dk, Ev.ap_dn, Ev.ap_none, Ev.ap_some, Ev.ap_cut, Ev.ap_enum, Ev.ap_zip, Ev.ap_range1, Ev.ap_range2, Ev.ap_callM, Ev.ownT_eq, Ev.ap_gd, Ev.ap_mut, Ev.isL_lst, Ev.app_eq, Ev.ap_seq, Ev.ap_gif, Ev.ap_set, Ev.put_fz, Ev.put_own, Ev.put_bor, Ev.ap_ret, Ev.ap_drop, Ev.ap_gnil, Ev.ap_raise, Ev.ap_for, Ev.ap_aug, Ev.ap_asg, Ev.ap_store, Ev.ap_bname, Ev.ap_bnil, Ev.ap_bcons, Ev.ap_btup, Ev.end_rt, Ev.end_own, Ev.end_nx, Ev.end_er, Ev.end_bor, Ev.vl_fz, Ev.vl_own, List.getElem?_cons_zero, List.getElem?_cons_succ, Option.bind_some, bLen_tI, add_int, sub_int, n, if_false, Bool.false_eq_true, h0, q]
      by_cases hi : i = hd o
      · simp only [hi, decide_true, if_true, Ev.bind_ok, Ev.bind_err, Ev.map_ok, Ev.map_err, Ev.norm_fz, Ev.norm_own, Ev.norm_bor, Ev.norm_err, Ev.of_fz, Ev.of_own, Ev.ofB_some, Ev.o_ok, Ev.o_err, Ev.after_nx, Ev.after_rt, Ev.after_er, Ev.look_fz, Ev.look_bor, Ev.looks_nil, Ev.looks_cons, Ev.look2_eq, Ev.esc1_fz, Ev.esc1_bor, Ev.escs_nil, Ev.escs_cons, Ev.ap_var, Ev.ap_c, Ev.ap_nil, Ev.ap_cons, Ev.ap_star, Ev.ap_cb, Ev.ap_bin, Ev.ap_cmp, Ev.gcm_eq, Ev.ap_tru, Ev.tru_bl, Ev.ap_and, Ev.ap_or, Ev.ap_not, Ev.ap_andv, Ev.ap_orv, Ev.ap_notv, Ev.ap_if, Ev.ap_esc, Ev.ap_tup, Ev.ap_lst, Ev.lim_eq, Ev.ap_call, Ev.r_fz, Ev.r_own, Ev.r_err, Ev.ap_v, Ev.ap_chain, Ev.ap_neg, Ev.ap_items, Ev.items_tup, Ev.items_lst, Ev.ap_yes, Ev.ap_lc, Ev.ap_dc, Ev.ap_rev, Ev.ap_dk, Ev.ap_dn, Ev.ap_none, Ev.ap_some, Ev.ap_cut, Ev.ap_enum, Ev.ap_zip, Ev.ap_range1, Ev.ap_range2, Ev.ap_callM, Ev.ownT_eq, Ev.ap_gd, Ev.ap_mut, Ev.isL_lst, Ev.app_eq, Ev.ap_seq, Ev.ap_gif, Ev.ap_set, Ev.put_fz, Ev.put_own, Ev.put_bor, Ev.ap_ret, Ev.ap_drop, Ev.ap_gnil, Ev.ap_raise, Ev.ap_for, Ev.ap_aug, Ev.ap_asg, Ev.ap_store, Ev.ap_bname, Ev.ap_bnil, Ev.ap_bcons, Ev.ap_btup, Ev.end_rt, Ev.end_own, Ev.end_nx, Ev.end_er, Ev.end_bor, Ev.vl_fz, Ev.vl_own, Option.bind_some, add_int]
        simp [dst]
      · simp only [hi, decide_false, Bool.false_eq_true, if_false, Ev.bind_ok, Ev.bind_err, Ev.map_ok, Ev.map_err, Ev.norm_fz, Ev.norm_own, Ev.norm_bor, Ev.norm_err, Ev.of_fz, Ev.of_own, Ev.ofB_some, Ev.o_ok, Ev.o_err, Ev.after_nx, Ev.after_rt, Ev.after_er, Ev.look_fz, Ev.look_bor, Ev.looks_nil, Ev.looks_cons, Ev.look2_eq, Ev.esc1_fz, Ev.esc1_bor, Ev.escs_nil, Ev.escs_cons, Ev.ap_var, Ev.ap_c, Ev.ap_nil, Ev.ap_cons, Ev.ap_star, Ev.ap_cb, Ev.ap_bin, Ev.ap_cmp, Ev.gcm_eq, Ev.ap_tru, Ev.tru_bl, Ev.ap_and, Ev.ap_or, Ev.ap_not, Ev.ap_andv, Ev.ap_orv, Ev.ap_notv, Ev.ap_if, Ev.ap_esc, Ev.ap_tup, Ev.ap_lst, Ev.lim_eq, Ev.ap_call, Ev.r_fz, Ev.r_own, Ev.r_err, Ev.ap_v, Ev.ap_chain, Ev.ap_neg, Ev.ap_items, Ev.items_tup, Ev.items_lst, Ev.ap_yes, Ev.ap_lc, Ev.ap_dc, Ev.ap_rev, Ev.ap_dk, Ev.ap_dn, Ev.ap_none, Ev.ap_some, Ev.ap_cut, Ev.ap_enum, Ev.ap_zip, Ev.ap_range1, Ev.ap_range2, Ev.ap_callM, Ev.ownT_eq, Ev.ap_gd, Ev.ap_mut, Ev.isL_lst, Ev.app_eq, Ev.ap_seq, Ev.ap_gif, Ev.ap_set, Ev.put_fz, Ev.put_own, Ev.put_bor, Ev.ap_ret, Ev.ap_drop, Ev.ap_gnil, Ev.ap_raise, Ev.ap_for, Ev.ap_aug, Ev.ap_asg, Ev.ap_store, Ev.ap_bname, Ev.ap_bnil, Ev.ap_bcons, Ev.ap_btup, Ev.end_rt, Ev.end_own, Ev.end_nx, Ev.end_er, Ev.end_bor, Ev.vl_fz, Ev.vl_own, Option.bind_some, add_int]
        simp [dst, hi]
  have a1 : aAdd (tII S) (.tup [tI o]) = some (.fz (tII (S ++ [o]))) := by
    unfold tII
    rw [add_tup _ _ (by simp; omega)]
    simp
  have e7 := bin_fz (g := aAdd) (fa := fVar 7) (fb := fTup (fACons (fVar 4) fANil)) (ρ := [c0, .fz t, .fz (tI l), .own none (.dK (encH H)), .fz (tI o), .fz (kO k), .fz (.int c), .fz (tII S), .fz (.int (c + o.length - 1 + dst k o)), s9]) rfl rfl a1
  have e9 : fTup (fACons (fVar 8) (fACons (fBin aAdd (fVar 7) (fTup (fACons (fVar 4) fANil))) fANil)) [c0, .fz t, .fz (tI l), .own none (.dK (encH H)), .fz (tI o), .fz (kO k), .fz (.int c), .fz (tII S), .fz (.int (c + o.length - 1 + dst k o)), s9] = .ok (.fz (tC (c + o.length - 1 + dst k o, S ++ [o]))) [c0, .fz t, .fz (tI l), .own none (.dK (encH H)), .fz (tI o), .fz (kO k), .fz (.int c), .fz (tII S), .fz (.int (c + o.length - 1 + dst k o)), s9] := by
    simp only [Ev.ap_tup, Ev.ap_esc, Ev.ap_cons, Ev.ap_var, List.getElem?_cons_zero, List.getElem?_cons_succ, Ev.norm_fz, Ev.bind_ok, e7, Ev.ap_nil, Ev.escs_cons, Ev.escs_nil, Ev.esc1_fz, Ev.lim_eq, List.length_cons, List.length_nil, Nat.reduceAdd, Nat.reduceLeDiff, if_true, Ev.of_fz]
    rfl
  generalize hr : (c + o.length - 1 + dst k o, S ++ [o]) = r' at e9 ⊢
  have hst := stD_enc hH (lst o) r'
  have hni := cNotIn_enc H (lst o)
  have eb : gAsg (bTup 2 (bCons (bName 6) (bCons (bName 7) bNil))) (fBin aIxA (fVar 1) (fVar 5)) [c0, .fz t, .fz (tI l), .own none (.dK (encH H)), .fz (tI o), .fz (kO k), s6, s7, s8, s9] = .nx [c0, .fz t, .fz (tI l), .own none (.dK (encH H)), .fz (tI o), .fz (kO k), .fz (.int c), .fz (tII S), s8, s9] := by
    simp only [Ev.bind_ok, Ev.bind_err, Ev.map_ok, Ev.map_err, Ev.norm_fz, Ev.norm_own, Ev.norm_bor, Ev.norm_err, Ev.of_fz, Ev.of_own, Ev.ofB_some, Ev.o_ok, Ev.o_err, Ev.after_nx, Ev.after_rt, Ev.after_er, Ev.look_fz, Ev.look_bor, Ev.looks_nil, Ev.looks_cons, Ev.look2_eq, Ev.esc1_fz, Ev.esc1_bor, Ev.escs_nil, Ev.escs_cons, Ev.ap_var, Ev.ap_c, Ev.ap_nil, Ev.ap_cons, Ev.ap_star, Ev.ap_cb, Ev.ap_bin, Ev.ap_cmp, Ev.gcm_eq, Ev.ap_tru, Ev.tru_bl, Ev.ap_and, Ev.ap_or, Ev.ap_not, Ev.ap_andv, Ev.ap_orv, Ev.ap_notv, Ev.ap_if, Ev.ap_esc, Ev.ap_tup, Ev.ap_lst, Ev.lim_eq, Ev.ap_call, Ev.r_fz, Ev.r_own, Ev.r_err, Ev.ap_v, Ev.ap_chain, Ev.ap_neg, Ev.ap_items, Ev.items_tup, Ev.items_lst, Ev.ap_yes, Ev.ap_lc, Ev.ap_dc, Ev.ap_rev, Ev.ap_dk, Ev.ap_dn, Ev.ap_none, Ev.ap_some, Ev.ap_cut, Ev.ap_enum, Ev.ap_zip, Ev.ap_range1, Ev.ap_range2, Ev.ap_callM, Ev.ownT_eq, Ev.ap_gd, Ev.ap_mut, Ev.isL_lst, Ev.app_eq, Ev.ap_seq, Ev.ap_gif, Ev.ap_set, Ev.put_fz, Ev.put_own, Ev.put_bor, Ev.ap_ret, Ev.ap_drop, Ev.ap_gnil, Ev.ap_raise, Ev.ap_for, Ev.ap_aug, Ev.ap_asg, Ev.ap_store, Ev.ap_bname, Ev.ap_bnil, Ev.ap_bcons, Ev.ap_btup, Ev.end_rt, Ev.end_own, Ev.end_nx, Ev.end_er, Ev.end_bor, Ev.vl_fz, Ev.vl_own, List.getElem?_cons_zero, List.getElem?_cons_succ, hk', List.length_cons, List.length_nil, Nat.reduceAdd, if_true, Option.bind_some, List.set_cons_zero, List.set_cons_succ]
  unfold b_law_best2
  rw [Ev.ap_seq, eb, Ev.after_nx, Ev.ap_seq, Ev.ap_set, e8, Ev.o_ok, Ev.put_fz, Ev.after_nx]
  simp only [List.set_cons_zero, List.set_cons_succ]
  rw [Ev.ap_seq, Ev.ap_set, e9, Ev.o_ok, Ev.put_fz, Ev.after_nx]
  simp only [List.set_cons_zero, List.set_cons_succ]
  cases hl : look H (lst o) with
  | none =>
    rw [hl] at hni
    have e : updH H (lst o, r') = putH H (lst o) r' := by simp [updH, hl]
    rw [e]
    simp only [Ev.bind_ok, Ev.bind_err, Ev.map_ok, Ev.map_err, Ev.norm_fz, Ev.norm_own, Ev.norm_bor, Ev.norm_err, Ev.of_fz, Ev.of_own, Ev.ofB_some, Ev.o_ok, Ev.o_err, Ev.after_nx, Ev.after_rt, Ev.after_er, Ev.look_fz, Ev.look_bor, Ev.looks_nil, Ev.looks_cons, Ev.look2_eq, Ev.esc1_fz, Ev.esc1_bor, Ev.escs_nil, Ev.escs_cons, Ev.ap_var, Ev.ap_c, Ev.ap_nil, Ev.ap_cons, Ev.ap_star, Ev.ap_cb, Ev.ap_bin, Ev.ap_cmp, Ev.gcm_eq, Ev.ap_tru, Ev.tru_bl, Ev.ap_and, Ev.ap_or, Ev.ap_not, Ev.ap_andv, Ev.ap_orv, Ev.ap_notv, Ev.ap_if, Ev.ap_esc, Ev.ap_tup, Ev.ap_lst, Ev.lim_eq, Ev.ap_call, Ev.r_fz, Ev.r_own, Ev.r_err, Ev.ap_v, Ev.ap_chain, Ev.ap_neg, Ev.ap_items, Ev.items_tup, Ev.items_lst, Ev.ap_yes, Ev.ap_lc, Ev.ap_dc, Ev.ap_rev, Ev.ap_dk, Ev.ap_dn, Ev.ap_none, Ev.ap_some, Ev.ap_cut, Ev.ap_enum, Ev.ap_zip, Ev.ap_range1, Ev.ap_range2, Ev.ap_callM, Ev.ownT_eq, Ev.ap_gd, Ev.ap_mut, Ev.isL_lst, Ev.app_eq, Ev.ap_seq, Ev.ap_gif, Ev.ap_set, Ev.put_fz, Ev.put_own, Ev.put_bor, Ev.ap_ret, Ev.ap_drop, Ev.ap_gnil, Ev.ap_raise, Ev.ap_for, Ev.ap_aug, Ev.ap_asg, Ev.ap_store, Ev.ap_bname, Ev.ap_bnil, Ev.ap_bcons, Ev.ap_btup, Ev.end_rt, Ev.end_own, Ev.end_nx, Ev.end_er, Ev.end_bor, Ev.vl_fz, Ev.vl_own, List.getElem?_cons_zero, List.getElem?_cons_succ, h1, hni, decide_true, if_true, hst, List.set_cons_zero, List.set_cons_succ]
  | some r0 =>
    rw [hl] at hni
    have hni : cNotIn (.int (lst o)) (.dK (encH H)) = some false := by rw [hni]; rfl
    have hx := ix_enc hl
    have hlt := cLt_tC r' r0
    simp only [Ev.bind_ok, Ev.bind_err, Ev.map_ok, Ev.map_err, Ev.norm_fz, Ev.norm_own, Ev.norm_bor, Ev.norm_err, Ev.of_fz, Ev.of_own, Ev.ofB_some, Ev.o_ok, Ev.o_err, Ev.after_nx, Ev.after_rt, Ev.after_er, Ev.look_fz, Ev.look_bor, Ev.looks_nil, Ev.looks_cons, Ev.look2_eq, Ev.esc1_fz, Ev.esc1_bor, Ev.escs_nil, Ev.escs_cons, Ev.ap_var, Ev.ap_c, Ev.ap_nil, Ev.ap_cons, Ev.ap_star, Ev.ap_cb, Ev.ap_bin, Ev.ap_cmp, Ev.gcm_eq, Ev.ap_tru, Ev.tru_bl, Ev.ap_and, Ev.ap_or, Ev.ap_not, Ev.ap_andv, Ev.ap_orv, Ev.ap_notv, Ev.ap_if, Ev.ap_esc, Ev.ap_tup, Ev.ap_lst, Ev.lim_eq, Ev.ap_call, Ev.r_fz, Ev.r_own, Ev.r_err, Ev.ap_v, Ev.ap_chain, Ev.ap_neg, Ev.ap_items, Ev.items_tup, Ev.items_lst, Ev.ap_yes, Ev.ap_lc, Ev.ap_dc, Ev.ap_rev, Ev.ap_dk, Ev.ap_dn, Ev.ap_none, Ev.ap_some, Ev.ap_cut, Ev.ap_enum, Ev.ap_zip, Ev.ap_range1, Ev.ap_range2, Ev.ap_callM, Ev.ownT_eq, Ev.ap_gd, Ev.ap_mut, Ev.isL_lst, Ev.app_eq, Ev.ap_seq, Ev.ap_gif, Ev.ap_set, Ev.put_fz, Ev.put_own, Ev.put_bor, Ev.ap_ret, Ev.ap_drop, Ev.ap_gnil, Ev.ap_raise, Ev.ap_for, Ev.ap_aug, Ev.ap_asg, Ev.ap_store, Ev.ap_bname, Ev.ap_bnil, Ev.ap_bcons, Ev.ap_btup, Ev.end_rt, Ev.end_own, Ev.end_nx, Ev.end_er, Ev.end_bor, Ev.vl_fz, Ev.vl_own, List.getElem?_cons_zero, List.getElem?_cons_succ, h1, hni, decide_false, Bool.false_eq_true, if_false, hx, hlt]
    by_cases hp : ltP r' r0
    · have e : updH H (lst o, r') = putH H (lst o) r' := by simp [updH, hl, hp]
      rw [e]
      simp only [hp, decide_true, if_true, Ev.bind_ok, Ev.bind_err, Ev.map_ok, Ev.map_err, Ev.norm_fz, Ev.norm_own, Ev.norm_bor, Ev.norm_err, Ev.of_fz, Ev.of_own, Ev.ofB_some, Ev.o_ok, Ev.o_err, Ev.after_nx, Ev.after_rt, Ev.after_er, Ev.look_fz, Ev.look_bor, Ev.looks_nil, Ev.looks_cons, Ev.look2_eq, Ev.esc1_fz, Ev.esc1_bor, Ev.escs_nil, Ev.escs_cons, Ev.ap_var, Ev.ap_c, Ev.ap_nil, Ev.ap_cons, Ev.ap_star, Ev.ap_cb, Ev.ap_bin, Ev.ap_cmp, Ev.gcm_eq, Ev.ap_tru, Ev.tru_bl, Ev.ap_and, Ev.ap_or, Ev.ap_not, Ev.ap_andv, Ev.ap_orv, Ev.ap_notv, Ev.ap_if, Ev.ap_esc, Ev.ap_tup, Ev.ap_lst, Ev.lim_eq, Ev.ap_call, Ev.r_fz, Ev.r_own, Ev.r_err, Ev.ap_v, Ev.ap_chain, Ev.ap_neg, Ev.ap_items, Ev.items_tup, Ev.items_lst, Ev.ap_yes, Ev.ap_lc, Ev.ap_dc, Ev.ap_rev, Ev.ap_dk, Ev.ap_dn, Ev.ap_none, Ev.ap_some, Ev.ap_cut, Ev.ap_enum, Ev.ap_zip, Ev.ap_range1, Ev.ap_range2, Ev.ap_callM, Ev.ownT_eq, Ev.ap_gd, Ev.ap_mut, Ev.isL_lst, Ev.app_eq, Ev.ap_seq, Ev.ap_gif, Ev.ap_set, Ev.put_fz, Ev.put_own, Ev.put_bor, Ev.ap_ret, Ev.ap_drop, Ev.ap_gnil, Ev.ap_raise, Ev.ap_for, Ev.ap_aug, Ev.ap_asg, Ev.ap_store, Ev.ap_bname, Ev.ap_bnil, Ev.ap_bcons, Ev.ap_btup, Ev.end_rt, Ev.end_own, Ev.end_nx, Ev.end_er, Ev.end_bor, Ev.vl_fz, Ev.vl_own, List.getElem?_cons_zero, List.getElem?_cons_succ, h1, hst, List.set_cons_zero, List.set_cons_succ]
    · have e : updH H (lst o, r') = H := by simp [updH, hl, hp]
      rw [e]
      simp only [hp, decide_false, Bool.false_eq_true, if_false, Ev.bind_ok, Ev.bind_err, Ev.map_ok, Ev.map_err, Ev.norm_fz, Ev.norm_own, Ev.norm_bor, Ev.norm_err, Ev.of_fz, Ev.of_own, Ev.ofB_some, Ev.o_ok, Ev.o_err, Ev.after_nx, Ev.after_rt, Ev.after_er, Ev.look_fz, Ev.look_bor, Ev.looks_nil, Ev.looks_cons, Ev.look2_eq, Ev.esc1_fz, Ev.esc1_bor, Ev.escs_nil, Ev.escs_cons, Ev.ap_var, Ev.ap_c, Ev.ap_nil, Ev.ap_cons, Ev.ap_star, Ev.ap_cb, Ev.ap_bin, Ev.ap_cmp, Ev.gcm_eq, Ev.ap_tru, Ev.tru_bl, Ev.ap_and, Ev.ap_or, Ev.ap_not, Ev.ap_andv, Ev.ap_orv, Ev.ap_notv, Ev.ap_if, Ev.ap_esc, Ev.ap_tup, Ev.ap_lst, Ev.lim_eq, Ev.ap_call, Ev.r_fz, Ev.r_own, Ev.r_err, Ev.ap_v, Ev.ap_chain, Ev.ap_neg, Ev.ap_items, Ev.items_tup, Ev.items_lst, Ev.ap_yes, Ev.ap_lc, Ev.ap_dc, Ev.ap_rev, Ev.ap_dk, Ev.ap_dn, Ev.ap_none, Ev.ap_some, Ev.ap_cut, Ev.ap_enum, Ev.ap_zip, Ev.ap_range1, Ev.ap_range2, Ev.ap_callM, Ev.ownT_eq, Ev.ap_gd, Ev.ap_mut, Ev.isL_lst, Ev.app_eq, Ev.ap_seq, Ev.ap_gif, Ev.ap_set, Ev.put_fz, Ev.put_own, Ev.put_bor, Ev.ap_ret, Ev.ap_drop, Ev.ap_gnil, Ev.ap_raise, Ev.ap_for, Ev.ap_aug, Ev.ap_asg, Ev.ap_store, Ev.ap_bname, Ev.ap_bnil, Ev.ap_bcons, Ev.ap_btup, Ev.end_rt, Ev.end_own, Ev.end_nx, Ev.end_er, Ev.end_bor, Ev.vl_fz, Ev.vl_own]
theorem lst_mem {o : List Int} (h : o ≠ []) : lst o ∈ o := by
  obtain ⟨u, x, rfl⟩ : ∃ u x, o = u ++ [x] := ⟨_, _, (List.dropLast_concat_getLast h).symm⟩
  rw [lst_snoc]; simp
theorem putH_le (H : HT') (k : Int) (r : Rr) : (putH H k r).length ≤ H.length + 1 := by
  unfold putH
  split <;> simp
theorem updH_le (H : HT') (c : Int × Rr) : (updH H c).length ≤ H.length + 1 := by
  unfold updH
  split
  · exact putH_le _ _ _
  · split
    · exact putH_le _ _ _
    · omega
theorem foldH_le : ∀ (D : List (Int × Rr)) (H : HT'), (D.foldl updH H).length ≤ H.length + D.length
  | [], H => by simp
  | d :: D, H => by
    have h1 := foldH_le D (updH H d)
    have h2 := updH_le H d
    simp only [List.foldl_cons, List.length_cons]; omega
theorem forD_of {t : T} {ks : List T} {i : Nat} {b : T → FX.Env → Option FX.Env} {g : FX.Env → O} {ρ ρ' : FX.Env} (h1 : ρ[i]? = some (.fz t)) (h2 : dkeys true t = some ks) (h3 : forL b g ks ρ = .nx ρ') : gForD true i b g ρ = .nx ρ' := by
  have e1 : thaw i ρ = ρ := by unfold thaw; rw [h1]
  have e2 : fiK true i ρ = .ok ks ρ := by unfold fiK; rw [h1]; dsimp only; rw [h2]
  unfold gForD
  rw [e1, Ev.ap_for, e2, Ev.o_ok, h3]; rfl
theorem lcD_of {t : T} {ks ys : List T} {i : Nat} {vs : List Nat} {b : T → FX.Env → Option FX.Env} {ft : FX.Env → R Bool} {fe : FX.Env → R Vl} {ρ : FX.Env} (h1 : ρ[i]? = some (.fz t)) (h2 : dkeys true t = some ks) (h3 : lcL vs b ft fe ks [] ρ = .ok ys ρ) : fLcD true i vs b ft fe ρ = .ok (.own (.lst ys)) ρ := by
  have e1 : thaw i ρ = ρ := by unfold thaw; rw [h1]
  have e2 : fiK true i ρ = .ok ks ρ := by unfold fiK; rw [h1]; dsimp only; rw [h2]
  unfold fLcD
  rw [e1, lc_of e2 h3]; rfl
theorem lb2 (c0 : Sl) (t : T) (l o : List Int) (K : List (Option Int)) (r : Option Int → Rr) (hF : FT t K r) (ho : o ≠ []) (hS : ∀ k ∈ K, (r k).2.length ≤ 1000) (H : HT') (hH : H.length + K.length ≤ 1000) (s5 s6 s7 s8 s9 : Sl) :
    ∃ s5' s6' s7' s8' s9', gForD true 1 (bName 5) b_law_best2 [c0, .fz t, .fz (tI l), .own none (.dK (encH H)), .fz (tI o), s5, s6, s7, s8, s9] = .nx [c0, .fz t, .fz (tI l), .own none (.dK (encH ((K.map (candK r o)).foldl updH H))), .fz (tI o), s5', s6', s7', s8', s9'] := by
  obtain ⟨ρ', e, s5', s6', s7', s8', s9', q⟩ := forL_pre (g := b_law_best2) (b := bName 5) kO (fun pre ρ => ∃ s5' s6' s7' s8' s9', ρ = [c0, .fz t, .fz (tI l), .own none (.dK (encH ((pre.map (candK r o)).foldl updH H))), .fz (tI o), s5', s6', s7', s8', s9']) K [] [c0, .fz t, .fz (tI l), .own none (.dK (encH H)), .fz (tI o), s5, s6, s7, s8, s9]
    (fun pre k post ρ hp hk ⟨s5, s6, s7, s8, s9, q⟩ => by
      have h1 := pre_le hp
      have h2 := foldH_le (pre.map (candK r o)) H
      rw [List.length_map] at h2
      obtain ⟨s6', s7', s8', s9', e⟩ := lb_turn c0 t l o ((pre.map (candK r o)).foldl updH H) k (r k) (hF.2 k hk) ho (by omega) (hS k hk) s6 s7 s8 s9
      refine ⟨_, by subst q; rfl, _, e, .fz (kO k), s6', s7', s8', s9', ?_⟩
      simp only [List.map_append, List.map_cons, List.map_nil, List.foldl_append, List.foldl_cons, List.foldl_nil, candK]) ⟨_, _, _, _, _, rfl⟩
  exact ⟨s5', s6', s7', s8', s9', forD_of rfl hF.1 (by rw [e, q]; rfl)⟩
def cands2 (l : List Int) (K : List (Option Int)) (r : Option Int → Rr) : List (Int × Rr) := ((ords l).map fun o => K.map (candK r o)).flatten
theorem flat_len {α β : Type} (f : α → List β) (n : Nat) (h : ∀ a, (f a).length = n) : ∀ l : List α, ((l.map f).flatten).length = l.length * n
  | [] => by simp
  | a :: l => by
    have ih := flat_len f n h l
    rw [List.map_cons, List.flatten_cons, List.length_append, ih, h, List.length_cons, Nat.succ_mul]; omega
theorem lb1 (c0 : Sl) (t : T) {l : List Int} (hl : Lay l) (K : List (Option Int)) (r : Option Int → Rr) (hF : FT t K r) (hS : ∀ k ∈ K, (r k).2.length ≤ 1000) (hK : (ords l).length * K.length ≤ 1000) (s4 s5 s6 s7 s8 s9 : Sl) :
    ∃ s4' s5' s6' s7' s8' s9', forL (bName 4) b_law_best1 ((ords l).map tI) [c0, .fz t, .fz (tI l), .own none (.dK []), s4, s5, s6, s7, s8, s9] = .nx [c0, .fz t, .fz (tI l), .own none (.dK (encH ((cands2 l K r).foldl updH []))), s4', s5', s6', s7', s8', s9'] := by
  obtain ⟨ρ', e, s4', s5', s6', s7', s8', s9', q⟩ := forL_pre (g := b_law_best1) (b := bName 4) tI (fun pre ρ => ∃ s4' s5' s6' s7' s8' s9', ρ = [c0, .fz t, .fz (tI l), .own none (.dK (encH (((pre.map fun o => K.map (candK r o)).flatten).foldl updH []))), s4', s5', s6', s7', s8', s9']) (ords l) [] [c0, .fz t, .fz (tI l), .own none (.dK []), s4, s5, s6, s7, s8, s9]
    (fun pre o post ρ hp hk ⟨s4, s5, s6, s7, s8, s9, q⟩ => by
      have h1 := pre_le hp
      have h2 := foldH_le ((pre.map fun o => K.map (candK r o)).flatten) []
      have h3 : ((pre.map fun o => K.map (candK r o)).flatten).length = pre.length * K.length := flat_len _ _ (fun o => by simp) pre
      have h4 : (pre.length + 1) * K.length ≤ (ords l).length * K.length := Nat.mul_le_mul_right _ h1
      rw [Nat.succ_mul] at h4
      have ho : o ≠ [] := (lay_perm ((ords_mem l o).mp hk) hl).ne
      obtain ⟨s5', s6', s7', s8', s9', e⟩ := lb2 c0 t l o K r hF ho hS (((pre.map fun o => K.map (candK r o)).flatten).foldl updH []) (by
        refine Nat.le_trans (Nat.add_le_add_right h2 _) ?_
        rw [List.length_nil, h3]; omega) s5 s6 s7 s8 s9
      refine ⟨_, by subst q; rfl, _, e, .fz (tI o), s5', s6', s7', s8', s9', ?_⟩
      simp only [List.map_append, List.map_cons, List.map_nil, List.flatten_append, List.flatten_cons, List.flatten_nil, List.append_nil, List.foldl_append]) ⟨_, _, _, _, _, _, rfl⟩
  exact ⟨s4', s5', s6', s7', s8', s9', by rw [e, q]; rfl⟩
end K24
end

section
set_option Elab.async false
set_option linter.all false
set_option maxRecDepth 100000
set_option maxHeartbeats 1000000
namespace K24
open PySem PySem.Spec PyProof.Rows L2 FX
/-! ### the forward search -/
def endOf : Int → List (List Int) → Int
  | b, [] => b
  | _, o :: S => endOf (lst o) S
def kOf (S : List (List Int)) : Option Int := enc (endOf (-1) S)
theorem end_snoc : ∀ (S : List (List Int)) (b : Int) (o : List Int), endOf b (S ++ [o]) = lst o
  | [], b, o => rfl
  | s :: S, b, o => end_snoc S (lst s) o
theorem tot_snoc : ∀ (S : List (List Int)) (b : Int) (o : List Int), tot b (S ++ [o]) = tot b S + c1 (endOf b S) o
  | [], b, o => by simp [tot, endOf]
  | s :: S, b, o => by
    have := tot_snoc S (lst s) o
    simp only [List.cons_append, tot, endOf, this]; omega
theorem lst_nonneg {o : List Int} (h : Lay o) : 0 ≤ lst o := (h.lo _ (lst_mem h.ne)).1
theorem kOf_snoc (S : List (List Int)) {o : List Int} (h : Lay o) : kOf (S ++ [o]) = some (lst o) := by
  unfold kOf
  rw [end_snoc]
  have := lst_nonneg h
  exact if_neg (by omega)
theorem c1_dst (b : Int) (o : List Int) : c1 b o = o.length - 1 + dst (enc b) o := by
  unfold c1 dst enc
  by_cases h : b < 0
  · simp only [h, or_true, if_true, true_or]; omega
  · have e : (hd o = b) = (b = hd o) := propext eq_comm
    simp only [h, or_false, if_false, e]
    by_cases h2 : b = hd o
    · simp only [h2, if_true, Option.some.injEq, reduceCtorEq, false_or]; omega
    · simp only [h2, if_false, Option.some.injEq, reduceCtorEq, false_or]; omega
theorem tot_step (S : List (List Int)) (o : List Int) : tot (-1) (S ++ [o]) = tot (-1) S + o.length - 1 + dst (kOf S) o := by
  rw [tot_snoc, c1_dst]; unfold kOf; omega
theorem fit_snoc : ∀ {S P : List (List Int)} {o l : List Int}, Fit S P → o.Perm l → Fit (S ++ [o]) (P ++ [l])
  | [], [], o, l, _, p => ⟨p, trivial⟩
  | s :: S, q :: P, o, l, h, p => ⟨h.1, fit_snoc h.2 p⟩
  | [], q :: P, _, _, h, _ => h.elim
  | s :: S, [], _, _, h, _ => h.elim
theorem fit_unsnoc : ∀ {P S' : List (List Int)} {l : List Int}, Fit S' (P ++ [l]) → ∃ S o, S' = S ++ [o] ∧ Fit S P ∧ o.Perm l
  | [], [o], l, h => ⟨[], o, rfl, trivial, h.1⟩
  | [], o :: p :: S', l, h => h.2.elim
  | q :: P, s :: S', l, h => by
    obtain ⟨S, o, e, f, p⟩ := fit_unsnoc (P := P) h.2
    exact ⟨s :: S, o, by rw [e]; rfl, ⟨h.1, f⟩, p⟩
  | [], [], l, h => h.elim
  | q :: P, [], l, h => h.elim
structure Inv (P : List (List Int)) (K : List (Option Int)) (r : Option Int → Rr) : Prop where
  fit : ∀ k ∈ K, Fit (r k).2 P ∧ (r k).1 = tot (-1) (r k).2 ∧ k = kOf (r k).2
  all : ∀ S, Fit S P → kOf S ∈ K ∧ ¬ ltP (tot (-1) S, S) (r (kOf S))
def keysH (H : HT') : List (Option Int) := H.map fun p => some p.1
def rH (H : HT') : Option Int → Rr
  | some i => (look H i).getD (0, [])
  | none => (0, [])
theorem look_mem {H : HT'} {k : Int} : (some k ∈ keysH H) ↔ ∃ r, look H k = some r := by
  unfold keysH look
  rw [List.mem_map]
  constructor
  · rintro ⟨p, hp, e⟩
    have e : p.1 = k := by injection e
    cases h : H.find? (fun p => decide (p.1 = k)) with
    | none =>
      rw [List.find?_eq_none] at h
      exact absurd (by simpa using e) (h p hp)
    | some q => exact ⟨q.2, rfl⟩
  · rintro ⟨r, h⟩
    obtain ⟨p, hp, e⟩ := Option.map_eq_some_iff.mp h
    exact ⟨p, List.mem_of_find?_eq_some hp, by have := List.find?_some hp; simp at this; rw [this]⟩
theorem ft_enc (H : HT') : FT (.dK (encH H)) (keysH H) (rH H) := by
  refine ⟨?_, fun k hk => ?_⟩
  · show some ((encH H).map fun p => kT p.1) = _
    unfold encH keysH
    rw [List.map_map, List.map_map]
    rfl
  · obtain ⟨p, hp, rfl⟩ := List.mem_map.mp hk
    obtain ⟨r, h⟩ := look_mem.mp hk
    show aIx (.dK (encH H)) (.int p.1) = _
    rw [ix_enc h]
    simp [rH, h]
theorem inv_step {P : List (List Int)} {K : List (Option Int)} {r : Option Int → Rr} (inv : Inv P K r) {l : List Int} (hl : Lay l) : Inv (P ++ [l]) (keysH ((cands2 l K r).foldl updH [])) (rH ((cands2 l K r).foldl updH [])) := by
  have g := good_fold (cands2 l K r) [] [] good_nil
  rw [List.nil_append] at g
  generalize (cands2 l K r).foldl updH [] = H at g
  have mem : ∀ c, c ∈ cands2 l K r ↔ ∃ o, o.Perm l ∧ ∃ k ∈ K, c = candK r o k := fun c => by
    simp only [cands2, List.mem_flatten, List.mem_map]
    constructor
    · rintro ⟨_, ⟨o, ho, rfl⟩, hc⟩
      obtain ⟨k, hk, rfl⟩ := List.mem_map.mp hc
      exact ⟨o, (ords_mem l o).mp ho, k, hk, rfl⟩
    · rintro ⟨o, ho, k, hk, rfl⟩
      exact ⟨_, ⟨o, (ords_mem l o).mpr ho, rfl⟩, List.mem_map.mpr ⟨k, hk, rfl⟩⟩
  refine ⟨fun k hk => ?_, fun S' hS' => ?_⟩
  · obtain ⟨p, hp, rfl⟩ := List.mem_map.mp hk
    obtain ⟨r', h⟩ := look_mem.mp hk
    have e : rH H (some p.1) = r' := by simp [rH, h]
    obtain ⟨o, ho, k, hk, ec⟩ := (mem _).mp (g.1 _ _ h)
    obtain ⟨f1, f2, f3⟩ := inv.fit k hk
    have e1 : p.1 = lst o := congrArg (·.1) ec
    have e2 : r' = ((r k).1 + o.length - 1 + dst k o, (r k).2 ++ [o]) := congrArg (·.2) ec
    rw [e, e2]
    refine ⟨fit_snoc f1 ho, ?_, ?_⟩
    · show (r k).1 + o.length - 1 + dst k o = tot (-1) ((r k).2 ++ [o])
      rw [tot_step, ← f3, f2]
    · show some p.1 = kOf ((r k).2 ++ [o])
      rw [kOf_snoc _ (lay_perm ho hl), e1]
  · obtain ⟨S, o, rfl, f, p⟩ := fit_unsnoc hS'
    obtain ⟨k1, k2⟩ := inv.all S f
    obtain ⟨f1, f2, f3⟩ := inv.fit _ k1
    have hc := (mem (candK r o (kOf S))).mpr ⟨o, p, kOf S, k1, rfl⟩
    obtain ⟨r', h1, h2⟩ := g.2 _ hc
    have ek := kOf_snoc S (lay_perm p hl)
    rw [ek]
    have h1 : look H (lst o) = some r' := h1
    refine ⟨look_mem.mpr ⟨r', h1⟩, ?_⟩
    have e : rH H (some (lst o)) = r' := by simp [rH, h1]
    rw [e]
    have h2 : ¬ ltP ((r (kOf S)).1 + o.length - 1 + dst (kOf S) o, (r (kOf S)).2 ++ [o]) r' := h2
    have h3 : ¬ ltP (tot (-1) (S ++ [o]), S ++ [o]) ((r (kOf S)).1 + o.length - 1 + dst (kOf S) o, (r (kOf S)).2 ++ [o]) := by
      rw [tot_step]
      rintro (z | ⟨z, z2⟩)
      · exact k2 (.inl (by dsimp only at z ⊢; omega))
      · have e1 : tot (-1) S = (r (kOf S)).1 := by dsimp only at z; omega
        have nlt : ¬ S < (r (kOf S)).2 := fun q => k2 (.inr ⟨e1, q⟩)
        have len : (r (kOf S)).2.length = S.length := by rw [fit_len f1, fit_len f]
        rcases tLL.tri (r (kOf S)).2 S with q | q | q
        · exact tLL.irr _ (tLL.tr _ _ _ z2 (lt_app _ _ _ _ len q))
        · rw [q] at z2; exact tLL.irr _ z2
        · exact nlt q
    intro q
    rcases ltP_tri tLL ((r (kOf S)).1 + o.length - 1 + dst (kOf S) o, (r (kOf S)).2 ++ [o]) r' with z | z | z
    · exact h2 z
    · rw [z] at h3; exact h3 q
    · exact h3 (ltP_tr tLL q z)
theorem nodup_put {H : HT'} {k : Int} {r : Rr} (h : (keysH H).Nodup) : (keysH (putH H k r)).Nodup := by
  unfold putH
  split
  · have : keysH (H.map fun p => if p.1 = k then (p.1, r) else p) = keysH H := by
      unfold keysH
      rw [List.map_map]
      congr 1
      funext p
      simp only [Function.comp]
      split <;> rfl
    rw [this]; exact h
  · rename_i n
    have : keysH (H ++ [(k, r)]) = keysH H ++ [some k] := by simp [keysH]
    rw [this, List.nodup_append]
    refine ⟨h, by simp, fun a ha b hb e => n ?_⟩
    rw [List.mem_singleton.mp hb] at e
    subst e
    obtain ⟨p, hp, e⟩ := List.mem_map.mp ha
    exact List.any_eq_true.mpr ⟨p, hp, by injection e with e; simpa using e⟩
theorem nodup_fold : ∀ (D : List (Int × Rr)) (H : HT'), (keysH H).Nodup → (keysH (D.foldl updH H)).Nodup
  | [], H, h => h
  | d :: D, H, h => nodup_fold D (updH H d) (by
    unfold updH
    split
    · exact nodup_put h
    · split
      · exact nodup_put h
      · exact h)
def KS (K : List (Option Int)) : Prop := K.Nodup ∧ ∀ k ∈ K, k ∈ [none, some (0 : Int), some 1, some 2, some 3, some 4, some 5]
theorem KS.len {K : List (Option Int)} (h : KS K) : K.length ≤ 7 := h.1.length_le_of_subset h.2
theorem ks_step {l : List Int} (hl : Lay l) (K : List (Option Int)) (r : Option Int → Rr) : KS (keysH ((cands2 l K r).foldl updH [])) := by
  refine ⟨nodup_fold _ _ (by simp [keysH]), fun k hk => ?_⟩
  have g := good_fold (cands2 l K r) [] [] good_nil
  rw [List.nil_append] at g
  obtain ⟨p, hp, rfl⟩ := List.mem_map.mp hk
  obtain ⟨r', h⟩ := look_mem.mp hk
  have hc := g.1 _ _ h
  simp only [cands2, List.mem_flatten, List.mem_map] at hc
  obtain ⟨_, ⟨o, ho, rfl⟩, hc⟩ := hc
  obtain ⟨k, hk, ec⟩ := List.mem_map.mp hc
  have e1 : p.1 = lst o := (congrArg (·.1) ec).symm
  have hy := lay_perm ((ords_mem l o).mp ho) hl
  have := hy.lo _ (lst_mem hy.ne)
  rw [e1]
  generalize lst o = z at this
  have : z = 0 ∨ z = 1 ∨ z = 2 ∨ z = 3 ∨ z = 4 ∨ z = 5 := by omega
  rcases this with rfl | rfl | rfl | rfl | rfl | rfl <;> simp
theorem fct_le {n : Nat} (h : n ≤ 4) : fct n ≤ 24 := by
  match n, h with
  | 0, _ => decide
  | 1, _ => decide
  | 2, _ => decide
  | 3, _ => decide
  | 4, _ => decide
theorem lb0 (c0 : Sl) : ∀ (Q pre : List (List Int)) (t : T) (K : List (Option Int)) (r : Option Int → Rr) (s2 s3 s4 s5 s6 s7 s8 s9 : Sl), (∀ l ∈ Q, Lay l ∧ l.length ≤ 4) → pre.length + Q.length ≤ 1000 → FT t K r → Inv pre K r → KS K →
    ∃ t' K' r' s2' s3' s4' s5' s6' s7' s8' s9', FT t' K' r' ∧ Inv (pre ++ Q) K' r' ∧ KS K' ∧ forL (bName 2) b_law_best0 (Q.map tI) [c0, .fz t, s2, s3, s4, s5, s6, s7, s8, s9] = .nx [c0, .fz t', s2', s3', s4', s5', s6', s7', s8', s9']
  | [], pre, t, K, r, s2, s3, s4, s5, s6, s7, s8, s9, _, _, hF, hI, hK => ⟨t, K, r, s2, s3, s4, s5, s6, s7, s8, s9, hF, by rwa [List.append_nil], hK, rfl⟩
  | l :: Q, pre, t, K, r, s2, s3, s4, s5, s6, s7, s8, s9, hQ, hn, hF, hI, hK => by
    obtain ⟨hl, h4⟩ := hQ l List.mem_cons_self
    have hn' : pre.length + (Q.length + 1) ≤ 1000 := hn
    have hS : ∀ k ∈ K, (r k).2.length ≤ 1000 := fun k hk => by rw [fit_len (hI.fit k hk).1]; omega
    have hK2 : (ords l).length * K.length ≤ 1000 := by
      rw [ords_len]
      have := Nat.mul_le_mul (fct_le h4) hK.len
      omega
    obtain ⟨u4, u5, u6, u7, u8, u9, e⟩ := lb1 c0 t hl K r hF hS hK2 s4 s5 s6 s7 s8 s9
    obtain ⟨t', K', r', v2, v3, v4, v5, v6, v7, v8, v9, i1, i2, i3, ih⟩ := lb0 c0 Q (pre ++ [l]) (.dK (encH ((cands2 l K r).foldl updH []))) _ _ (.fz (tI l)) (.fz (.dK (encH ((cands2 l K r).foldl updH [])))) u4 u5 u6 u7 u8 u9 (fun m hm => hQ m (List.mem_cons_of_mem _ hm)) (by simp; omega) (ft_enc _) (inv_step hI hl) (ks_step hl K r)
    refine ⟨t', K', r', v2, v3, v4, v5, v6, v7, v8, v9, i1, by simpa using i2, i3, ?_⟩
    have eb : bName 2 (tI l) [c0, .fz t, s2, s3, s4, s5, s6, s7, s8, s9] = some [c0, .fz t, .fz (tI l), s3, s4, s5, s6, s7, s8, s9] := rfl
    have eo := orders_ok hl.ne h4
    have eg : b_law_best0 [c0, .fz t, .fz (tI l), s3, s4, s5, s6, s7, s8, s9] = .nx [c0, .fz (.dK (encH ((cands2 l K r).foldl updH []))), .fz (tI l), .fz (.dK (encH ((cands2 l K r).foldl updH []))), u4, u5, u6, u7, u8, u9] := by
      unfold b_law_best1 at e
      unfold b_law_best0
      simp only [Ev.bind_ok, Ev.bind_err, Ev.map_ok, Ev.map_err, Ev.norm_fz, Ev.norm_own, Ev.norm_bor, Ev.norm_err, Ev.of_fz, Ev.of_own, Ev.ofB_some, Ev.o_ok, Ev.o_err, Ev.after_nx, Ev.after_rt, Ev.after_er, Ev.look_fz, Ev.look_bor, Ev.looks_nil, Ev.looks_cons, Ev.look2_eq, Ev.esc1_fz, Ev.esc1_bor, Ev.escs_nil, Ev.escs_cons, Ev.ap_var, Ev.ap_c, Ev.ap_nil, Ev.ap_cons, Ev.ap_star, Ev.ap_cb, Ev.ap_bin, Ev.ap_cmp, Ev.gcm_eq, Ev.ap_tru, Ev.tru_bl, Ev.ap_and, Ev.ap_or, Ev.ap_not, Ev.ap_andv, Ev.ap_orv, Ev.ap_notv, Ev.ap_if, Ev.ap_esc, Ev.ap_tup, Ev.ap_lst, Ev.lim_eq, Ev.ap_call, Ev.r_fz, Ev.r_own, Ev.r_err, Ev.ap_v, Ev.ap_chain, Ev.ap_neg, Ev.ap_items, Ev.items_tup, Ev.items_lst, Ev.ap_yes, Ev.ap_lc, Ev.ap_dc, Ev.ap_rev, Ev.ap_dk, Ev.ap_dn, Ev.ap_none, Ev.ap_some, Ev.ap_cut, Ev.ap_enum, Ev.ap_zip, Ev.ap_range1, Ev.ap_range2, Ev.ap_callM, Ev.ownT_eq, Ev.ap_gd, Ev.ap_mut, Ev.isL_lst, Ev.app_eq, Ev.ap_seq, Ev.ap_gif, Ev.ap_set, Ev.put_fz, Ev.put_own, Ev.put_bor, Ev.ap_ret, Ev.ap_drop, Ev.ap_gnil, Ev.ap_raise, Ev.ap_for, Ev.ap_aug, Ev.ap_asg, Ev.ap_store, Ev.ap_bname, Ev.ap_bnil, Ev.ap_bcons, Ev.ap_btup, Ev.end_rt, Ev.end_own, Ev.end_nx, Ev.end_er, Ev.end_bor, Ev.vl_fz, Ev.vl_own, List.getElem?_cons_zero, List.getElem?_cons_succ, Option.bind_some, List.set_cons_zero, List.set_cons_succ, eo, e]
    simp only [List.map_cons, forL, eb, eg, ih]
end K24
end

section
set_option Elab.async false
set_option linter.all false
set_option maxRecDepth 100000
set_option maxHeartbeats 1000000
namespace K24
open PySem PySem.Spec PyProof.Rows L2 FX
theorem not_ltP_tr {m c d : Rr} (h1 : ¬ ltP c m) (h2 : ¬ ltP d c) : ¬ ltP d m := fun q => by
  rcases ltP_tri tLL c m with z | z | z
  · exact h1 z
  · subst z; exact h2 q
  · exact h2 (ltP_tr tLL q z)
theorem greedy_min {L : List (List Int)} (hL : ∀ l ∈ L, Lay l) {S : List (List Int)} (h : Fit S L) : ¬ ltP (tot (-1) S, S) (tot (-1) (greedy (-1) L), greedy (-1) L) := by
  obtain ⟨_, g2, g3⟩ := greedy_ok L (-1) hL
  obtain ⟨h1, h2⟩ := g3 S h
  rintro (z | ⟨z, z2⟩)
  · dsimp only at z; omega
  · dsimp only at z z2
    exact h2 (by omega) z2
theorem least_one {L : List (List Int)} (hL : ∀ l ∈ L, Lay l) {m : Rr} (h1 : Fit m.2 L) (h2 : m.1 = tot (-1) m.2) (h3 : ¬ ltP (tot (-1) (greedy (-1) L), greedy (-1) L) m) : m = (tot (-1) (greedy (-1) L), greedy (-1) L) := by
  have h4 := greedy_min hL h1
  have e : m = (tot (-1) m.2, m.2) := Prod.ext h2 rfl
  rcases ltP_tri tLL m (tot (-1) (greedy (-1) L), greedy (-1) L) with z | z | z
  · rw [e] at z; exact absurd z h4
  · exact z
  · exact absurd z h3
theorem best_ok {L : List (List Int)} (hL : ∀ l ∈ L, Lay l ∧ l.length ≤ 4) (hn : L.length ≤ 1000) : m__law_best [.lst (L.map tI)] = .ok (.fz (tC (tot (-1) (greedy (-1) L), greedy (-1) L))) := by
  have hL' : ∀ l ∈ L, Lay l := fun l h => (hL l h).1
  have F0 : FT (.dN (tC (0, []))) [none] (fun _ => (0, [])) := ⟨rfl, fun k hk => by rw [List.mem_singleton.mp hk]; rfl⟩
  have I0 : Inv [] [none] (fun _ => (0, [])) := ⟨fun k hk => by rw [List.mem_singleton.mp hk]; exact ⟨trivial, rfl, rfl⟩, fun S hS => by
    cases S with
    | nil => exact ⟨List.mem_singleton.mpr rfl, ltP_irr tLL _⟩
    | cons o S => exact hS.elim⟩
  have K0 : KS [none] := ⟨by simp, fun k hk => by rw [List.mem_singleton.mp hk]; simp⟩
  obtain ⟨t', K', r', s2, s3, s4, s5, s6, s7, s8, s9, hF, hI, hK, e⟩ := lb0 (.fz (.lst (L.map tI))) L [] (.dN (tC (0, []))) [none] _ .un .un .un .un .un .un .un .un hL (by simpa using hn) F0 I0 K0
  rw [List.nil_append] at hI
  have g1 := (greedy_ok L (-1) hL').1
  obtain ⟨a1, a2⟩ := hI.all _ g1
  have ne : K'.map r' ≠ [] := fun z => by
    have : K' = [] := by simpa using z
    rw [this] at a1; cases a1
  obtain ⟨m1, m2⟩ := mnC_ok ne
  have em : mnC (K'.map r') = (tot (-1) (greedy (-1) L), greedy (-1) L) := by
    obtain ⟨k, hk, ek⟩ := List.mem_map.mp m1
    obtain ⟨f1, f2, _⟩ := hI.fit k hk
    rw [ek] at f1 f2
    exact least_one hL' f1 f2 (not_ltP_tr (m2 _ (List.mem_map.mpr ⟨_, a1, rfl⟩)) a2)
  have e1 := lcL_gen (vs := [5]) (b := bName 5) (ft := fYes) (fe := fBin aIxA (fVar 1) (fVar 5)) (ρ := [.fz (.lst (L.map tI)), .fz t', s2, s3, s4, s5, s6, s7, s8, s9]) kO (fun _ => true) (fun k => tC (r' k)) K' [] (fun k hk => by
    refine ⟨[.fz (.lst (L.map tI)), .fz t', s2, s3, s4, .fz (kO k), s6, s7, s8, s9], rfl, rfl, fun _ => ?_, rfl⟩
    rw [bin_fz (g := aIxA) (fa := fVar 1) (fb := fVar 5) rfl rfl (hF.2 k hk)]
    rfl) (by have := hK.len; simp only [List.length_nil]; omega)
  have e2 : K'.filter (fun _ => true) = K' := by simp
  have e3 : K'.map (fun k => tC (r' k)) = (K'.map r').map tC := by simp
  rw [e2, List.nil_append, e3] at e1
  have e4 := lcD_of (i := 1) (ρ := [.fz (.lst (L.map tI)), .fz t', s2, s3, s4, s5, s6, s7, s8, s9]) rfl hF.1 e1
  have e5 := bMin_tC ne
  rw [em] at e5
  have e6 : fDN (fTup (fACons (fC (.int 0)) (fACons (fTup fANil) fANil))) [.fz (.lst (L.map tI)), .un, .un, .un, .un, .un, .un, .un, .un, .un] = .ok (.fz (.dN (tC (0, [])))) [.fz (.lst (L.map tI)), .un, .un, .un, .un, .un, .un, .un, .un, .un] := rfl
  have es : List.replicate (10 - 1) Sl.un = [.un, .un, .un, .un, .un, .un, .un, .un, .un] := rfl
  unfold b_law_best0 at e
  unfold m__law_best
  rw [mkP1, es]
  unfold g__law_best
  simp only [Ev.ap_seq, Ev.ap_set, e6, Ev.o_ok, Ev.put_fz, Ev.after_nx, List.set_cons_zero, List.set_cons_succ, Ev.ap_for, Ev.ap_items, Ev.ap_var, List.getElem?_cons_zero, List.getElem?_cons_succ, Ev.norm_fz, Ev.bind_ok, Ev.esc1_fz, Ev.items_lst]
  simp only [e, Ev.after_nx, Ev.ap_ret, Ev.ap_cb, Ev.ap_cons, Ev.ap_nil, e4, Ev.norm_own, Ev.bind_ok, Ev.looks_cons, Ev.looks_nil, Ev.look_fz, Option.bind_some, e5, Ev.of_fz, Ev.o_ok, Ev.end_rt]
end K24
end

section
set_option Elab.async false
set_option linter.all false
set_option maxRecDepth 100000
set_option maxHeartbeats 1000000
namespace K24
open PySem PySem.Spec PyProof.Rows L2 FX
/-! ### _law_alike on equal data -/
theorem range1_of {f : FX.Env → R (List Vl)} {ρ : FX.Env} {n : Nat} (h : f ρ = .ok [.fz (.int (n : Int))] ρ) (ok : okR (n : Int) = true) : fRange1 f ρ = .ok ((List.range n).map fun i : Nat => T.int i) ρ := by
  rw [Ev.ap_range1, h, Ev.bind_ok]
  dsimp only
  rw [if_pos ok, range_at]
theorem ok_small {n : Nat} (h : n ≤ 1000000) : okR (n : Int) = true := by
  unfold okR
  simp only [Bool.and_eq_true, decide_eq_true_eq]
  omega
theorem alike_int (n : Nat) (i : Int) : m__law_alike (n + 1) [.int i, .int i] = .ok (.fz (.bl true)) := by
  have es : List.replicate (4 - 2) Sl.un = [.un, .un] := rfl
  have b1 : bIsi [.int i, .tup [.ty "tuple", .ty "list"]] = some (.fz (.bl false)) := rfl
  have b2 : bIsi [.int i, .ty "dict"] = some (.fz (.bl false)) := rfl
  have b3 : bIsi [.int i, .ty "str"] = some (.fz (.bl false)) := rfl
  have b4 : bIsi [.int i, .ty "int"] = some (.fz (.bl true)) := rfl
  have b5 : bIsi [.int i, .ty "bool"] = some (.fz (.bl false)) := rfl
  have n1 : cIsN (.int i) .non = some false := rfl
  have c1 : cEq (.bl false) (.bl false) = some true := rfl
  have c2 : cEq (.int i) (.int i) = some true := by rw [cEq_int]; simp
  show mkP 2 4 (g__law_alike (m__law_alike n)) [.int i, .int i] = _
  rw [mkP2, es]
  unfold g__law_alike
  simp only [Ev.bind_ok, Ev.bind_err, Ev.map_ok, Ev.map_err, Ev.norm_fz, Ev.norm_own, Ev.norm_bor, Ev.norm_err, Ev.of_fz, Ev.of_own, Ev.ofB_some, Ev.o_ok, Ev.o_err, Ev.after_nx, Ev.after_rt, Ev.after_er, Ev.look_fz, Ev.look_bor, Ev.looks_nil, Ev.looks_cons, Ev.look2_eq, Ev.esc1_fz, Ev.esc1_bor, Ev.escs_nil, Ev.escs_cons, Ev.ap_var, Ev.ap_c, Ev.ap_nil, Ev.ap_cons, Ev.ap_star, Ev.ap_cb, Ev.ap_bin, Ev.ap_cmp, Ev.gcm_eq, Ev.ap_tru, Ev.tru_bl, Ev.ap_and, Ev.ap_or, Ev.ap_not, Ev.ap_andv, Ev.ap_orv, Ev.ap_notv, Ev.ap_if, Ev.ap_esc, Ev.ap_tup, Ev.ap_lst, Ev.lim_eq, Ev.ap_call, Ev.r_fz, Ev.r_own, Ev.r_err, Ev.ap_v, Ev.ap_chain, Ev.ap_neg, Ev.ap_items, Ev.items_tup, Ev.items_lst, Ev.ap_yes, Ev.ap_lc, Ev.ap_dc, Ev.ap_rev, Ev.ap_dk, Ev.ap_dn, Ev.ap_none, Ev.ap_some, Ev.ap_cut, Ev.ap_enum, Ev.ap_zip, Ev.ap_range1, Ev.ap_range2, Ev.ap_callM, Ev.ownT_eq, Ev.ap_gd, Ev.ap_mut, Ev.isL_lst, Ev.app_eq, Ev.ap_seq, Ev.ap_gif, Ev.ap_set, Ev.put_fz, Ev.put_own, Ev.put_bor, Ev.ap_ret, Ev.ap_drop, Ev.ap_gnil, Ev.ap_raise, Ev.ap_for, Ev.ap_aug, Ev.ap_asg, Ev.ap_store, Ev.ap_bname, Ev.ap_bnil, Ev.ap_bcons, Ev.ap_btup, Ev.end_rt, Ev.end_own, Ev.end_nx, Ev.end_er, Ev.end_bor, Ev.vl_fz, Ev.vl_own, List.getElem?_cons_zero, List.getElem?_cons_succ, Option.bind_some, List.length_cons, List.length_nil, Nat.reduceAdd, Nat.reduceLeDiff, if_true, if_false, Bool.false_eq_true, b1, b2, b3, b4, b5, n1, c1, c2, Option.map_some]
theorem alike_seq (n : Nat) (ts : List T) (hl : ts.length ≤ 1000000) (h : ∀ t ∈ ts, m__law_alike n [t, t] = .ok (.fz (.bl true))) : m__law_alike (n + 1) [.tup ts, .tup ts] = .ok (.fz (.bl true)) := by
  have es : List.replicate (4 - 2) Sl.un = [.un, .un] := rfl
  have b1 : bIsi [.tup ts, .tup [.ty "tuple", .ty "list"]] = some (.fz (.bl true)) := rfl
  have b2 : bIsi [.tup ts, .ty "list"] = some (.fz (.bl false)) := rfl
  have l1 : bLen [.tup ts] = some (.fz (.int ts.length)) := rfl
  have c1 : cNe (.bl false) (.bl false) = some false := rfl
  have c2 : cNe (.int (ts.length : Int)) (.int (ts.length : Int)) = some false := by rw [cNe_int]; simp
  have c3 : cEq (.lst []) (.lst []) = some true := rfl
  have er := range1_of (f := fACons (fCB bLen (fACons (fVar 1) fANil)) fANil) (ρ := [.fz (.tup ts), .fz (.tup ts), .un, .un]) (n := ts.length) (by simp only [Ev.bind_ok, Ev.bind_err, Ev.map_ok, Ev.map_err, Ev.norm_fz, Ev.norm_own, Ev.norm_bor, Ev.norm_err, Ev.of_fz, Ev.of_own, Ev.ofB_some, Ev.o_ok, Ev.o_err, Ev.after_nx, Ev.after_rt, Ev.after_er, Ev.look_fz, Ev.look_bor, Ev.looks_nil, Ev.looks_cons, Ev.look2_eq, Ev.esc1_fz, Ev.esc1_bor, Ev.escs_nil, Ev.escs_cons, Ev.ap_var, Ev.ap_c, Ev.ap_nil, Ev.ap_cons, Ev.ap_star, Ev.ap_cb, Ev.ap_bin, Ev.ap_cmp, Ev.gcm_eq, Ev.ap_tru, Ev.tru_bl, Ev.ap_and, Ev.ap_or, Ev.ap_not, Ev.ap_andv, Ev.ap_orv, Ev.ap_notv, Ev.ap_if, Ev.ap_esc, Ev.ap_tup, Ev.ap_lst, Ev.lim_eq, Ev.ap_call, Ev.r_fz, Ev.r_own, Ev.r_err, Ev.ap_v, Ev.ap_chain, Ev.ap_neg, Ev.ap_items, Ev.items_tup, Ev.items_lst, Ev.ap_yes, Ev.ap_lc, Ev.ap_dc, Ev.ap_rev, Ev.ap_dk, Ev.ap_dn, Ev.ap_none, Ev.ap_some, Ev.ap_cut, Ev.ap_enum, Ev.ap_zip, Ev.ap_range1, Ev.ap_range2, Ev.ap_callM, Ev.ownT_eq, Ev.ap_gd, Ev.ap_mut, Ev.isL_lst, Ev.app_eq, Ev.ap_seq, Ev.ap_gif, Ev.ap_set, Ev.put_fz, Ev.put_own, Ev.put_bor, Ev.ap_ret, Ev.ap_drop, Ev.ap_gnil, Ev.ap_raise, Ev.ap_for, Ev.ap_aug, Ev.ap_asg, Ev.ap_store, Ev.ap_bname, Ev.ap_bnil, Ev.ap_bcons, Ev.ap_btup, Ev.end_rt, Ev.end_own, Ev.end_nx, Ev.end_er, Ev.end_bor, Ev.vl_fz, Ev.vl_own, List.getElem?_cons_zero, List.getElem?_cons_succ, Option.bind_some, l1]) (ok_small hl)
  have e1 := lcL_gen (vs := [2]) (b := bName 2) (ft := fNot (fTru (fCall (m__law_alike n) (fACons (fBin aIx (fVar 0) (fVar 2)) (fACons (fBin aIx (fVar 1) (fVar 2)) fANil))))) (fe := fVar 2) (ρ := [.fz (.tup ts), .fz (.tup ts), .un, .un]) (fun i : Nat => T.int i) (fun _ => false) (fun i : Nat => T.int i) (List.range ts.length) [] (fun i hi => by
    have hi := List.mem_range.mp hi
    refine ⟨[.fz (.tup ts), .fz (.tup ts), .fz (.int i), .un], rfl, ?_, fun z => (by cases z), rfl⟩
    have ix : aIx (.tup ts) (.int (i : Int)) = some (.fz ts[i]) := by
      show (atI ts (i : Int)).map Nv.fz = _
      rw [K24.atI_nat, List.getElem?_eq_getElem hi]; rfl
    have hr := h ts[i] (List.getElem_mem hi)
    simp only [Ev.bind_ok, Ev.bind_err, Ev.map_ok, Ev.map_err, Ev.norm_fz, Ev.norm_own, Ev.norm_bor, Ev.norm_err, Ev.of_fz, Ev.of_own, Ev.ofB_some, Ev.o_ok, Ev.o_err, Ev.after_nx, Ev.after_rt, Ev.after_er, Ev.look_fz, Ev.look_bor, Ev.looks_nil, Ev.looks_cons, Ev.look2_eq, Ev.esc1_fz, Ev.esc1_bor, Ev.escs_nil, Ev.escs_cons, Ev.ap_var, Ev.ap_c, Ev.ap_nil, Ev.ap_cons, Ev.ap_star, Ev.ap_cb, Ev.ap_bin, Ev.ap_cmp, Ev.gcm_eq, Ev.ap_tru, Ev.tru_bl, Ev.ap_and, Ev.ap_or, Ev.ap_not, Ev.ap_andv, Ev.ap_orv, Ev.ap_notv, Ev.ap_if, Ev.ap_esc, Ev.ap_tup, Ev.ap_lst, Ev.lim_eq, Ev.ap_call, Ev.r_fz, Ev.r_own, Ev.r_err, Ev.ap_v, Ev.ap_chain, Ev.ap_neg, Ev.ap_items, Ev.items_tup, Ev.items_lst, Ev.ap_yes, Ev.ap_lc, Ev.ap_dc, Ev.ap_rev, Ev.ap_dk, Ev.ap_dn, Ev.ap_none, Ev.ap_some, Ev.ap_cut, Ev.ap_enum, Ev.ap_zip, Ev.ap_range1, Ev.ap_range2, Ev.ap_callM, Ev.ownT_eq, Ev.ap_gd, Ev.ap_mut, Ev.isL_lst, Ev.app_eq, Ev.ap_seq, Ev.ap_gif, Ev.ap_set, Ev.put_fz, Ev.put_own, Ev.put_bor, Ev.ap_ret, Ev.ap_drop, Ev.ap_gnil, Ev.ap_raise, Ev.ap_for, Ev.ap_aug, Ev.ap_asg, Ev.ap_store, Ev.ap_bname, Ev.ap_bnil, Ev.ap_bcons, Ev.ap_btup, Ev.end_rt, Ev.end_own, Ev.end_nx, Ev.end_er, Ev.end_bor, Ev.vl_fz, Ev.vl_own, List.getElem?_cons_zero, List.getElem?_cons_succ, Option.bind_some, ix, hr, Bool.not_true]) (by simp only [List.length_nil, List.length_range]; omega)
  have e2 : (List.range ts.length).filter (fun _ => false) = [] := by simp
  rw [e2, List.nil_append, List.map_nil] at e1
  have e3 := lc_of er e1
  show mkP 2 4 (g__law_alike (m__law_alike n)) [.tup ts, .tup ts] = _
  rw [mkP2, es]
  unfold g__law_alike
  simp only [Ev.ap_seq, Ev.ap_gif, Ev.ap_tru, Ev.ap_cb, Ev.ap_cons, Ev.ap_nil, Ev.ap_var, List.getElem?_cons_zero, List.getElem?_cons_succ, Ev.norm_fz, Ev.bind_ok, Ev.ap_tup, Ev.ap_esc, Ev.ap_c, Ev.escs_cons, Ev.escs_nil, Ev.esc1_fz, Ev.lim_eq, List.length_cons, List.length_nil, Nat.reduceAdd, Nat.reduceLeDiff, if_true, Ev.of_fz, Ev.looks_cons, Ev.looks_nil, Ev.look_fz, Option.bind_some, b1, b2, l1, Ev.tru_bl, Ev.ofB_some, Ev.ap_or, Ev.ap_not, Ev.map_ok, Bool.not_true, Bool.false_eq_true, if_false, Ev.ap_cmp, Ev.look2_eq, c1, c2, Ev.o_ok, Ev.ap_gnil, Ev.after_nx, Ev.ap_ret, Ev.ap_bin, e3, Ev.norm_own, Ev.ap_lst, Ev.of_own, Nat.zero_le, Ev.gcm_eq, c3, Option.map_some, Ev.after_rt, Ev.end_rt]
theorem alike_tI (n : Nat) {o : List Int} (h : o.length ≤ 1000000) : m__law_alike (n + 2) [tI o, tI o] = .ok (.fz (.bl true)) :=
  alike_seq (n + 1) _ (by simpa using h) fun t ht => by obtain ⟨i, _, rfl⟩ := List.mem_map.mp ht; exact alike_int n i
theorem alike_tC (c : Int) (S : List (List Int)) (h : S.length ≤ 1000000) (h2 : ∀ o ∈ S, o.length ≤ 1000000) : m__law_alike 10 [tC (c, S), tC (c, S)] = .ok (.fz (.bl true)) :=
  alike_seq 9 _ (by simp) fun t ht => by
    rcases List.mem_cons.mp ht with rfl | ht
    · exact alike_int 8 c
    · rw [List.mem_singleton.mp ht]
      exact alike_seq 8 _ (by simpa using h) fun t ht => by obtain ⟨o, ho, rfl⟩ := List.mem_map.mp ht; exact alike_tI 6 (h2 o ho)
end K24
end

section
set_option Elab.async false
set_option linter.all false
set_option maxRecDepth 100000
set_option maxHeartbeats 400000
namespace K24
open PySem PySem.Spec PyProof.Rows L2 FX
/-! ### _law_taken -/
def rowT (ns : List Int) (a s h : Int) : T := .lst [.seq (ns.map .int), .int a, .int s, .int h]
theorem row_0 (ns : List Int) (a s h : Int) : aIx (rowT ns a s h) (.int 0) = some (.fz (.seq (ns.map .int))) := rfl
theorem row_1 (ns : List Int) (a s h : Int) : aIx (rowT ns a s h) (.int 1) = some (.fz (.int a)) := rfl
theorem row_2 (ns : List Int) (a s h : Int) : aIx (rowT ns a s h) (.int 2) = some (.fz (.int s)) := rfl
theorem row_3 (ns : List Int) (a s h : Int) : aIx (rowT ns a s h) (.int 3) = some (.fz (.int h)) := rfl
theorem st_1 (ns : List Int) (a s h x : Int) : stL (rowT ns a s h) (.int 1) (.int x) = some (rowT ns x s h) := rfl
theorem st_2 (ns : List Int) (a s h x : Int) : stL (rowT ns a s h) (.int 2) (.int x) = some (rowT ns a x h) := rfl
theorem st_3 (ns : List Int) (a s h x : Int) : stL (rowT ns a s h) (.int 3) (.int x) = some (rowT ns a s x) := rfl
theorem mul_int (i : Int) : aMul (.int i) (.int 48271) = some (.fz (.int (i * 48271))) := if_pos (.inr (by decide))
theorem bInt_int (i : Int) : bInt [.int i] = some (.fz (.int i)) := rfl
theorem mod_int {i j : Int} (h : 0 < j) : aMod (.int i) (.int j) = some (.fz (.int (i % j))) := if_pos h
theorem div_int {i j : Int} (h : 0 < j) (h2 : j < 1000000) : aDiv (.int i) (.int j) = some (.fz (.int (i / j))) := if_pos ⟨h, by omega⟩
theorem cGe_int (i j : Int) : cI (fun i j => decide (j ≤ i)) (.int i) (.int j) = some (decide (j ≤ i)) := rfl
theorem pow18 : aPow (.int 10) (.int 18) = some (.fz (.int 1000000000000000000)) := by
  show (if CPow 10 18 then some (Nv.fz (.int ((10 : Int) ^ (18 : Int).toNat))) else none) = _
  rw [if_pos ⟨by decide, by decide, by decide⟩]
  have : ((10 : Int) ^ (18 : Int).toNat) = 1000000000000000000 := by decide
  rw [this]
theorem bLen_seq (l : List T) : bLen [.seq l] = some (.fz (.int l.length)) := rfl
theorem ix_seq {w : List Int} {k : Nat} (h : k < w.length) : aIx (.seq (w.map T.int)) (.int k) = some (.fz (.int (w.getD k 0))) := by
  show (atI (w.map T.int) (k : Int)).map Nv.fz = _
  rw [K24.atI_nat, List.getElem?_map, List.getElem?_eq_getElem h]
  simp [List.getD, h]
theorem mkM1 {N : Nat} {G : FX.Env → O} {t c : T} : mkM 1 N G t [c] = endM (G (.own (some 0) t :: .fz c :: List.replicate (N - 1 - 1) .un)) := rfl
theorem taken_ok (ns : List Int) {a : Int} (ha : 0 ≤ a) (s h : Int) {m : Int} (hm : 0 < m) (hm2 : m < 1000000) : ∃ a' s' h' v, 0 ≤ a' ∧ 0 ≤ v ∧ v < m ∧ m__law_taken (rowT ns a s h) [.int m] = .ok (rowT ns a' s' h') (.fz (.int v)) := by
  have es : List.replicate (4 - 1 - 1) Sl.un = [.un, .un] := rfl
  have gt : ∀ i j, cI (fun i j => decide (j < i)) (.int i) (.int j) = some (decide (j < i)) := fun i j => rfl
  have em : ∀ (r : T) (v : Int) (x y z : Sl), endM (.rt (.fz (.int v)) [.own (some 0) r, x, y, z]) = .ok r (.fz (.int v)) := fun r v x y z => rfl
  by_cases h1 : 0 < h
  · refine ⟨a, s, h / m, h % m, ha, Int.emod_nonneg _ (by omega), Int.emod_lt_of_pos _ hm, ?_⟩
    unfold m__law_taken
    rw [mkM1, es]
    unfold g__law_taken
    simp only [Ev.bind_ok, Ev.bind_err, Ev.map_ok, Ev.map_err, Ev.norm_fz, Ev.norm_own, Ev.norm_bor, Ev.norm_err, Ev.of_fz, Ev.of_own, Ev.ofB_some, Ev.o_ok, Ev.o_err, Ev.after_nx, Ev.after_rt, Ev.after_er, Ev.look_fz, Ev.look_bor, Ev.looks_nil, Ev.looks_cons, Ev.look2_eq, Ev.esc1_fz, Ev.esc1_bor, Ev.escs_nil, Ev.escs_cons, Ev.ap_var, Ev.ap_c, Ev.ap_nil, Ev.ap_cons, Ev.ap_star, Ev.ap_cb, Ev.ap_bin, Ev.ap_cmp, Ev.gcm_eq, Ev.ap_tru, Ev.tru_bl, Ev.ap_and, Ev.ap_or, Ev.ap_not, Ev.ap_andv, Ev.ap_orv, Ev.ap_notv, Ev.ap_if, Ev.ap_esc, Ev.ap_tup, Ev.ap_lst, Ev.lim_eq, Ev.ap_call, Ev.r_fz, Ev.r_own, Ev.r_err, Ev.ap_v, Ev.ap_chain, Ev.ap_neg, Ev.ap_items, Ev.items_tup, Ev.items_lst, Ev.ap_yes, Ev.ap_lc, Ev.ap_dc, Ev.ap_rev, Ev.ap_dk, Ev.ap_dn, Ev.ap_none, Ev.ap_some, Ev.ap_cut, Ev.ap_enum, Ev.ap_zip, Ev.ap_range1, Ev.ap_range2, Ev.ap_callM, Ev.ownT_eq, Ev.ap_gd, Ev.ap_mut, Ev.isL_lst, Ev.app_eq, Ev.ap_seq, Ev.ap_gif, Ev.ap_set, Ev.put_fz, Ev.put_own, Ev.put_bor, Ev.ap_ret, Ev.ap_drop, Ev.ap_gnil, Ev.ap_raise, Ev.ap_for, Ev.ap_aug, Ev.ap_asg, Ev.ap_store, Ev.ap_bname, Ev.ap_bnil, Ev.ap_bcons, Ev.ap_btup, Ev.end_rt, Ev.end_own, Ev.end_nx, Ev.end_er, Ev.end_bor, Ev.vl_fz, Ev.vl_own, List.getElem?_cons_zero, List.getElem?_cons_succ, Option.bind_some, List.set_cons_zero, List.set_cons_succ, row_3, gt, h1, decide_true, if_true, bInt_int, mod_int hm, div_int hm hm2, st_3, em]
  · by_cases h2 : (ns.length : Int) < a + 1
    · refine ⟨a + 1, (s * 48271 + 11) % 2147483647, h, ((s * 48271 + 11) % 2147483647 / 7) % m, by omega, Int.emod_nonneg _ (by omega), Int.emod_lt_of_pos _ hm, ?_⟩
      have m1 : ∀ i : Int, aMod (.int i) (.int 2147483647) = some (.fz (.int (i % 2147483647))) := fun i => mod_int (by decide)
      have d1 : ∀ i : Int, aDiv (.int i) (.int 7) = some (.fz (.int (i / 7))) := fun i => div_int (by decide) (by decide)
      unfold m__law_taken
      rw [mkM1, es]
      unfold g__law_taken
      simp only [Ev.bind_ok, Ev.bind_err, Ev.map_ok, Ev.map_err, Ev.norm_fz, Ev.norm_own, Ev.norm_bor, Ev.norm_err, Ev.of_fz, Ev.of_own, Ev.ofB_some, Ev.o_ok, Ev.o_err, Ev.after_nx, Ev.after_rt, Ev.after_er, Ev.look_fz, Ev.look_bor, Ev.looks_nil, Ev.looks_cons, Ev.look2_eq, Ev.esc1_fz, Ev.esc1_bor, Ev.escs_nil, Ev.escs_cons, Ev.ap_var, Ev.ap_c, Ev.ap_nil, Ev.ap_cons, Ev.ap_star, Ev.ap_cb, Ev.ap_bin, Ev.ap_cmp, Ev.gcm_eq, Ev.ap_tru, Ev.tru_bl, Ev.ap_and, Ev.ap_or, Ev.ap_not, Ev.ap_andv, Ev.ap_orv, Ev.ap_notv, Ev.ap_if, Ev.ap_esc, Ev.ap_tup, Ev.ap_lst, Ev.lim_eq, Ev.ap_call, Ev.r_fz, Ev.r_own, Ev.r_err, Ev.ap_v, Ev.ap_chain, Ev.ap_neg, Ev.ap_items, Ev.items_tup, Ev.items_lst, Ev.ap_yes, Ev.ap_lc, Ev.ap_dc, Ev.ap_rev, Ev.ap_dk, Ev.ap_dn, Ev.ap_none, Ev.ap_some, Ev.ap_cut, Ev.ap_enum, Ev.ap_zip, Ev.ap_range1, Ev.ap_range2, Ev.ap_callM, Ev.ownT_eq, Ev.ap_gd, Ev.ap_mut, Ev.isL_lst, Ev.app_eq, Ev.ap_seq, Ev.ap_gif, Ev.ap_set, Ev.put_fz, Ev.put_own, Ev.put_bor, Ev.ap_ret, Ev.ap_drop, Ev.ap_gnil, Ev.ap_raise, Ev.ap_for, Ev.ap_aug, Ev.ap_asg, Ev.ap_store, Ev.ap_bname, Ev.ap_bnil, Ev.ap_bcons, Ev.ap_btup, Ev.end_rt, Ev.end_own, Ev.end_nx, Ev.end_er, Ev.end_bor, Ev.vl_fz, Ev.vl_own, List.getElem?_cons_zero, List.getElem?_cons_succ, Option.bind_some, List.set_cons_zero, List.set_cons_succ, row_0, row_1, row_2, row_3, gt, h1, h2, decide_true, decide_false, Bool.false_eq_true, if_false, if_true, bInt_int, m1, d1, mod_int hm, st_1, st_2, em, add_int, mul_int, bLen_seq, List.length_map]
    · obtain ⟨k, rfl⟩ : ∃ k : Nat, a = k := ⟨a.toNat, by omega⟩
      have hk : k < ns.length := by omega
      have ik := ix_seq hk
      have c1 : ((k : Int) + 1) - 1 = (k : Int) := by omega
      have m1 : ∀ i : Int, aMod (.int i) (.int 2147483647) = some (.fz (.int (i % 2147483647))) := fun i => mod_int (by decide)
      refine ⟨k + 1, (s * 48271 + ns.getD k 0 + 11) % 2147483647, if 1000000000000000000 ≤ ns.getD k 0 then ns.getD k 0 / m else h, ns.getD k 0 % m, by omega, Int.emod_nonneg _ (by omega), Int.emod_lt_of_pos _ hm, ?_⟩
      generalize ns.getD k 0 = c at ik ⊢
      unfold m__law_taken
      rw [mkM1, es]
      unfold g__law_taken
      by_cases h3 : 1000000000000000000 ≤ c
      · simp only [Ev.bind_ok, Ev.bind_err, Ev.map_ok, Ev.map_err, Ev.norm_fz, Ev.norm_own, Ev.norm_bor, Ev.norm_err, Ev.of_fz, Ev.of_own, Ev.ofB_some, Ev.o_ok, Ev.o_err, Ev.after_nx, Ev.after_rt, Ev.after_er, Ev.look_fz, Ev.look_bor, Ev.looks_nil, Ev.looks_cons, Ev.look2_eq, Ev.esc1_fz, Ev.esc1_bor, Ev.escs_nil, Ev.escs_cons, Ev.ap_var, Ev.ap_c, Ev.ap_nil, Ev.ap_cons, Ev.ap_star, Ev.ap_cb, Ev.ap_bin, Ev.ap_cmp, Ev.gcm_eq, Ev.ap_tru, Ev.tru_bl, Ev.ap_and, Ev.ap_or, Ev.ap_not, Ev.ap_andv, Ev.ap_orv, Ev.ap_notv, Ev.ap_if, Ev.ap_esc, Ev.ap_tup, Ev.ap_lst, Ev.lim_eq, Ev.ap_call, Ev.r_fz, Ev.r_own, Ev.r_err, Ev.ap_v, Ev.ap_chain, Ev.ap_neg, Ev.ap_items, Ev.items_tup, Ev.items_lst, Ev.ap_yes, Ev.ap_lc, Ev.ap_dc, Ev.ap_rev, Ev.ap_dk, Ev.ap_dn, Ev.ap_none, Ev.ap_some, Ev.ap_cut, Ev.ap_enum, Ev.ap_zip, Ev.ap_range1, Ev.ap_range2, Ev.ap_callM, Ev.ownT_eq, Ev.ap_gd, Ev.ap_mut, Ev.isL_lst, Ev.app_eq, Ev.ap_seq, Ev.ap_gif, Ev.ap_set, Ev.put_fz, Ev.put_own, Ev.put_bor, Ev.ap_ret, Ev.ap_drop, Ev.ap_gnil, Ev.ap_raise, Ev.ap_for, Ev.ap_aug, Ev.ap_asg, Ev.ap_store, Ev.ap_bname, Ev.ap_bnil, Ev.ap_bcons, Ev.ap_btup, Ev.end_rt, Ev.end_own, Ev.end_nx, Ev.end_er, Ev.end_bor, Ev.vl_fz, Ev.vl_own, List.getElem?_cons_zero, List.getElem?_cons_succ, Option.bind_some, List.set_cons_zero, List.set_cons_succ, row_0, row_1, row_2, row_3, gt, h1, h2, h3, decide_true, decide_false, Bool.false_eq_true, if_false, if_true, bInt_int, m1, mod_int hm, div_int hm hm2, st_1, st_2, st_3, em, add_int, sub_int, mul_int, bLen_seq, List.length_map, c1, ik, cGe_int, pow18]
      · simp only [Ev.bind_ok, Ev.bind_err, Ev.map_ok, Ev.map_err, Ev.norm_fz, Ev.norm_own, Ev.norm_bor, Ev.norm_err, Ev.of_fz, Ev.of_own, Ev.ofB_some, Ev.o_ok, Ev.o_err, Ev.after_nx, Ev.after_rt, Ev.after_er, Ev.look_fz, Ev.look_bor, Ev.looks_nil, Ev.looks_cons, Ev.look2_eq, Ev.esc1_fz, Ev.esc1_bor, Ev.escs_nil, Ev.escs_cons, Ev.ap_var, Ev.ap_c, Ev.ap_nil, Ev.ap_cons, Ev.ap_star, Ev.ap_cb, Ev.ap_bin, Ev.ap_cmp, Ev.gcm_eq, Ev.ap_tru, Ev.tru_bl, Ev.ap_and, Ev.ap_or, Ev.ap_not, Ev.ap_andv, Ev.ap_orv, Ev.ap_notv, Ev.ap_if, Ev.ap_esc, Ev.ap_tup, Ev.ap_lst, Ev.lim_eq, Ev.ap_call, Ev.r_fz, Ev.r_own, Ev.r_err, Ev.ap_v, Ev.ap_chain, Ev.ap_neg, Ev.ap_items, Ev.items_tup, Ev.items_lst, Ev.ap_yes, Ev.ap_lc, Ev.ap_dc, Ev.ap_rev, Ev.ap_dk, Ev.ap_dn, Ev.ap_none, Ev.ap_some, Ev.ap_cut, Ev.ap_enum, Ev.ap_zip, Ev.ap_range1, Ev.ap_range2, Ev.ap_callM, Ev.ownT_eq, Ev.ap_gd, Ev.ap_mut, Ev.isL_lst, Ev.app_eq, Ev.ap_seq, Ev.ap_gif, Ev.ap_set, Ev.put_fz, Ev.put_own, Ev.put_bor, Ev.ap_ret, Ev.ap_drop, Ev.ap_gnil, Ev.ap_raise, Ev.ap_for, Ev.ap_aug, Ev.ap_asg, Ev.ap_store, Ev.ap_bname, Ev.ap_bnil, Ev.ap_bcons, Ev.ap_btup, Ev.end_rt, Ev.end_own, Ev.end_nx, Ev.end_er, Ev.end_bor, Ev.vl_fz, Ev.vl_own, List.getElem?_cons_zero, List.getElem?_cons_succ, Option.bind_some, List.set_cons_zero, List.set_cons_succ, row_0, row_1, row_2, row_3, gt, h1, h2, h3, decide_true, decide_false, Bool.false_eq_true, if_false, if_true, bInt_int, m1, mod_int hm, div_int hm hm2, st_1, st_2, st_3, em, add_int, sub_int, mul_int, bLen_seq, List.length_map, c1, ik, cGe_int, pow18]
theorem callM_of {g : T → List T → RpM} {fa : FX.Env → R (List Vl)} {ρ : FX.Env} {i : Nat} {us : List Vl} {ts : List T} {k : Option Nat} {t t2 : T} {v : T} (h1 : fa ρ = .ok (.bor i :: us) ρ) (h2 : escs us ρ = some (ts, ρ)) (h3 : ρ[i]? = some (.own k t)) (h4 : g t ts = .ok t2 (.fz v)) : fCallM g fa ρ = .ok (.fz v) (ρ.set i (.own k t2)) := by
  rw [Ev.ap_callM, h1, Ev.bind_ok]
  dsimp only
  rw [h2]
  dsimp only
  rw [Ev.ownT_eq, h3]
  dsimp only
  rw [h4]
  rfl
theorem pick_ok2 (ns : List Int) {a : Int} (ha : 0 ≤ a) (s h : Int) {xs : List T} (hx : xs ≠ []) (hl : xs.length < 1000000) : ∃ a' s' h' x, 0 ≤ a' ∧ x ∈ xs ∧ m__law_pick (rowT ns a s h) [.lst xs] = .ok (rowT ns a' s' h') (.fz x) := by
  have hp : 0 < xs.length := List.length_pos_iff.mpr hx
  obtain ⟨a', s', h', v, h1, h2, h3, e⟩ := taken_ok ns ha s h (m := xs.length) (by omega) (by omega)
  obtain ⟨k, rfl⟩ : ∃ k : Nat, v = k := ⟨v.toNat, by omega⟩
  have hk : k < xs.length := by omega
  refine ⟨a', s', h', xs[k], h1, List.getElem_mem hk, ?_⟩
  have es : List.replicate (2 - 1 - 1) Sl.un = [] := rfl
  have ix : aIx (.lst xs) (.int (k : Int)) = some (.fz xs[k]) := by
    show (atI xs (k : Int)).map Nv.fz = _
    rw [K24.atI_nat, List.getElem?_eq_getElem hk]; rfl
  have e1 := callM_of (fa := fACons (fVar 0) (fACons (fCB bLen (fACons (fVar 1) fANil)) fANil)) (ρ := [.own (some 0) (rowT ns a s h), .fz (.lst xs)]) (i := 0) (us := [.fz (.int xs.length)]) rfl rfl rfl e
  have em : ∀ (r v : T) (x : Sl), endM (.rt (.fz v) [.own (some 0) r, x]) = .ok r (.fz v) := fun r v x => rfl
  unfold m__law_pick
  rw [mkM1, es]
  unfold g__law_pick
  simp only [Ev.ap_ret, Ev.ap_bin, Ev.ap_var, List.getElem?_cons_zero, List.getElem?_cons_succ, Ev.norm_fz, Ev.bind_ok, e1, List.set_cons_zero, Ev.look2_eq, Ev.look_fz, ix, Ev.of_fz, Ev.o_ok, em]
end K24
end

section
set_option Elab.async false
set_option linter.all false
namespace K24
open PySem PySem.Spec PyProof.Rows L2 FX
def altA : Nat → List (List Int)
  | 0 => []
  | n + 1 => [1, 2] :: [2, 1] :: altA n
theorem two_perm {o : List Int} {x y : Int} (p : o.Perm [x, y]) : o = [x, y] ∨ o = [y, x] := by
  match o, p.length_eq with
  | [u, v], _ =>
    have hu : u = x ∨ u = y := by simpa using p.mem_iff.mp (show u ∈ [u, v] by simp)
    rcases hu with rfl | rfl
    · have := p.cons_inv
      have := List.perm_singleton.mp this
      exact .inl (by simp at this; rw [this])
    · have q := p.trans (List.Perm.swap u x [])
      have := List.perm_singleton.mp q.cons_inv
      exact .inr (by simp at this; rw [this])
theorem c1_ge (b : Int) {o : List Int} {x y : Int} (p : o.Perm [x, y]) : 1 ≤ c1 b o := by
  have := p.length_eq
  unfold c1
  rw [this]
  split <;> simp
theorem alt_ge : ∀ (n : Nat) (S : List (List Int)) (b : Int), Fit S (altA n) → 2 * (n : Int) ≤ tot b S
  | 0, [], b, _ => by simp [tot]
  | 0, o :: S, b, h => h.elim
  | n + 1, o :: p :: S, b, h => by
    have h1 := c1_ge b h.1
    have h2 := c1_ge (lst o) h.2.1
    have h3 := alt_ge n S (lst p) h.2.2
    simp only [tot]; omega
  | n + 1, [o], b, h => h.2.elim
  | n + 1, [], b, h => h.elim
theorem alt_eq : ∀ (n : Nat) (S : List (List Int)), Fit S (altA n) → tot 1 S = 2 * (n : Int) → S = altA n
  | 0, [], _, _ => rfl
  | 0, o :: S, h, _ => h.elim
  | n + 1, o :: p :: S, h, e => by
    have h1 := c1_ge 1 h.1
    have h2 := c1_ge (lst o) h.2.1
    have h3 := alt_ge n S (lst p) h.2.2
    simp only [tot] at e
    have e1 : c1 1 o = 1 := by omega
    have e2 : c1 (lst o) p = 1 := by omega
    have e3 : tot (lst p) S = 2 * (n : Int) := by omega
    rcases two_perm h.1 with rfl | rfl
    · rcases two_perm h.2.1 with rfl | rfl
      · rw [alt_eq n S h.2.2 e3]; rfl
      · exact absurd e2 (by decide)
    · exact absurd e1 (by decide)
  | n + 1, [o], h, _ => h.2.elim
  | n + 1, [], h, _ => h.elim
theorem alt_tot1 : ∀ n : Nat, tot 1 (altA n) = 2 * (n : Int)
  | 0 => rfl
  | n + 1 => by
    have ih := alt_tot1 n
    have e1 : c1 1 [1, 2] = 1 := by decide
    have e2 : c1 (lst [1, 2]) [2, 1] = 1 := by decide
    have e3 : lst [2, 1] = 1 := by decide
    simp only [altA, tot, e1, e2, e3, ih]; omega
theorem alt_fit : ∀ n, Fit (altA n) (altA n)
  | 0 => trivial
  | n + 1 => ⟨List.Perm.refl _, List.Perm.refl _, alt_fit n⟩
end K24
end

section
set_option Elab.async false
set_option linter.all false
namespace K24
open PySem PySem.Spec PyProof.Rows L2 FX
theorem alt_lay : ∀ n, ∀ l ∈ altA n, Lay l
  | 0, l, h => by cases h
  | n + 1, l, h => by
    have a : Lay [1, 2] := ⟨by simp, by decide, by decide⟩
    have b : Lay [2, 1] := ⟨by simp, by decide, by decide⟩
    simp only [altA, List.mem_cons] at h
    rcases h with rfl | rfl | h
    · exact a
    · exact b
    · exact alt_lay n l h
theorem alt_totm (n : Nat) : tot (-1) (altA n) = 2 * (n : Int) := by
  cases n with
  | zero => rfl
  | succ n =>
    have e := alt_tot1 n
    have e1 : c1 (-1) [1, 2] = 1 := by decide
    have e2 : c1 (lst [1, 2]) [2, 1] = 1 := by decide
    have e3 : lst [2, 1] = 1 := by decide
    simp only [altA, tot, e1, e2, e3, e]; omega
theorem alt_greedy (n : Nat) : greedy (-1) (altA n) = altA n := by
  obtain ⟨g1, g2, g3⟩ := greedy_ok (altA n) (-1) (alt_lay n)
  have h1 := alt_ge n _ (-1) g1
  obtain ⟨h2, h3⟩ := g3 _ (alt_fit n)
  rw [alt_totm] at h2 h3
  have h4 : tot (-1) (greedy (-1) (altA n)) = 2 * (n : Int) := by omega
  have h5 := h3 (by omega)
  generalize greedy (-1) (altA n) = S at g1 h4 h5
  clear g2 g3 h1 h2 h3
  cases n with
  | zero =>
    cases S with
    | nil => rfl
    | cons o S => exact g1.elim
  | succ n =>
    match S, g1 with
    | o :: p :: S, g1 =>
      have k1 := c1_ge (-1) g1.1
      have k2 := c1_ge (lst o) g1.2.1
      have k3 := alt_ge n S (lst p) g1.2.2
      simp only [tot] at h4
      have e2 : c1 (lst o) p = 1 := by omega
      have e3 : tot (lst p) S = 2 * (n : Int) := by omega
      rcases two_perm g1.1 with rfl | rfl
      · rcases two_perm g1.2.1 with rfl | rfl
        · rw [alt_eq n S g1.2.2 e3]; rfl
        · exact absurd e2 (by decide)
      · refine absurd ?_ h5
        unfold altA
        rw [List.cons_lt_cons_iff]
        exact .inl (by decide)
    | [o], g1 => exact g1.2.elim
    | [], g1 => exact g1.elim
end K24
end

section
set_option Elab.async false
set_option linter.all false
set_option maxRecDepth 100000
set_option maxHeartbeats 400000
namespace K24
open PySem PySem.Spec PyProof.Rows L2 FX
theorem lay_empty (l : List Int) (h : Lay l) : 1 ≤ l.length := List.length_pos_iff.mpr h.ne
/-! ### the refusals -/
def badL : List T := [.non, .tup [], .tup [.int 6], .tup [.int 1, .int 1], .lst [.int 1], .tup [.bl true], .tup [.int (-1)]]
theorem bad_no {x : T} (h : x ∈ badL) : m_is_layer [x] = .ok (.fz (.bl false)) := by
  simp only [badL, List.mem_cons, List.not_mem_nil, or_false] at h
  rcases h with rfl | rfl | rfl | rfl | rfl | rfl | rfl
  · exact lay1
  · exact lay2
  · exact lay3
  · exact lay4
  · exact lay5
  · exact lay6
  · exact lay7
theorem chk_last {L : List (List Int)} (hL : ∀ l ∈ L, Lay l) (hn : L.length < 200) {x : T} (hx : x ∈ badL) : m_check_layers [.lst (L.map tI ++ [x])] = .err ⟨"BadStuffs", [("value", .int L.length)]⟩ := by
  have := chk_bad (c := .lst (L.map tI ++ [x])) (ts := L.map tI) (.inl rfl) (by simpa using hn) (fun t ht => by obtain ⟨l, hl, rfl⟩ := List.mem_map.mp ht; exact is_layer_ok (hL l hl)) (bad_no hx)
  rw [this, List.length_map]
theorem fewest_err {c : T} {e : Ex} (h : m_check_layers [c] = .err e) : m_fewest_swaps [c] = .err e := by
  have es : List.replicate (6 - 1) Sl.un = [.un, .un, .un, .un, .un] := rfl
  unfold m_fewest_swaps
  rw [mkP1, es]
  unfold g_fewest_swaps
  simp only [Ev.bind_ok, Ev.bind_err, Ev.map_ok, Ev.map_err, Ev.norm_fz, Ev.norm_own, Ev.norm_bor, Ev.norm_err, Ev.of_fz, Ev.of_own, Ev.ofB_some, Ev.o_ok, Ev.o_err, Ev.after_nx, Ev.after_rt, Ev.after_er, Ev.look_fz, Ev.look_bor, Ev.looks_nil, Ev.looks_cons, Ev.look2_eq, Ev.esc1_fz, Ev.esc1_bor, Ev.escs_nil, Ev.escs_cons, Ev.ap_var, Ev.ap_c, Ev.ap_nil, Ev.ap_cons, Ev.ap_star, Ev.ap_cb, Ev.ap_bin, Ev.ap_cmp, Ev.gcm_eq, Ev.ap_tru, Ev.tru_bl, Ev.ap_and, Ev.ap_or, Ev.ap_not, Ev.ap_andv, Ev.ap_orv, Ev.ap_notv, Ev.ap_if, Ev.ap_esc, Ev.ap_tup, Ev.ap_lst, Ev.lim_eq, Ev.ap_call, Ev.r_fz, Ev.r_own, Ev.r_err, Ev.ap_v, Ev.ap_chain, Ev.ap_neg, Ev.ap_items, Ev.items_tup, Ev.items_lst, Ev.ap_yes, Ev.ap_lc, Ev.ap_dc, Ev.ap_rev, Ev.ap_dk, Ev.ap_dn, Ev.ap_none, Ev.ap_some, Ev.ap_cut, Ev.ap_enum, Ev.ap_zip, Ev.ap_range1, Ev.ap_range2, Ev.ap_callM, Ev.ownT_eq, Ev.ap_gd, Ev.ap_mut, Ev.isL_lst, Ev.app_eq, Ev.ap_seq, Ev.ap_gif, Ev.ap_set, Ev.put_fz, Ev.put_own, Ev.put_bor, Ev.ap_ret, Ev.ap_drop, Ev.ap_gnil, Ev.ap_raise, Ev.ap_for, Ev.ap_aug, Ev.ap_asg, Ev.ap_store, Ev.ap_bname, Ev.ap_bnil, Ev.ap_bcons, Ev.ap_btup, Ev.end_rt, Ev.end_own, Ev.end_nx, Ev.end_er, Ev.end_bor, Ev.vl_fz, Ev.vl_own, List.getElem?_cons_zero, h]
theorem swaps_err {c : T} {e : Ex} (h : m_check_layers [c] = .err e) : m_swaps_of [c] = .err e := by
  have es : List.replicate (1 - 1) Sl.un = [] := rfl
  unfold m_swaps_of
  rw [mkP1, es]
  unfold g_swaps_of
  simp only [Ev.bind_ok, Ev.bind_err, Ev.map_ok, Ev.map_err, Ev.norm_fz, Ev.norm_own, Ev.norm_bor, Ev.norm_err, Ev.of_fz, Ev.of_own, Ev.ofB_some, Ev.o_ok, Ev.o_err, Ev.after_nx, Ev.after_rt, Ev.after_er, Ev.look_fz, Ev.look_bor, Ev.looks_nil, Ev.looks_cons, Ev.look2_eq, Ev.esc1_fz, Ev.esc1_bor, Ev.escs_nil, Ev.escs_cons, Ev.ap_var, Ev.ap_c, Ev.ap_nil, Ev.ap_cons, Ev.ap_star, Ev.ap_cb, Ev.ap_bin, Ev.ap_cmp, Ev.gcm_eq, Ev.ap_tru, Ev.tru_bl, Ev.ap_and, Ev.ap_or, Ev.ap_not, Ev.ap_andv, Ev.ap_orv, Ev.ap_notv, Ev.ap_if, Ev.ap_esc, Ev.ap_tup, Ev.ap_lst, Ev.lim_eq, Ev.ap_call, Ev.r_fz, Ev.r_own, Ev.r_err, Ev.ap_v, Ev.ap_chain, Ev.ap_neg, Ev.ap_items, Ev.items_tup, Ev.items_lst, Ev.ap_yes, Ev.ap_lc, Ev.ap_dc, Ev.ap_rev, Ev.ap_dk, Ev.ap_dn, Ev.ap_none, Ev.ap_some, Ev.ap_cut, Ev.ap_enum, Ev.ap_zip, Ev.ap_range1, Ev.ap_range2, Ev.ap_callM, Ev.ownT_eq, Ev.ap_gd, Ev.ap_mut, Ev.isL_lst, Ev.app_eq, Ev.ap_seq, Ev.ap_gif, Ev.ap_set, Ev.put_fz, Ev.put_own, Ev.put_bor, Ev.ap_ret, Ev.ap_drop, Ev.ap_gnil, Ev.ap_raise, Ev.ap_for, Ev.ap_aug, Ev.ap_asg, Ev.ap_store, Ev.ap_bname, Ev.ap_bnil, Ev.ap_bcons, Ev.ap_btup, Ev.end_rt, Ev.end_own, Ev.end_nx, Ev.end_er, Ev.end_bor, Ev.vl_fz, Ev.vl_own, List.getElem?_cons_zero, h]
end K24
end

section
set_option Elab.async false
set_option linter.all false
set_option maxRecDepth 100000
set_option maxHeartbeats 400000
namespace K24
open PySem PySem.Spec PyProof.Rows L2 FX
theorem chk_long {ts : List T} (h : 200 < ts.length) : m_check_layers [.lst ts] = .err ⟨"BadStuffs", [("value", .int (-1))]⟩ := by
  have hl' : decide ((200 : Int) < ts.length) = true := by simp; omega
  have r1 : m_is_row [.lst ts] = .ok (.fz (.bl true)) := rfl
  have l1 : bLen [.lst ts] = some (.fz (.int ts.length)) := rfl
  have gt : cI (fun i j => decide (j < i)) (.int ts.length) (.int 200) = some true := congrArg some hl'
  have es : List.replicate (3 - 1) Sl.un = [.un, .un] := rfl
  unfold m_check_layers
  rw [mkP1, es]
  unfold g_check_layers
  simp only [Ev.bind_ok, Ev.bind_err, Ev.map_ok, Ev.map_err, Ev.norm_fz, Ev.norm_own, Ev.norm_bor, Ev.norm_err, Ev.of_fz, Ev.of_own, Ev.ofB_some, Ev.o_ok, Ev.o_err, Ev.after_nx, Ev.after_rt, Ev.after_er, Ev.look_fz, Ev.look_bor, Ev.looks_nil, Ev.looks_cons, Ev.look2_eq, Ev.esc1_fz, Ev.esc1_bor, Ev.escs_nil, Ev.escs_cons, Ev.ap_var, Ev.ap_c, Ev.ap_nil, Ev.ap_cons, Ev.ap_star, Ev.ap_cb, Ev.ap_bin, Ev.ap_cmp, Ev.gcm_eq, Ev.ap_tru, Ev.tru_bl, Ev.ap_and, Ev.ap_or, Ev.ap_not, Ev.ap_andv, Ev.ap_orv, Ev.ap_notv, Ev.ap_if, Ev.ap_esc, Ev.ap_tup, Ev.ap_lst, Ev.lim_eq, Ev.ap_call, Ev.r_fz, Ev.r_own, Ev.r_err, Ev.ap_v, Ev.ap_chain, Ev.ap_neg, Ev.ap_items, Ev.items_tup, Ev.items_lst, Ev.ap_yes, Ev.ap_lc, Ev.ap_dc, Ev.ap_rev, Ev.ap_dk, Ev.ap_dn, Ev.ap_none, Ev.ap_some, Ev.ap_cut, Ev.ap_enum, Ev.ap_zip, Ev.ap_range1, Ev.ap_range2, Ev.ap_callM, Ev.ownT_eq, Ev.ap_gd, Ev.ap_mut, Ev.isL_lst, Ev.app_eq, Ev.ap_seq, Ev.ap_gif, Ev.ap_set, Ev.put_fz, Ev.put_own, Ev.put_bor, Ev.ap_ret, Ev.ap_drop, Ev.ap_gnil, Ev.ap_raise, Ev.ap_for, Ev.ap_aug, Ev.ap_asg, Ev.ap_store, Ev.ap_bname, Ev.ap_bnil, Ev.ap_bcons, Ev.ap_btup, Ev.end_rt, Ev.end_own, Ev.end_nx, Ev.end_er, Ev.end_bor, Ev.vl_fz, Ev.vl_own, List.getElem?_cons_zero, Option.bind_some, r1, l1, gt, Bool.not_true, Bool.false_eq_true, if_false, if_true]
/-! ### all sequences -/
def ext (F : List (List (List Int))) (l : List Int) : List (List (List Int)) := (F.map fun S => (ords l).map fun o => S ++ [o]).flatten
theorem ext_mem {F : List (List (List Int))} {P : List (List Int)} {l : List Int} (h : ∀ S, S ∈ F ↔ Fit S P) : ∀ S, S ∈ ext F l ↔ Fit S (P ++ [l]) := by
  intro S'
  simp only [ext, List.mem_flatten, List.mem_map]
  constructor
  · rintro ⟨_, ⟨S, hS, rfl⟩, h2⟩
    obtain ⟨o, ho, rfl⟩ := List.mem_map.mp h2
    exact fit_snoc ((h S).mp hS) ((ords_mem l o).mp ho)
  · intro f
    obtain ⟨S, o, rfl, f1, p⟩ := fit_unsnoc f
    exact ⟨_, ⟨S, (h S).mpr f1, rfl⟩, List.mem_map.mpr ⟨o, (ords_mem l o).mpr p, rfl⟩⟩
theorem ext_len (F : List (List (List Int))) (l : List Int) : (ext F l).length = F.length * (ords l).length := flat_len _ _ (fun S => by simp) F
end K24
end

section
set_option Elab.async false
set_option linter.all false
set_option maxRecDepth 100000
set_option maxHeartbeats 400000
namespace K24
open PySem PySem.Spec PyProof.Rows L2 FX
theorem br_turn {z0 z1 z2 z3 z4 z5 z6 z7 z8 z13 z14 : Sl} {l : List Int} (hl : l ≠ []) (h4 : l.length ≤ 4) (acc : List (List (List Int))) (S : List (List Int)) (hS : S.length ≤ 1000) (ha : acc.length ≤ 1000000) :
    blaw3 [z0, z1, z2, z3, z4, z5, z6, z7, z8, .fz (tI l), .own none (.lst (acc.map tII)), .fz (tII S), .un, z13, z14] = .nx [z0, z1, z2, z3, z4, z5, z6, z7, z8, .fz (tI l), .own none (.lst ((acc ++ (ords l).map fun o => S ++ [o]).map tII)), .fz (tII S), .un, z13, z14] := by
  have eo := orders_ok hl h4
  have hlen : (ords l).length ≤ 24 := by rw [ords_len]; exact fct_le h4
  have e1 := lcL_gen (vs := [12]) (b := bName 12) (ft := fYes) (fe := fBin aAdd (fVar 11) (fTup (fACons (fVar 12) fANil))) (ρ := [z0, z1, z2, z3, z4, z5, z6, z7, z8, .fz (tI l), .own none (.lst (acc.map tII)), .fz (tII S), .un, z13, z14]) tI (fun _ => true) (fun o => tII (S ++ [o])) (ords l) [] (fun o ho => by
    refine ⟨[z0, z1, z2, z3, z4, z5, z6, z7, z8, .fz (tI l), .own none (.lst (acc.map tII)), .fz (tII S), .fz (tI o), z13, z14], rfl, rfl, fun _ => ?_, rfl⟩
    have a1 : aAdd (tII S) (.tup [tI o]) = some (.fz (tII (S ++ [o]))) := by
      unfold tII
      rw [add_tup _ _ (by simp; omega)]
      simp
    rw [bin_fz (g := aAdd) (fa := fVar 11) (fb := fTup (fACons (fVar 12) fANil)) rfl rfl a1]
    rfl) (by simp only [List.length_nil]; omega)
  have e2 : (ords l).filter (fun _ => true) = ords l := by simp
  have e3 : (ords l).map (fun o => tII (S ++ [o])) = ((ords l).map fun o => S ++ [o]).map tII := by simp
  rw [e2, List.nil_append, e3] at e1
  have ei : fItems (fCall m__law_orders (fACons (fVar 9) fANil)) [z0, z1, z2, z3, z4, z5, z6, z7, z8, .fz (tI l), .own none (.lst (acc.map tII)), .fz (tII S), .un, z13, z14] = .ok ((ords l).map tI) [z0, z1, z2, z3, z4, z5, z6, z7, z8, .fz (tI l), .own none (.lst (acc.map tII)), .fz (tII S), .un, z13, z14] := by
    simp only [Ev.bind_ok, Ev.bind_err, Ev.map_ok, Ev.map_err, Ev.norm_fz, Ev.norm_own, Ev.norm_bor, Ev.norm_err, Ev.of_fz, Ev.of_own, Ev.ofB_some, Ev.o_ok, Ev.o_err, Ev.after_nx, Ev.after_rt, Ev.after_er, Ev.look_fz, Ev.look_bor, Ev.looks_nil, Ev.looks_cons, Ev.look2_eq, Ev.esc1_fz, Ev.esc1_bor, Ev.escs_nil, Ev.escs_cons, Ev.ap_var, Ev.ap_c, Ev.ap_nil, Ev.ap_cons, Ev.ap_star, Ev.ap_cb, Ev.ap_bin, Ev.ap_cmp, Ev.gcm_eq, Ev.ap_tru, Ev.tru_bl, Ev.ap_and, Ev.ap_or, Ev.ap_not, Ev.ap_andv, Ev.ap_orv, Ev.ap_notv, Ev.ap_if, Ev.ap_esc, Ev.ap_tup, Ev.ap_lst, Ev.lim_eq, Ev.ap_call, Ev.r_fz, Ev.r_own, Ev.r_err, Ev.ap_v, Ev.ap_chain, Ev.ap_neg, Ev.ap_items, Ev.items_tup, Ev.items_lst, Ev.ap_yes, Ev.ap_lc, Ev.ap_dc, Ev.ap_rev, Ev.ap_dk, Ev.ap_dn, Ev.ap_none, Ev.ap_some, Ev.ap_cut, Ev.ap_enum, Ev.ap_zip, Ev.ap_range1, Ev.ap_range2, Ev.ap_callM, Ev.ownT_eq, Ev.ap_gd, Ev.ap_mut, Ev.isL_lst, Ev.app_eq, Ev.ap_seq, Ev.ap_gif, Ev.ap_set, Ev.put_fz, Ev.put_own, Ev.put_bor, Ev.ap_ret, Ev.ap_drop, Ev.ap_gnil, Ev.ap_raise, Ev.ap_for, Ev.ap_aug, Ev.ap_asg, Ev.ap_store, Ev.ap_bname, Ev.ap_bnil, Ev.ap_bcons, Ev.ap_btup, Ev.end_rt, Ev.end_own, Ev.end_nx, Ev.end_er, Ev.end_bor, Ev.vl_fz, Ev.vl_own, List.getElem?_cons_zero, List.getElem?_cons_succ, eo]
  have a2 := add_lst (acc.map tII) (((ords l).map fun o => S ++ [o]).map tII) (by simp only [List.length_map]; omega)
  have e4 := set_cat (i := 10) (g := aAdd) (ρ := [z0, z1, z2, z3, z4, z5, z6, z7, z8, .fz (tI l), .own none (.lst (acc.map tII)), .fz (tII S), .un, z13, z14]) rfl (lc_of ei e1) a2
  rw [← List.map_append] at e4
  exact e4
end K24
end

section
set_option Elab.async false
set_option linter.all false
set_option maxRecDepth 100000
set_option maxHeartbeats 400000
namespace K24
open PySem PySem.Spec PyProof.Rows L2 FX
theorem br3 {z0 z1 z2 z3 z4 z5 z6 z7 z8 z13 z14 : Sl} {l : List Int} (hl : l ≠ []) (h4 : l.length ≤ 4) (F : List (List (List Int))) (hS : ∀ S ∈ F, S.length ≤ 1000) (hF : F.length ≤ 24 * 24) (z11 : Sl) :
    ∃ z11', forL (bName 11) blaw3 (F.map tII) [z0, z1, z2, z3, z4, z5, z6, z7, z8, .fz (tI l), .own none (.lst []), z11, .un, z13, z14] = .nx [z0, z1, z2, z3, z4, z5, z6, z7, z8, .fz (tI l), .own none (.lst ((ext F l).map tII)), z11', .un, z13, z14] := by
  have hlen : (ords l).length ≤ 24 := by rw [ords_len]; exact fct_le h4
  obtain ⟨ρ', e, z11', q⟩ := forL_pre (g := blaw3) (b := bName 11) tII (fun pre ρ => ∃ z11', ρ = [z0, z1, z2, z3, z4, z5, z6, z7, z8, .fz (tI l), .own none (.lst ((ext pre l).map tII)), z11', .un, z13, z14]) F [] [z0, z1, z2, z3, z4, z5, z6, z7, z8, .fz (tI l), .own none (.lst []), z11, .un, z13, z14]
    (fun pre S post ρ hp hk ⟨z11, q⟩ => by
      have h1 := pre_le hp
      have h2 : (ext pre l).length ≤ 1000000 := by
        rw [ext_len]
        have := Nat.mul_le_mul (show pre.length ≤ 576 by omega) hlen
        omega
      refine ⟨_, by subst q; rfl, _, br_turn hl h4 (ext pre l) S (hS S hk) h2, .fz (tII S), ?_⟩
      simp [ext]) ⟨z11, rfl⟩
  exact ⟨z11', by rw [e, q]; rfl⟩
theorem br2 {z0 z1 z2 z3 z4 z5 z6 z7 z13 z14 : Sl} : ∀ (Q pre : List (List Int)) (F : List (List (List Int))) (z8 z9 z10 z11 : Sl), (∀ l ∈ Q, Lay l ∧ l.length ≤ 4) → (z8 = .fz (.lst (F.map tII)) ∨ z8 = .own none (.lst (F.map tII))) → (∀ S, S ∈ F ↔ Fit S pre) → F.length ≤ 24 ^ pre.length → pre.length + Q.length ≤ 3 →
    ∃ (z8' z9' z10' z11' : Sl) (F' : List (List (List Int))), (z8' = .fz (.lst (F'.map tII)) ∨ z8' = .own none (.lst (F'.map tII))) ∧ (∀ S, S ∈ F' ↔ Fit S (pre ++ Q)) ∧ F'.length ≤ 24 ^ (pre.length + Q.length) ∧ forL (bName 9) blaw2 (Q.map tI) [z0, z1, z2, z3, z4, z5, z6, z7, z8, z9, z10, z11, .un, z13, z14] = .nx [z0, z1, z2, z3, z4, z5, z6, z7, z8', z9', z10', z11', .un, z13, z14]
  | [], pre, F, z8, z9, z10, z11, _, h8, hF, hl, _ => ⟨z8, z9, z10, z11, F, h8, by simpa using hF, by simpa using hl, rfl⟩
  | l :: Q, pre, F, z8, z9, z10, z11, hQ, h8, hF, hlen, hn => by
    obtain ⟨hl, h4⟩ := hQ l List.mem_cons_self
    have hn' : pre.length + (Q.length + 1) ≤ 3 := hn
    have ho : (ords l).length ≤ 24 := by rw [ords_len]; exact fct_le h4
    have hF2 : F.length ≤ 24 * 24 := by
      have h5 : pre.length ≤ 2 := by omega
      refine Nat.le_trans hlen ?_
      match pre.length, h5 with
      | 0, _ => decide
      | 1, _ => decide
      | 2, _ => decide
    obtain ⟨u11, e⟩ := br3 (z0 := z0) (z1 := z1) (z2 := z2) (z3 := z3) (z4 := z4) (z5 := z5) (z6 := z6) (z7 := z7) (z8 := .fz (.lst (F.map tII))) (z13 := z13) (z14 := z14) hl.ne h4 F (fun S hS => by rw [fit_len ((hF S).mp hS)]; omega) hF2 z11
    obtain ⟨v8, v9, v10, v11, F', k1, k2, k3, ih⟩ := br2 (z0 := z0) (z1 := z1) (z2 := z2) (z3 := z3) (z4 := z4) (z5 := z5) (z6 := z6) (z7 := z7) (z13 := z13) (z14 := z14) Q (pre ++ [l]) (ext F l) (.fz (.lst ((ext F l).map tII))) (.fz (tI l)) (.fz (.lst ((ext F l).map tII))) u11 (fun m hm => hQ m (List.mem_cons_of_mem _ hm)) (.inl rfl) (ext_mem hF) (by
      rw [ext_len, List.length_append, List.length_singleton, Nat.pow_succ]
      exact Nat.mul_le_mul hlen ho) (by simp; omega)
    refine ⟨v8, v9, v10, v11, F', k1, by simpa using k2, (by
      have e : (pre ++ [l]).length + Q.length = pre.length + (l :: Q).length := by simp; omega
      rw [← e]; exact k3), ?_⟩
    have eb : bName 9 (tI l) [z0, z1, z2, z3, z4, z5, z6, z7, z8, z9, z10, z11, .un, z13, z14] = some [z0, z1, z2, z3, z4, z5, z6, z7, z8, .fz (tI l), z10, z11, .un, z13, z14] := rfl
    have ei : fItems (fVar 8) [z0, z1, z2, z3, z4, z5, z6, z7, z8, .fz (tI l), .own none (.lst []), z11, .un, z13, z14] = .ok (F.map tII) [z0, z1, z2, z3, z4, z5, z6, z7, .fz (.lst (F.map tII)), .fz (tI l), .own none (.lst []), z11, .un, z13, z14] := by
      rcases h8 with rfl | rfl <;> rfl
    have eg : blaw2 [z0, z1, z2, z3, z4, z5, z6, z7, z8, .fz (tI l), z10, z11, .un, z13, z14] = .nx [z0, z1, z2, z3, z4, z5, z6, z7, .fz (.lst ((ext F l).map tII)), .fz (tI l), .fz (.lst ((ext F l).map tII)), u11, .un, z13, z14] := by
      unfold blaw3 at e
      unfold blaw2
      simp only [Ev.ap_seq, Ev.ap_set, Ev.ap_lst, Ev.ap_esc, Ev.ap_nil, Ev.bind_ok, Ev.escs_nil, Ev.lim_eq, List.length_nil, Nat.zero_le, if_true, Ev.of_own, Ev.o_ok, Ev.put_own, Ev.after_nx, List.set_cons_zero, List.set_cons_succ, Ev.ap_for, ei, e, Ev.ap_var, List.getElem?_cons_zero, List.getElem?_cons_succ, Ev.put_bor, Ev.esc1_bor]
    simp only [List.map_cons, forL, eb, eg, ih]
end K24
end

section
set_option Elab.async false
set_option linter.all false
set_option maxRecDepth 100000
set_option maxHeartbeats 400000
namespace K24
open PySem PySem.Spec PyProof.Rows L2 FX
theorem callM2 {g : T → List T → RpM} {fa : FX.Env → R (List Vl)} {ρ ρ1 ρ2 : FX.Env} {i : Nat} {us : List Vl} {ts : List T} {k : Option Nat} {t t2 : T} {v : T} (h1 : fa ρ = .ok (.bor i :: us) ρ1) (h2 : escs us ρ1 = some (ts, ρ2)) (h3 : ρ2[i]? = some (.own k t)) (h4 : g t ts = .ok t2 (.fz v)) : fCallM g fa ρ = .ok (.fz v) (ρ2.set i (.own k t2)) := by
  rw [Ev.ap_callM, h1, Ev.bind_ok]
  dsimp only
  rw [h2]
  dsimp only
  rw [Ev.ownT_eq, h3]
  dsimp only
  rw [h4]
  rfl
theorem fls_ints : ∀ m : List Int, fls (m.map T.int) = some (m.map V.int)
  | [] => rfl
  | i :: m => by simp [fls, T.fl, fls_ints m]
theorem inV_ints (v : Int) : ∀ m : List Int, inV (.int v) (m.map V.int) = decide (v ∈ m)
  | [] => rfl
  | i :: m => by
    have ih := inV_ints v m
    unfold inV at ih ⊢
    simp only [List.map_cons, List.any_cons, ih]
    by_cases h : i = v
    · subst h; simp [eqV]
    · have h' : ¬ v = i := fun z => h z.symm
      simp [eqV, h, h']
theorem cNotIn_ints (v : Int) (m : List Int) : cNotIn (.int v) (.lst (m.map T.int)) = some (!decide (v ∈ m)) := by
  have e : cInF true (.int v) (.lst (m.map T.int)) = some (!decide (v ∈ m)) := by
    show (match fls (m.map T.int) with | some xs => some (if true = true then !inV (.int v) xs else inV (.int v) xs) | none => none) = _
    rw [fls_ints]
    dsimp only
    rw [if_pos rfl, inV_ints]
  show orB (cInF true) _ _ _ = _
  unfold orB
  rw [e]
/-- the row at slot 1 gives a value below one of the bounds -/
theorem two_calls (ns : List Int) {a : Int} (ha : 0 ≤ a) (s h : Int) {bs : List Int} (hb : bs ≠ []) (hl : bs.length ≤ 10) (hm : ∀ b ∈ bs, 0 < b ∧ b ≤ 9) {fl : FX.Env → R Vl} {ρ : FX.Env} (e : ∀ r, ρ[1]? = some (.own none r) → fl ρ = .ok (.own (.lst (bs.map T.int))) ρ) (er : ρ[1]? = some (.own none (rowT ns a s h))) :
    ∃ a' s' h' v b, 0 ≤ a' ∧ b ∈ bs ∧ 0 ≤ v ∧ v < b ∧ fCallM m__law_taken (fACons (fVar 1) (fACons (fCallM m__law_pick (fACons (fVar 1) (fACons fl fANil))) fANil)) ρ = .ok (.fz (.int v)) (ρ.set 1 (.own none (rowT ns a' s' h'))) := by
  obtain ⟨a1, s1, h1, x, p1, p2, p3⟩ := pick_ok2 ns ha s h (xs := bs.map T.int) (by simpa using hb) (by simp; omega)
  obtain ⟨b, hb1, rfl⟩ := List.mem_map.mp p2
  obtain ⟨a2, s2, h2, v, q1, q2, q3, q4⟩ := taken_ok ns p1 s1 h1 (m := b) (hm b hb1).1 (by have := (hm b hb1).2; omega)
  refine ⟨a2, s2, h2, v, b, q1, hb1, q2, q3, ?_⟩
  have len : 1 < ρ.length := (List.getElem?_eq_some_iff.mp er).1
  have v1 : ∀ (r : T) (ρ : FX.Env), ρ[1]? = some (.own none r) → fVar 1 ρ = .ok (.bor 1) ρ := fun r ρ e => by rw [Ev.ap_var, e]
  have e1 : fACons (fVar 1) (fACons fl fANil) ρ = .ok [.bor 1, .fz (.lst (bs.map T.int))] ρ := by
    rw [Ev.ap_cons, v1 _ _ er, Ev.norm_bor, Ev.bind_ok, Ev.ap_cons, e _ er, Ev.norm_own, Ev.bind_ok]; rfl
  have e2 := callM2 (g := m__law_pick) e1 (ρ2 := ρ) rfl er p3
  have g1 : (ρ.set 1 (.own none (rowT ns a1 s1 h1)))[1]? = some (.own none (rowT ns a1 s1 h1)) := by
    rw [List.getElem?_set]; simp [len]
  have e3 : fACons (fVar 1) (fACons (fCallM m__law_pick (fACons (fVar 1) (fACons fl fANil))) fANil) ρ = .ok [.bor 1, .fz (.int b)] (ρ.set 1 (.own none (rowT ns a1 s1 h1))) := by
    rw [Ev.ap_cons, v1 _ _ er, Ev.norm_bor, Ev.bind_ok, Ev.ap_cons, e2, Ev.norm_fz, Ev.bind_ok]; rfl
  have e4 := callM2 (g := m__law_taken) e3 (ρ2 := ρ.set 1 (.own none (rowT ns a1 s1 h1))) rfl g1 q4
  rw [e4, List.set_set]
end K24
end

section
set_option Elab.async false
set_option linter.all false
set_option maxRecDepth 100000
set_option maxHeartbeats 1000000
namespace K24
open PySem PySem.Spec PyProof.Rows L2 FX
def slaw0 : FX.Env → O := (gSet 1 (fLst (fACons (fVar 0) (fACons (fC (.int 0)) (fACons (fC (.int 124)) (fACons (fC (.int 0)) fANil))))))
def slaw1 : FX.Env → O := (gSet 2 (fLst fANil))
def slaw2 : FX.Env → O := (gFor (fRange1 (fACons (fCallM m__law_taken (fACons (fVar 1) (fACons (fCallM m__law_pick (fACons (fVar 1) (fACons (fLst (fACons (fC (.int 3)) (fACons (fC (.int 6)) (fACons (fC (.int 9)) fANil)))) fANil))) fANil))) fANil)) (bName 3) (gSeq (gSet 4 (fLst fANil)) (gSeq (gFor (fRange1 (fACons (fBin aAdd (fC (.int 1)) (fCallM m__law_taken (fACons (fVar 1) (fACons (fC (.int 4)) fANil)))) fANil)) (bName 5) (gSeq (gSet 6 (fCallM m__law_taken (fACons (fVar 1) (fACons (fCallM m__law_pick (fACons (fVar 1) (fACons (fLst (fACons (fC (.int 3)) (fACons (fC (.int 6)) fANil))) fANil))) fANil)))) (gIf (fCmpT cNotIn (fVar 6) (fVar 4)) (gDrop (gd isL 4 (fMut 4 mAppend (fACons (fVar 6) fANil)))) gNil))) (gDrop (gd isL 2 (fMut 2 mAppend (fACons (fCB bTuple (fACons (fVar 4) fANil)) fANil)))))))
def slaw3 : FX.Env → O := (gSet 7 (fCall m__law_best (fACons (fVar 2) fANil)))
def slaw4 : FX.Env → O := (gIf (fOr (fNot (fTru (fCall (m__law_alike 10) (fACons (fCall m_fewest_swaps (fACons (fCB bTuple (fACons (fVar 2) fANil)) fANil)) (fACons (fVar 7) fANil))))) (fNot (fTru (fCall (m__law_alike 10) (fACons (fCall m_swaps_of (fACons (fBin aIx (fVar 7) (fC (.int 1))) fANil)) (fACons (fBin aIx (fVar 7) (fC (.int 0))) fANil)))))) (gRet (fC (.bl false))) gNil)
def slaw5 : FX.Env → O := (gIf (fOr (fNot (fTru (fCall (m__law_alike 10) (fACons (fCall m_swaps_of (fACons (fVar 2) fANil)) (fACons (fCall m__law_count (fACons (fVar 2) fANil)) fANil))))) (fCmpT cLt (fCall m__law_count (fACons (fVar 2) fANil)) (fBin aIx (fVar 7) (fC (.int 0))))) (gRet (fC (.bl false))) gNil)
def slaw6 : FX.Env → O := (gIf (fCmpT cLt (fCB bLen (fACons (fVar 2) fANil)) (fC (.int 4))) (gSeq (gSet 8 (fLst (fACons (fTup fANil) fANil))) (gSeq (gFor (fItems (fVar 2)) (bName 9) (gSeq (gSet 10 (fLst fANil)) (gSeq (gFor (fItems (fVar 8)) (bName 11) (gSet 10 (fBin aAdd (fVar 10) (fLc [12] (fItems (fCall m__law_orders (fACons (fVar 9) fANil))) (bName 12) fYes (fBin aAdd (fVar 11) (fTup (fACons (fVar 12) fANil))))))) (gSet 8 (fVar 10))))) (gIf (fAnd (fCmpT cLt (fCB bLen (fACons (fVar 8) fANil)) (fC (.int 3000))) (fCmpT cNe (fCB bMin (fACons (fLc [11] (fItems (fVar 8)) (bName 11) fYes (fTup (fACons (fCall m__law_count (fACons (fVar 11) fANil)) (fACons (fVar 11) fANil)))) fANil)) (fVar 7))) (gRet (fC (.bl false))) gNil))) gNil)
def slaw7 : FX.Env → O := (gSet 13 (fBin aAdd (fVar 2) (fLst (fACons (fCallM m__law_pick (fACons (fVar 1) (fACons (fLst (fACons (fC .non) (fACons (fTup fANil) (fACons (fTup (fACons (fC (.int 6)) fANil)) (fACons (fTup (fACons (fC (.int 1)) (fACons (fC (.int 1)) fANil))) (fACons (fLst (fACons (fC (.int 1)) fANil)) (fACons (fTup (fACons (fC (.bl true)) fANil)) (fACons (fTup (fACons (fNeg (fC (.int 1))) fANil)) fANil)))))))) fANil))) fANil))))
def slaw8 : FX.Env → O := (gFor (fItems (fLst (fACons (fC (.fn "fewest_swaps")) (fACons (fC (.fn "swaps_of")) fANil)))) (bName 14) (gSeq (gIf (fCmpT cNe (fRef "BadStuffs" "" "stuffs" (fAlt (isFn 14 "fewest_swaps") (fCall m_fewest_swaps (fACons (fVar 13) fANil)) (fun ρ => if isFn 14 "swaps_of" ρ = true then fCall m_swaps_of (fACons (fVar 13) fANil) ρ else .stuck))) (fTup (fACons (fC (.str "stuffs")) (fACons (fCB bLen (fACons (fVar 2) fANil)) fANil)))) (gRet (fC (.bl false))) gNil) (gIf (fCmpT cNe (fRef "BadStuffs" "" "stuffs" (fAlt (isFn 14 "fewest_swaps") (fCall m_fewest_swaps (fACons (fCallM m__law_pick (fACons (fVar 1) (fACons (fLst (fACons (fC .non) (fACons (fC (.int 5)) (fACons (fBin aMul (fLst (fACons (fTup (fACons (fC (.int 1)) fANil)) fANil)) (fC (.int 201))) fANil)))) fANil))) fANil)) (fun ρ => if isFn 14 "swaps_of" ρ = true then fCall m_swaps_of (fACons (fCallM m__law_pick (fACons (fVar 1) (fACons (fLst (fACons (fC .non) (fACons (fC (.int 5)) (fACons (fBin aMul (fLst (fACons (fTup (fACons (fC (.int 1)) fANil)) fANil)) (fC (.int 201))) fANil)))) fANil))) fANil) ρ else .stuck))) (fTup (fACons (fC (.str "stuffs")) (fACons (fNeg (fC (.int 1))) fANil)))) (gRet (fC (.bl false))) gNil)))
def slaw9 : FX.Env → O := (gRet (fAndV (fBin (gCm cEq) (fCall m_fewest_swaps (fACons (fLst fANil) fANil)) (fTup (fACons (fC (.int 0)) (fACons (fTup fANil) fANil)))) (fBin (gCm cEq) (fCall m_fewest_swaps (fACons (fBin aMul (fLst (fACons (fTup (fACons (fC (.int 1)) (fACons (fC (.int 2)) fANil))) (fACons (fTup (fACons (fC (.int 2)) (fACons (fC (.int 1)) fANil))) fANil))) (fC (.int 100))) fANil)) (fTup (fACons (fC (.int 200)) (fACons (fBin aMul (fTup (fACons (fTup (fACons (fC (.int 1)) (fACons (fC (.int 2)) fANil))) (fACons (fTup (fACons (fC (.int 2)) (fACons (fC (.int 1)) fANil))) fANil))) (fC (.int 100))) fANil))))))

theorem app_ints (m : List Int) (v : Int) (h : m.length ≤ 1000000) : mAppend (.lst (m.map T.int)) [.int v] = some (.lst ((m ++ [v]).map T.int), .non) := by
  rw [Ev.app_eq, if_pos (by simpa using h)]; simp
theorem lay_turn (ns : List Int) {a : Int} (ha : 0 ≤ a) (s h : Int) (m : List Int) (hm : m.length ≤ 1000) (hnd : m.Nodup) (hlo : ∀ i ∈ m, 0 ≤ i ∧ i ≤ 5) (z0 z2 z3 z5 z6 z7 z8 z9 z10 z11 z12 z13 z14 : Sl) :
    ∃ a' s' h' v m', 0 ≤ a' ∧ m'.Nodup ∧ (∀ i ∈ m', 0 ≤ i ∧ i ≤ 5) ∧ m'.length ≤ m.length + 1 ∧ m' ≠ [] ∧ blaw1 [z0, .own none (rowT ns a s h), z2, z3, .own none (.lst (m.map T.int)), z5, z6, z7, z8, z9, z10, z11, z12, z13, z14] = .nx [z0, .own none (rowT ns a' s' h'), z2, z3, .own none (.lst (m'.map T.int)), z5, .fz (.int v), z7, z8, z9, z10, z11, z12, z13, z14] := by
  obtain ⟨a', s', h', v, b, p1, p2, p3, p4, e⟩ := two_calls ns ha s h (bs := [3, 6]) (by decide) (by decide) (by decide) (fl := fLst (fACons (fC (.int 3)) (fACons (fC (.int 6)) fANil))) (ρ := [z0, .own none (rowT ns a s h), z2, z3, .own none (.lst (m.map T.int)), z5, z6, z7, z8, z9, z10, z11, z12, z13, z14]) (fun r _ => rfl) rfl
  have hv : 0 ≤ v ∧ v ≤ 5 := by
    refine ⟨p3, ?_⟩
    simp only [List.mem_cons, List.not_mem_nil, or_false] at p2
    rcases p2 with rfl | rfl <;> omega
  have c1 := cNotIn_ints v m
  by_cases hin : v ∈ m
  · refine ⟨a', s', h', v, m, p1, hnd, hlo, by omega, fun z => by (subst z; cases hin), ?_⟩
    unfold blaw1
    simp only [hin, decide_true, Bool.not_true] at c1
    simp only [Ev.ap_seq, Ev.ap_set, e, Ev.o_ok, Ev.put_fz, Ev.after_nx, List.set_cons_zero, List.set_cons_succ, Ev.ap_gif, Ev.ap_cmp, Ev.ap_var, List.getElem?_cons_zero, List.getElem?_cons_succ, Ev.norm_fz, Ev.norm_bor, Ev.bind_ok, Ev.look2_eq, Ev.look_fz, Ev.look_bor, c1, Ev.ofB_some, Bool.false_eq_true, if_false, Ev.ap_gnil]
  · refine ⟨a', s', h', v, m ++ [v], p1, ?_, ?_, by simp, by simp, ?_⟩
    · rw [List.nodup_append]
      exact ⟨hnd, by simp, fun x hx y hy => by rw [List.mem_singleton.mp hy]; rintro rfl; exact hin hx⟩
    · intro i hi
      rcases List.mem_append.mp hi with hi | hi
      · exact hlo i hi
      · rw [List.mem_singleton.mp hi]; exact hv
    · unfold blaw1
      simp only [hin, decide_false, Bool.not_false] at c1
      have c2 := app_ints m v (by omega)
      simp only [Ev.ap_seq, Ev.ap_set, e, Ev.o_ok, Ev.put_fz, Ev.after_nx, List.set_cons_zero, List.set_cons_succ, Ev.ap_gif, Ev.ap_cmp, Ev.ap_var, List.getElem?_cons_zero, List.getElem?_cons_succ, Ev.norm_fz, Ev.norm_bor, Ev.bind_ok, Ev.look2_eq, Ev.look_fz, Ev.look_bor, c1, Ev.ofB_some, if_true, Ev.ap_drop, Ev.ap_gd, Ev.ownT_eq, Ev.isL_lst, Ev.ap_mut, Ev.ap_esc, Ev.ap_cons, Ev.ap_nil, Ev.escs_cons, Ev.escs_nil, Ev.esc1_fz, c2]
theorem lay_in (ns : List Int) (z0 z2 z3 z7 z8 z9 z10 z11 z12 z13 z14 : Sl) : ∀ (ts : List T) (a s h : Int) (m : List Int) (z5 z6 : Sl), 0 ≤ a → m.length + ts.length ≤ 1000 → m.Nodup → (∀ i ∈ m, 0 ≤ i ∧ i ≤ 5) →
    ∃ (a' s' h' : Int) (m' : List Int) (z5' z6' : Sl), 0 ≤ a' ∧ m'.Nodup ∧ (∀ i ∈ m', 0 ≤ i ∧ i ≤ 5) ∧ m'.length ≤ m.length + ts.length ∧ (m ≠ [] ∨ ts ≠ [] → m' ≠ []) ∧ forL (bName 5) blaw1 ts [z0, .own none (rowT ns a s h), z2, z3, .own none (.lst (m.map T.int)), z5, z6, z7, z8, z9, z10, z11, z12, z13, z14] = .nx [z0, .own none (rowT ns a' s' h'), z2, z3, .own none (.lst (m'.map T.int)), z5', z6', z7, z8, z9, z10, z11, z12, z13, z14]
  | [], a, s, h, m, z5, z6, ha, hl, hn, hm => ⟨a, s, h, m, z5, z6, ha, hn, hm, by simp, fun z => by simpa using z, rfl⟩
  | t :: ts, a, s, h, m, z5, z6, ha, hl, hn, hm => by
    have hl' : m.length + (ts.length + 1) ≤ 1000 := hl
    obtain ⟨a1, s1, h1, v, m1, p1, p2, p3, p4, p5, e⟩ := lay_turn ns ha s h m (by omega) hn hm z0 z2 z3 (.fz t) z6 z7 z8 z9 z10 z11 z12 z13 z14
    obtain ⟨a2, s2, h2, m2, u5, u6, q1, q2, q3, q4, q5, ih⟩ := lay_in ns z0 z2 z3 z7 z8 z9 z10 z11 z12 z13 z14 ts a1 s1 h1 m1 (.fz t) (.fz (.int v)) p1 (by omega) p2 p3
    refine ⟨a2, s2, h2, m2, u5, u6, q1, q2, q3, by simp; omega, fun _ => q5 (.inl p5), ?_⟩
    have eb : bName 5 t [z0, .own none (rowT ns a s h), z2, z3, .own none (.lst (m.map T.int)), z5, z6, z7, z8, z9, z10, z11, z12, z13, z14] = some [z0, .own none (rowT ns a s h), z2, z3, .own none (.lst (m.map T.int)), .fz t, z6, z7, z8, z9, z10, z11, z12, z13, z14] := rfl
    simp only [forL, eb, e, ih]
theorem app_tI (L : List (List Int)) (m : List Int) (h : L.length ≤ 1000000) : mAppend (.lst (L.map tI)) [tI m] = some (.lst ((L ++ [m]).map tI), .non) := by
  rw [Ev.app_eq, if_pos (by simpa using h)]; simp
theorem one_call (ns : List Int) {a : Int} (ha : 0 ≤ a) (s h : Int) {b : Int} (hb : 0 < b ∧ b ≤ 9) {ρ : FX.Env} (er : ρ[1]? = some (.own none (rowT ns a s h))) :
    ∃ a' s' h' v, 0 ≤ a' ∧ 0 ≤ v ∧ v < b ∧ fCallM m__law_taken (fACons (fVar 1) (fACons (fC (.int b)) fANil)) ρ = .ok (.fz (.int v)) (ρ.set 1 (.own none (rowT ns a' s' h'))) := by
  obtain ⟨a2, s2, h2, v, q1, q2, q3, q4⟩ := taken_ok ns ha s h (m := b) hb.1 (by omega)
  refine ⟨a2, s2, h2, v, q1, q2, q3, ?_⟩
  have v1 : fVar 1 ρ = .ok (.bor 1) ρ := by rw [Ev.ap_var, er]
  have e3 : fACons (fVar 1) (fACons (fC (.int b)) fANil) ρ = .ok [.bor 1, .fz (.int b)] ρ := by
    rw [Ev.ap_cons, v1, Ev.norm_bor, Ev.bind_ok, Ev.ap_cons, Ev.ap_c]; rfl
  exact callM2 (g := m__law_taken) e3 (ρ2 := ρ) rfl er q4
theorem range_nat {n : Int} (h : 0 ≤ n) (ρ : FX.Env) (f : FX.Env → R (List Vl)) (ρ' : FX.Env) (hf : f ρ = .ok [.fz (.int n)] ρ') (h2 : n ≤ 1000000) : ∃ ts : List T, ts.length = n.toNat ∧ fRange1 f ρ = .ok ts ρ' := by
  refine ⟨FX.rangeT 0 n, by simp [FX.rangeT], ?_⟩
  rw [Ev.ap_range1, hf, Ev.bind_ok]
  dsimp only
  rw [if_pos]
  unfold okR
  simp only [Bool.and_eq_true, decide_eq_true_eq]
  omega
theorem lay_turn2 (ns : List Int) {a : Int} (ha : 0 ≤ a) (s h : Int) (L : List (List Int)) (hL : L.length ≤ 1000) (z0 z3 z4 z5 z6 z7 z8 z9 z10 z11 z12 z13 z14 : Sl) :
    ∃ a' s' h' m u4 u5 u6, 0 ≤ a' ∧ Lay m ∧ m.length ≤ 4 ∧ blaw0 [z0, .own none (rowT ns a s h), .own none (.lst (L.map tI)), z3, z4, z5, z6, z7, z8, z9, z10, z11, z12, z13, z14] = .nx [z0, .own none (rowT ns a' s' h'), .own none (.lst ((L ++ [m]).map tI)), z3, u4, u5, u6, z7, z8, z9, z10, z11, z12, z13, z14] := by
  obtain ⟨a1, s1, h1, v, p1, p2, p3, e⟩ := one_call ns ha s h (b := 4) (by decide) (ρ := [z0, .own none (rowT ns a s h), .own none (.lst (L.map tI)), z3, .own none (.lst []), z5, z6, z7, z8, z9, z10, z11, z12, z13, z14]) rfl
  have e1 : fACons (fBin aAdd (fC (.int 1)) (fCallM m__law_taken (fACons (fVar 1) (fACons (fC (.int 4)) fANil)))) fANil [z0, .own none (rowT ns a s h), .own none (.lst (L.map tI)), z3, .own none (.lst []), z5, z6, z7, z8, z9, z10, z11, z12, z13, z14] = .ok [.fz (.int (1 + v))] [z0, .own none (rowT ns a1 s1 h1), .own none (.lst (L.map tI)), z3, .own none (.lst []), z5, z6, z7, z8, z9, z10, z11, z12, z13, z14] := by
    simp only [Ev.ap_cons, Ev.ap_bin, Ev.ap_c, Ev.norm_fz, Ev.bind_ok, e, Ev.look2_eq, Ev.look_fz, add_int, Ev.of_fz, Ev.ap_nil, List.set_cons_zero, List.set_cons_succ]
  obtain ⟨ts, t1, e2⟩ := range_nat (by omega) _ _ _ e1 (by omega)
  obtain ⟨a2, s2, h2, m, u5, u6, q1, q2, q3, q4, q5, e3⟩ := lay_in ns z0 (.own none (.lst (L.map tI))) z3 z7 z8 z9 z10 z11 z12 z13 z14 ts a1 s1 h1 [] z5 z6 p1 (by simp; omega) List.nodup_nil (fun i hi => by cases hi)
  have hts : ts ≠ [] := fun z => by subst z; simp at t1; omega
  refine ⟨a2, s2, h2, m, .own none (.lst (m.map T.int)), u5, u6, q1, ⟨q5 (.inr hts), q2, q3⟩, by simp at q4; omega, ?_⟩
  have c2 := app_tI L m (by omega)
  have bt : bTuple [.lst (m.map T.int)] = some (.fz (tI m)) := rfl
  unfold blaw1 at e3
  unfold blaw0
  simp only [List.map_nil] at e3
  simp only [Ev.ap_seq, Ev.ap_set, Ev.ap_lst, Ev.ap_esc, Ev.ap_nil, Ev.bind_ok, Ev.escs_nil, Ev.lim_eq, List.length_nil, Nat.zero_le, if_true, Ev.of_own, Ev.o_ok, Ev.put_own, Ev.after_nx, List.set_cons_zero, List.set_cons_succ, Ev.ap_for, e2, e3, Ev.ap_drop, Ev.ap_gd, Ev.ownT_eq, List.getElem?_cons_zero, List.getElem?_cons_succ, Ev.isL_lst, Ev.ap_mut, Ev.ap_cons, Ev.ap_cb, Ev.ap_var, Ev.norm_bor, Ev.looks_cons, Ev.looks_nil, Ev.look_bor, Option.bind_some, bt, Ev.of_fz, Ev.norm_fz, Ev.escs_cons, Ev.esc1_fz, c2]
theorem lay_out (ns : List Int) (z0 z7 z8 z9 z10 z11 z12 z13 z14 : Sl) : ∀ (ts : List T) (a s h : Int) (L : List (List Int)) (z3 z4 z5 z6 : Sl), 0 ≤ a → L.length + ts.length ≤ 1000 → (∀ l ∈ L, Lay l ∧ l.length ≤ 4) →
    ∃ (a' s' h' : Int) (L' : List (List Int)) (u3 u4 u5 u6 : Sl), 0 ≤ a' ∧ (∀ l ∈ L', Lay l ∧ l.length ≤ 4) ∧ L'.length ≤ L.length + ts.length ∧ forL (bName 3) blaw0 ts [z0, .own none (rowT ns a s h), .own none (.lst (L.map tI)), z3, z4, z5, z6, z7, z8, z9, z10, z11, z12, z13, z14] = .nx [z0, .own none (rowT ns a' s' h'), .own none (.lst (L'.map tI)), u3, u4, u5, u6, z7, z8, z9, z10, z11, z12, z13, z14]
  | [], a, s, h, L, z3, z4, z5, z6, ha, hl, hL => ⟨a, s, h, L, z3, z4, z5, z6, ha, hL, by simp, rfl⟩
  | t :: ts, a, s, h, L, z3, z4, z5, z6, ha, hl, hL => by
    have hl' : L.length + (ts.length + 1) ≤ 1000 := hl
    obtain ⟨a1, s1, h1, m, v4, v5, v6, p1, p2, p3, e⟩ := lay_turn2 ns ha s h L (by omega) z0 (.fz t) z4 z5 z6 z7 z8 z9 z10 z11 z12 z13 z14
    obtain ⟨a2, s2, h2, L2, u3, u4, u5, u6, q1, q2, q3, ih⟩ := lay_out ns z0 z7 z8 z9 z10 z11 z12 z13 z14 ts a1 s1 h1 (L ++ [m]) (.fz t) v4 v5 v6 p1 (by simp; omega) (fun l hl => by
      rcases List.mem_append.mp hl with hl | hl
      · exact hL l hl
      · rw [List.mem_singleton.mp hl]; exact ⟨p2, p3⟩)
    refine ⟨a2, s2, h2, L2, u3, u4, u5, u6, q1, q2, by simp at q3 ⊢; omega, ?_⟩
    have eb : bName 3 t [z0, .own none (rowT ns a s h), .own none (.lst (L.map tI)), z3, z4, z5, z6, z7, z8, z9, z10, z11, z12, z13, z14] = some [z0, .own none (rowT ns a s h), .own none (.lst (L.map tI)), .fz t, z4, z5, z6, z7, z8, z9, z10, z11, z12, z13, z14] := rfl
    simp only [forL, eb, e, ih]
/-- the layers -/
theorem st2_ok (ns : List Int) : ∃ (a s h : Int) (L : List (List Int)) (u3 u4 u5 u6 : Sl), 0 ≤ a ∧ (∀ l ∈ L, Lay l ∧ l.length ≤ 4) ∧ L.length ≤ 8 ∧ slaw2 [.fz (.seq (ns.map .int)), .own none (rowT ns 0 124 0), .own none (.lst []), .un, .un, .un, .un, .un, .un, .un, .un, .un, .un, .un, .un] = .nx [.fz (.seq (ns.map .int)), .own none (rowT ns a s h), .own none (.lst (L.map tI)), u3, u4, u5, u6, .un, .un, .un, .un, .un, .un, .un, .un] := by
  obtain ⟨a', s', h', v, b, p1, p2, p3, p4, e⟩ := two_calls ns (a := 0) (by decide) 124 0 (bs := [3, 6, 9]) (by decide) (by decide) (by decide) (fl := fLst (fACons (fC (.int 3)) (fACons (fC (.int 6)) (fACons (fC (.int 9)) fANil)))) (ρ := [.fz (.seq (ns.map .int)), .own none (rowT ns 0 124 0), .own none (.lst []), .un, .un, .un, .un, .un, .un, .un, .un, .un, .un, .un, .un]) (fun r _ => rfl) rfl
  have hv : v ≤ 8 := by
    simp only [List.mem_cons, List.not_mem_nil, or_false] at p2
    rcases p2 with rfl | rfl | rfl <;> omega
  have e1 : fACons (fCallM m__law_taken (fACons (fVar 1) (fACons (fCallM m__law_pick (fACons (fVar 1) (fACons (fLst (fACons (fC (.int 3)) (fACons (fC (.int 6)) (fACons (fC (.int 9)) fANil)))) fANil))) fANil))) fANil [.fz (.seq (ns.map .int)), .own none (rowT ns 0 124 0), .own none (.lst []), .un, .un, .un, .un, .un, .un, .un, .un, .un, .un, .un, .un] = .ok [.fz (.int v)] [.fz (.seq (ns.map .int)), .own none (rowT ns a' s' h'), .own none (.lst []), .un, .un, .un, .un, .un, .un, .un, .un, .un, .un, .un, .un] := by
    rw [Ev.ap_cons, e, Ev.norm_fz, Ev.bind_ok, Ev.ap_nil]; rfl
  obtain ⟨ts, t1, e2⟩ := range_nat p3 _ _ _ e1 (by omega)
  obtain ⟨a2, s2, h2, L, u3, u4, u5, u6, q1, q2, q3, e3⟩ := lay_out ns (.fz (.seq (ns.map .int))) .un .un .un .un .un .un .un .un ts a' s' h' [] .un .un .un .un p1 (by simp; omega) (fun l hl => by cases hl)
  refine ⟨a2, s2, h2, L, u3, u4, u5, u6, q1, q2, by simp at q3; omega, ?_⟩
  unfold blaw0 at e3
  unfold slaw2
  rw [Ev.ap_for, e2, Ev.o_ok]
  exact e3
end K24
end

section
set_option Elab.async false
set_option linter.all false
set_option maxRecDepth 100000
set_option maxHeartbeats 1000000
namespace K24
open PySem PySem.Spec PyProof.Rows L2 FX

abbrev G0 (L : List (List Int)) : List (List Int) := greedy (-1) L
abbrev bstL (L : List (List Int)) : Rr := (tot (-1) (G0 L), G0 L)
def LayL (L : List (List Int)) : Prop := (∀ l ∈ L, Lay l ∧ l.length ≤ 4) ∧ L.length ≤ 8
theorem LayL.lay {L : List (List Int)} (h : LayL L) : ∀ l ∈ L, Lay l := fun l hl => (h.1 l hl).1
theorem fit_self : ∀ L : List (List Int), Fit L L
  | [] => trivial
  | l :: L => ⟨.refl _, fit_self L⟩
theorem fit_le4 : ∀ {S L : List (List Int)}, Fit S L → (∀ l ∈ L, l.length ≤ 4) → ∀ o ∈ S, o.length ≤ 4
  | [], [], _, _ => fun o h => by cases h
  | o :: S, l :: L, h, hL => fun q hq => by
    rcases List.mem_cons.mp hq with z | z
    · subst z; rw [h.1.length_eq]; exact hL l List.mem_cons_self
    · exact fit_le4 h.2 (fun m hm => hL m (List.mem_cons_of_mem _ hm)) q z
  | [], l :: L, h, _ => h.elim
  | o :: S, [], h, _ => h.elim
theorem flat_le : ∀ {S : List (List Int)}, (∀ o ∈ S, o.length ≤ 4) → S.flatten.length ≤ 4 * S.length
  | [], _ => by simp
  | o :: S, h => by
    have h1 := h o List.mem_cons_self
    have h2 := flat_le (S := S) fun q hq => h q (List.mem_cons_of_mem _ hq)
    rw [List.flatten_cons, List.length_append, List.length_cons]; omega
theorem cEq_tC (c d : Rr) : cEq (tC c) (tC d) = some (decide (c = d)) := by
  unfold cEq
  rw [toD_tC, toD_tC]
  dsimp only
  rw [if_pos ⟨sh_cand _ _, sh_cand _ _⟩]
  obtain ⟨c1, c2⟩ := c
  obtain ⟨d1, d2⟩ := d
  simp only [dC, PyData.eqv, PyData.eqvAll, eqv_dII]
  by_cases h1 : c1 = d1 <;> by_cases h2 : c2 = d2 <;> simp [h1, h2]
theorem cNe_tC (c : Rr) : cNe (tC c) (tC c) = some false := by simp [cNe, cEq_tC]
variable {S0 r u3 u4 u5 u6 z8 z9 z10 z11 z13 z14 : Sl}
theorem st3_ok {L : List (List Int)} (h : LayL L) : slaw3 [S0, r, .own none (.lst (L.map tI)), u3, u4, u5, u6, .un, .un, .un, .un, .un, .un, .un, .un] = .nx [S0, r, .fz (.lst (L.map tI)), u3, u4, u5, u6, .fz (tC (bstL L)), .un, .un, .un, .un, .un, .un, .un] := by
  have e := best_ok h.1 (by have := h.2; omega)
  unfold slaw3
  simp only [Ev.bind_ok, Ev.bind_err, Ev.map_ok, Ev.map_err, Ev.norm_fz, Ev.norm_own, Ev.norm_bor, Ev.norm_err, Ev.of_fz, Ev.of_own, Ev.ofB_some, Ev.o_ok, Ev.o_err, Ev.after_nx, Ev.after_rt, Ev.after_er, Ev.look_fz, Ev.look_bor, Ev.looks_nil, Ev.looks_cons, Ev.look2_eq, Ev.esc1_fz, Ev.esc1_bor, Ev.escs_nil, Ev.escs_cons, Ev.ap_var, Ev.ap_c, Ev.ap_nil, Ev.ap_cons, Ev.ap_star, Ev.ap_cb, Ev.ap_bin, Ev.ap_cmp, Ev.gcm_eq, Ev.ap_tru, Ev.tru_bl, Ev.ap_and, Ev.ap_or, Ev.ap_not, Ev.ap_andv, Ev.ap_orv, Ev.ap_notv, Ev.ap_if, Ev.ap_esc, Ev.ap_tup, Ev.ap_lst, Ev.lim_eq, Ev.ap_call, Ev.r_fz, Ev.r_own, Ev.r_err, Ev.ap_v, Ev.ap_chain, Ev.ap_neg, Ev.ap_items, Ev.items_tup, Ev.items_lst, Ev.ap_yes, Ev.ap_lc, Ev.ap_dc, Ev.ap_rev, Ev.ap_dk, Ev.ap_dn, Ev.ap_none, Ev.ap_some, Ev.ap_cut, Ev.ap_enum, Ev.ap_zip, Ev.ap_range1, Ev.ap_range2, Ev.ap_callM, Ev.ownT_eq, Ev.ap_gd, Ev.ap_mut, Ev.isL_lst, Ev.app_eq, Ev.ap_seq, Ev.ap_gif, Ev.ap_set, Ev.put_fz, Ev.put_own, Ev.put_bor, Ev.ap_ret, Ev.ap_drop, Ev.ap_gnil, Ev.ap_raise, Ev.ap_for, Ev.ap_aug, Ev.ap_asg, Ev.ap_store, Ev.ap_bname, Ev.ap_bnil, Ev.ap_bcons, Ev.ap_btup, Ev.end_rt, Ev.end_own, Ev.end_nx, Ev.end_er, Ev.end_bor, Ev.vl_fz, Ev.vl_own, List.getElem?_cons_zero, List.getElem?_cons_succ, List.set_cons_zero, List.set_cons_succ, e]
theorem g_lay {L : List (List Int)} (h : LayL L) : Fit (G0 L) L ∧ (∀ o ∈ G0 L, Lay o) ∧ (G0 L).length ≤ 8 ∧ (∀ o ∈ G0 L, o.length ≤ 4) := by
  obtain ⟨g1, _, _⟩ := greedy_ok L (-1) h.lay
  exact ⟨g1, fit_lay g1 h.lay, by rw [fit_len g1]; exact h.2, fit_le4 g1 fun l hl => (h.1 l hl).2⟩
theorem st4_ok {L : List (List Int)} (h : LayL L) : slaw4 [S0, r, .fz (.lst (L.map tI)), u3, u4, u5, u6, .fz (tC (bstL L)), .un, .un, .un, .un, .un, .un, .un] = .nx [S0, r, .fz (.lst (L.map tI)), u3, u4, u5, u6, .fz (tC (bstL L)), .un, .un, .un, .un, .un, .un, .un] := by
  obtain ⟨g1, g2, g3, g4⟩ := g_lay h
  have hL := h.2
  have e1 : m_fewest_swaps [.tup (L.map tI)] = .ok (.fz (tC (bstL L))) := fewest_ok (.inr rfl) h.lay (by omega)
  have e2 := swaps_of_ok (c := tII (G0 L)) (.inr rfl) g2 (by omega)
  rw [told_eq g2] at e2
  have e3 := alike_tC (tot (-1) (G0 L)) (G0 L) (by omega) (fun o ho => by have := g4 o ho; omega)
  have e4 := alike_int 9 (tot (-1) (G0 L))
  have b1 : bTuple [.lst (L.map tI)] = some (.fz (.tup (L.map tI))) := rfl
  have i1 : aIx (tC (bstL L)) (.int 1) = some (.fz (tII (G0 L))) := rfl
  have i0 : aIx (tC (bstL L)) (.int 0) = some (.fz (.int (tot (-1) (G0 L)))) := rfl
  unfold slaw4
  simp only [Ev.bind_ok, Ev.bind_err, Ev.map_ok, Ev.map_err, Ev.norm_fz, Ev.norm_own, Ev.norm_bor, Ev.norm_err, Ev.of_fz, Ev.of_own, Ev.ofB_some, Ev.o_ok, Ev.o_err, Ev.after_nx, Ev.after_rt, Ev.after_er, Ev.look_fz, Ev.look_bor, Ev.looks_nil, Ev.looks_cons, Ev.look2_eq, Ev.esc1_fz, Ev.esc1_bor, Ev.escs_nil, Ev.escs_cons, Ev.ap_var, Ev.ap_c, Ev.ap_nil, Ev.ap_cons, Ev.ap_star, Ev.ap_cb, Ev.ap_bin, Ev.ap_cmp, Ev.gcm_eq, Ev.ap_tru, Ev.tru_bl, Ev.ap_and, Ev.ap_or, Ev.ap_not, Ev.ap_andv, Ev.ap_orv, Ev.ap_notv, Ev.ap_if, Ev.ap_esc, Ev.ap_tup, Ev.ap_lst, Ev.lim_eq, Ev.ap_call, Ev.r_fz, Ev.r_own, Ev.r_err, Ev.ap_v, Ev.ap_chain, Ev.ap_neg, Ev.ap_items, Ev.items_tup, Ev.items_lst, Ev.ap_yes, Ev.ap_lc, Ev.ap_dc, Ev.ap_rev, Ev.ap_dk, Ev.ap_dn, Ev.ap_none, Ev.ap_some, Ev.ap_cut, Ev.ap_enum, Ev.ap_zip, Ev.ap_range1, Ev.ap_range2, Ev.ap_callM, Ev.ownT_eq, Ev.ap_gd, Ev.ap_mut, Ev.isL_lst, Ev.app_eq, Ev.ap_seq, Ev.ap_gif, Ev.ap_set, Ev.put_fz, Ev.put_own, Ev.put_bor, Ev.ap_ret, Ev.ap_drop, Ev.ap_gnil, Ev.ap_raise, Ev.ap_for, Ev.ap_aug, Ev.ap_asg, Ev.ap_store, Ev.ap_bname, Ev.ap_bnil, Ev.ap_bcons, Ev.ap_btup, Ev.end_rt, Ev.end_own, Ev.end_nx, Ev.end_er, Ev.end_bor, Ev.vl_fz, Ev.vl_own, List.getElem?_cons_zero, List.getElem?_cons_succ, List.set_cons_zero, List.set_cons_succ, Option.bind_some, b1, e1, e3, Bool.not_true, Bool.false_eq_true, if_false, i1, i0, e2, e4]
theorem st5_ok {L : List (List Int)} (h : LayL L) : slaw5 [S0, r, .fz (.lst (L.map tI)), u3, u4, u5, u6, .fz (tC (bstL L)), .un, .un, .un, .un, .un, .un, .un] = .nx [S0, r, .fz (.lst (L.map tI)), u3, u4, u5, u6, .fz (tC (bstL L)), .un, .un, .un, .un, .un, .un, .un] := by
  have hL := h.2
  have e1 := swaps_of_ok (c := .lst (L.map tI)) (.inl rfl) h.lay (by omega)
  have e2 := count_ok (c := .lst (L.map tI)) (.inl rfl) (by have := flat_le fun l hl => (h.1 l hl).2; omega)
  have e3 := alike_int 9 (told L)
  have i0 : aIx (tC (bstL L)) (.int 0) = some (.fz (.int (tot (-1) (G0 L)))) := rfl
  have lt : cLt (.int (told L)) (.int (tot (-1) (G0 L))) = some false := by
    rw [cLt_int]
    obtain ⟨_, g2, g3⟩ := greedy_ok L (-1) h.lay
    have g4 := (g3 L (fit_self L)).1
    rw [told_eq h.lay]
    have : ¬ tot (-1) L < tot (-1) (G0 L) := by
      show ¬ tot (-1) L < tot (-1) (greedy (-1) L)
      omega
    simp [this]
  unfold slaw5
  simp only [Ev.bind_ok, Ev.bind_err, Ev.map_ok, Ev.map_err, Ev.norm_fz, Ev.norm_own, Ev.norm_bor, Ev.norm_err, Ev.of_fz, Ev.of_own, Ev.ofB_some, Ev.o_ok, Ev.o_err, Ev.after_nx, Ev.after_rt, Ev.after_er, Ev.look_fz, Ev.look_bor, Ev.looks_nil, Ev.looks_cons, Ev.look2_eq, Ev.esc1_fz, Ev.esc1_bor, Ev.escs_nil, Ev.escs_cons, Ev.ap_var, Ev.ap_c, Ev.ap_nil, Ev.ap_cons, Ev.ap_star, Ev.ap_cb, Ev.ap_bin, Ev.ap_cmp, Ev.gcm_eq, Ev.ap_tru, Ev.tru_bl, Ev.ap_and, Ev.ap_or, Ev.ap_not, Ev.ap_andv, Ev.ap_orv, Ev.ap_notv, Ev.ap_if, Ev.ap_esc, Ev.ap_tup, Ev.ap_lst, Ev.lim_eq, Ev.ap_call, Ev.r_fz, Ev.r_own, Ev.r_err, Ev.ap_v, Ev.ap_chain, Ev.ap_neg, Ev.ap_items, Ev.items_tup, Ev.items_lst, Ev.ap_yes, Ev.ap_lc, Ev.ap_dc, Ev.ap_rev, Ev.ap_dk, Ev.ap_dn, Ev.ap_none, Ev.ap_some, Ev.ap_cut, Ev.ap_enum, Ev.ap_zip, Ev.ap_range1, Ev.ap_range2, Ev.ap_callM, Ev.ownT_eq, Ev.ap_gd, Ev.ap_mut, Ev.isL_lst, Ev.app_eq, Ev.ap_seq, Ev.ap_gif, Ev.ap_set, Ev.put_fz, Ev.put_own, Ev.put_bor, Ev.ap_ret, Ev.ap_drop, Ev.ap_gnil, Ev.ap_raise, Ev.ap_for, Ev.ap_aug, Ev.ap_asg, Ev.ap_store, Ev.ap_bname, Ev.ap_bnil, Ev.ap_bcons, Ev.ap_btup, Ev.end_rt, Ev.end_own, Ev.end_nx, Ev.end_er, Ev.end_bor, Ev.vl_fz, Ev.vl_own, List.getElem?_cons_zero, List.getElem?_cons_succ, List.set_cons_zero, List.set_cons_succ, Option.bind_some, e1, e2, e3, Bool.not_true, Bool.false_eq_true, if_false, i0, lt]
/-- the least of all sequences -/
theorem all_min {L : List (List Int)} (h : LayL L) {F : List (List (List Int))} (hF : ∀ S, S ∈ F ↔ Fit S L) : F.map (fun S => (told S, S)) ≠ [] ∧ mnC (F.map fun S => (told S, S)) = bstL L := by
  obtain ⟨g1, g2, g3, g4⟩ := g_lay h
  have hg := (hF _).mpr g1
  have ne : F.map (fun S => (told S, S)) ≠ [] := fun z => by
    have : F = [] := by simpa using z
    rw [this] at hg; cases hg
  refine ⟨ne, ?_⟩
  obtain ⟨m1, m2⟩ := mnC_ok ne
  obtain ⟨S, hS, e⟩ := List.mem_map.mp m1
  have f := (hF S).mp hS
  have b : bstL L ∈ F.map fun S => (told S, S) := List.mem_map.mpr ⟨G0 L, hg, by rw [told_eq g2]⟩
  refine least_one h.lay (by rw [← e]; exact f) (by rw [← e]; exact told_eq (fit_lay f h.lay)) (m2 _ b)
theorem lc_min {L : List (List Int)} (h : LayL L) {F : List (List (List Int))} (hF : ∀ S, S ∈ F ↔ Fit S L) (hn : F.length ≤ 20000) {y8 : Sl} : lcL [11] (bName 11) fYes (fTup (fACons (fCall m__law_count (fACons (fVar 11) fANil)) (fACons (fVar 11) fANil))) (F.map tII) [] [S0, r, .fz (.lst (L.map tI)), u3, u4, u5, u6, .fz (tC (bstL L)), y8, z9, z10, z11, .un, z13, z14] = .ok ((F.map fun S => (told S, S)).map tC) [S0, r, .fz (.lst (L.map tI)), u3, u4, u5, u6, .fz (tC (bstL L)), y8, z9, z10, z11, .un, z13, z14] := by
  have e1 := lcL_gen (vs := [11]) (b := bName 11) (ft := fYes) (fe := fTup (fACons (fCall m__law_count (fACons (fVar 11) fANil)) (fACons (fVar 11) fANil))) (ρ := [S0, r, .fz (.lst (L.map tI)), u3, u4, u5, u6, .fz (tC (bstL L)), y8, z9, z10, z11, .un, z13, z14]) tII (fun _ => true) (fun S => tC (told S, S)) F [] (fun S hS => by
    have f := (hF S).mp hS
    have f4 := flat_le (fit_le4 f fun l hl => (h.1 l hl).2)
    have fl := fit_len f
    have hL := h.2
    have e2 := count_ok (c := tII S) (.inr rfl) (by omega)
    refine ⟨[S0, r, .fz (.lst (L.map tI)), u3, u4, u5, u6, .fz (tC (bstL L)), y8, z9, z10, .fz (tII S), .un, z13, z14], rfl, rfl, fun _ => ?_, rfl⟩
    simp only [Ev.bind_ok, Ev.bind_err, Ev.map_ok, Ev.map_err, Ev.norm_fz, Ev.norm_own, Ev.norm_bor, Ev.norm_err, Ev.of_fz, Ev.of_own, Ev.ofB_some, Ev.o_ok, Ev.o_err, Ev.after_nx, Ev.after_rt, Ev.after_er, Ev.look_fz, Ev.look_bor, Ev.looks_nil, Ev.looks_cons, Ev.look2_eq, Ev.esc1_fz, Ev.esc1_bor, Ev.escs_nil, Ev.escs_cons, Ev.ap_var, Ev.ap_c, Ev.ap_nil, Ev.ap_cons, Ev.ap_star, Ev.ap_cb, Ev.ap_bin, Ev.ap_cmp, Ev.gcm_eq, Ev.ap_tru, Ev.tru_bl, Ev.ap_and, Ev.ap_or, Ev.ap_not, Ev.ap_andv, Ev.ap_orv, Ev.ap_notv, Ev.ap_if, Ev.ap_esc, Ev.ap_tup, Ev.ap_lst, Ev.lim_eq, Ev.ap_call, Ev.r_fz, Ev.r_own, Ev.r_err, Ev.ap_v, Ev.ap_chain, Ev.ap_neg, Ev.ap_items, Ev.items_tup, Ev.items_lst, Ev.ap_yes, Ev.ap_lc, Ev.ap_dc, Ev.ap_rev, Ev.ap_dk, Ev.ap_dn, Ev.ap_none, Ev.ap_some, Ev.ap_cut, Ev.ap_enum, Ev.ap_zip, Ev.ap_range1, Ev.ap_range2, Ev.ap_callM, Ev.ownT_eq, Ev.ap_gd, Ev.ap_mut, Ev.isL_lst, Ev.app_eq, Ev.ap_seq, Ev.ap_gif, Ev.ap_set, Ev.put_fz, Ev.put_own, Ev.put_bor, Ev.ap_ret, Ev.ap_drop, Ev.ap_gnil, Ev.ap_raise, Ev.ap_for, Ev.ap_aug, Ev.ap_asg, Ev.ap_store, Ev.ap_bname, Ev.ap_bnil, Ev.ap_bcons, Ev.ap_btup, Ev.end_rt, Ev.end_own, Ev.end_nx, Ev.end_er, Ev.end_bor, Ev.vl_fz, Ev.vl_own, List.getElem?_cons_zero, List.getElem?_cons_succ, e2, List.length_cons, List.length_nil, Nat.reduceAdd, Nat.reduceLeDiff, if_true]
    rfl) (by simp only [List.length_nil]; omega)
  have e2 : F.filter (fun _ => true) = F := by simp
  have e3 : F.map (fun S => tC (told S, S)) = (F.map fun S => (told S, S)).map tC := by simp
  rw [e2, List.nil_append, e3] at e1
  exact e1
theorem st6_ok {L : List (List Int)} (h : LayL L) : ∃ z8 z9 z10 z11, slaw6 [S0, r, .fz (.lst (L.map tI)), u3, u4, u5, u6, .fz (tC (bstL L)), .un, .un, .un, .un, .un, .un, .un] = .nx [S0, r, .fz (.lst (L.map tI)), u3, u4, u5, u6, .fz (tC (bstL L)), z8, z9, z10, z11, .un, .un, .un] := by
  have l0 : bLen [.lst (L.map tI)] = some (.fz (.int L.length)) := by rw [bLen_lst]; simp
  have c0 : cLt (.int (L.length : Int)) (.int 4) = some (decide ((L.length : Int) < 4)) := rfl
  by_cases h4 : (L.length : Int) < 4
  · obtain ⟨y8, y9, y10, y11, F, k1, k2, k3, e⟩ := br2 (z0 := S0) (z1 := r) (z2 := .fz (.lst (L.map tI))) (z3 := u3) (z4 := u4) (z5 := u5) (z6 := u6) (z7 := .fz (tC (bstL L))) (z13 := .un) (z14 := .un) L [] [[]] (.own none (.lst [.tup []])) .un .un .un h.1 (.inr rfl) (fun S => by
      constructor
      · intro z; rw [List.mem_singleton.mp z]; trivial
      · intro z
        cases S with
        | nil => simp
        | cons o S => exact z.elim) (by simp) (by simp; omega)
    have hn : F.length ≤ 20000 := by
      refine Nat.le_trans k3 ?_
      simp only [List.length_nil, Nat.zero_add]
      have : L.length ≤ 3 := by omega
      refine Nat.le_trans (Nat.pow_le_pow_right (by decide) this) (by decide)
    rw [List.nil_append] at k2
    obtain ⟨n1, n2⟩ := all_min h k2
    have e5 := bMin_tC n1
    rw [n2] at e5
    have e6 := cNe_tC (bstL L)
    have e7 := lc_min (S0 := S0) (r := r) (u3 := u3) (u4 := u4) (u5 := u5) (u6 := u6) (z9 := y9) (z10 := y10) (z11 := y11) (z13 := .un) (z14 := .un) (y8 := .fz (.lst (F.map tII))) h k2 hn
    have l1 : bLen [.lst (F.map tII)] = some (.fz (.int F.length)) := by rw [bLen_lst]; simp
    have c1 : cLt (.int (F.length : Int)) (.int 3000) = some (decide ((F.length : Int) < 3000)) := rfl
    unfold blaw2 at e
    unfold slaw6
    have hx : ∃ z8, (match y8 with | .fz (.lst x) => True | .own none (.lst x) => True | _ => False) ∧ z8 = y8 := ⟨y8, by rcases k1 with rfl | rfl <;> trivial, rfl⟩
    by_cases h3 : (F.length : Int) < 3000
    · refine ⟨.fz (.lst (F.map tII)), y9, y10, y11, ?_⟩
      rcases k1 with rfl | rfl <;>
      simp only [Ev.bind_ok, Ev.bind_err, Ev.map_ok, Ev.map_err, Ev.norm_fz, Ev.norm_own, Ev.norm_bor, Ev.norm_err, Ev.of_fz, Ev.of_own, Ev.ofB_some, Ev.o_ok, Ev.o_err, Ev.after_nx, Ev.after_rt, Ev.after_er, Ev.look_fz, Ev.look_bor, Ev.looks_nil, Ev.looks_cons, Ev.look2_eq, Ev.esc1_fz, Ev.esc1_bor, Ev.escs_nil, Ev.escs_cons, Ev.ap_var, Ev.ap_c, Ev.ap_nil, Ev.ap_cons, Ev.ap_star, Ev.ap_cb, Ev.ap_bin, Ev.ap_cmp, Ev.gcm_eq, Ev.ap_tru, Ev.tru_bl, Ev.ap_and, Ev.ap_or, Ev.ap_not, Ev.ap_andv, Ev.ap_orv, Ev.ap_notv, Ev.ap_if, Ev.ap_esc, Ev.ap_tup, Ev.ap_lst, Ev.lim_eq, Ev.ap_call, Ev.r_fz, Ev.r_own, Ev.r_err, Ev.ap_v, Ev.ap_chain, Ev.ap_neg, Ev.ap_items, Ev.items_tup, Ev.items_lst, Ev.ap_yes, Ev.ap_lc, Ev.ap_dc, Ev.ap_rev, Ev.ap_dk, Ev.ap_dn, Ev.ap_none, Ev.ap_some, Ev.ap_cut, Ev.ap_enum, Ev.ap_zip, Ev.ap_range1, Ev.ap_range2, Ev.ap_callM, Ev.ownT_eq, Ev.ap_gd, Ev.ap_mut, Ev.isL_lst, Ev.app_eq, Ev.ap_seq, Ev.ap_gif, Ev.ap_set, Ev.put_fz, Ev.put_own, Ev.put_bor, Ev.ap_ret, Ev.ap_drop, Ev.ap_gnil, Ev.ap_raise, Ev.ap_for, Ev.ap_aug, Ev.ap_asg, Ev.ap_store, Ev.ap_bname, Ev.ap_bnil, Ev.ap_bcons, Ev.ap_btup, Ev.end_rt, Ev.end_own, Ev.end_nx, Ev.end_er, Ev.end_bor, Ev.vl_fz, Ev.vl_own, List.getElem?_cons_zero, List.getElem?_cons_succ, List.set_cons_zero, List.set_cons_succ, Option.bind_some, l0, c0, h4, decide_true, if_true, List.length_nil, List.length_cons, Nat.zero_le, Nat.reduceAdd, Nat.reduceLeDiff, e, l1, c1, h3, e7, e5, e6, Bool.false_eq_true, if_false]
    · refine ⟨y8, y9, y10, y11, ?_⟩
      rcases k1 with rfl | rfl <;>
      simp only [Ev.bind_ok, Ev.bind_err, Ev.map_ok, Ev.map_err, Ev.norm_fz, Ev.norm_own, Ev.norm_bor, Ev.norm_err, Ev.of_fz, Ev.of_own, Ev.ofB_some, Ev.o_ok, Ev.o_err, Ev.after_nx, Ev.after_rt, Ev.after_er, Ev.look_fz, Ev.look_bor, Ev.looks_nil, Ev.looks_cons, Ev.look2_eq, Ev.esc1_fz, Ev.esc1_bor, Ev.escs_nil, Ev.escs_cons, Ev.ap_var, Ev.ap_c, Ev.ap_nil, Ev.ap_cons, Ev.ap_star, Ev.ap_cb, Ev.ap_bin, Ev.ap_cmp, Ev.gcm_eq, Ev.ap_tru, Ev.tru_bl, Ev.ap_and, Ev.ap_or, Ev.ap_not, Ev.ap_andv, Ev.ap_orv, Ev.ap_notv, Ev.ap_if, Ev.ap_esc, Ev.ap_tup, Ev.ap_lst, Ev.lim_eq, Ev.ap_call, Ev.r_fz, Ev.r_own, Ev.r_err, Ev.ap_v, Ev.ap_chain, Ev.ap_neg, Ev.ap_items, Ev.items_tup, Ev.items_lst, Ev.ap_yes, Ev.ap_lc, Ev.ap_dc, Ev.ap_rev, Ev.ap_dk, Ev.ap_dn, Ev.ap_none, Ev.ap_some, Ev.ap_cut, Ev.ap_enum, Ev.ap_zip, Ev.ap_range1, Ev.ap_range2, Ev.ap_callM, Ev.ownT_eq, Ev.ap_gd, Ev.ap_mut, Ev.isL_lst, Ev.app_eq, Ev.ap_seq, Ev.ap_gif, Ev.ap_set, Ev.put_fz, Ev.put_own, Ev.put_bor, Ev.ap_ret, Ev.ap_drop, Ev.ap_gnil, Ev.ap_raise, Ev.ap_for, Ev.ap_aug, Ev.ap_asg, Ev.ap_store, Ev.ap_bname, Ev.ap_bnil, Ev.ap_bcons, Ev.ap_btup, Ev.end_rt, Ev.end_own, Ev.end_nx, Ev.end_er, Ev.end_bor, Ev.vl_fz, Ev.vl_own, List.getElem?_cons_zero, List.getElem?_cons_succ, List.set_cons_zero, List.set_cons_succ, Option.bind_some, l0, c0, h4, decide_true, decide_false, if_true, List.length_nil, List.length_cons, Nat.zero_le, Nat.reduceAdd, Nat.reduceLeDiff, e, l1, c1, h3, Bool.false_eq_true, if_false]
  · refine ⟨.un, .un, .un, .un, ?_⟩
    unfold slaw6
    simp only [Ev.bind_ok, Ev.bind_err, Ev.map_ok, Ev.map_err, Ev.norm_fz, Ev.norm_own, Ev.norm_bor, Ev.norm_err, Ev.of_fz, Ev.of_own, Ev.ofB_some, Ev.o_ok, Ev.o_err, Ev.after_nx, Ev.after_rt, Ev.after_er, Ev.look_fz, Ev.look_bor, Ev.looks_nil, Ev.looks_cons, Ev.look2_eq, Ev.esc1_fz, Ev.esc1_bor, Ev.escs_nil, Ev.escs_cons, Ev.ap_var, Ev.ap_c, Ev.ap_nil, Ev.ap_cons, Ev.ap_star, Ev.ap_cb, Ev.ap_bin, Ev.ap_cmp, Ev.gcm_eq, Ev.ap_tru, Ev.tru_bl, Ev.ap_and, Ev.ap_or, Ev.ap_not, Ev.ap_andv, Ev.ap_orv, Ev.ap_notv, Ev.ap_if, Ev.ap_esc, Ev.ap_tup, Ev.ap_lst, Ev.lim_eq, Ev.ap_call, Ev.r_fz, Ev.r_own, Ev.r_err, Ev.ap_v, Ev.ap_chain, Ev.ap_neg, Ev.ap_items, Ev.items_tup, Ev.items_lst, Ev.ap_yes, Ev.ap_lc, Ev.ap_dc, Ev.ap_rev, Ev.ap_dk, Ev.ap_dn, Ev.ap_none, Ev.ap_some, Ev.ap_cut, Ev.ap_enum, Ev.ap_zip, Ev.ap_range1, Ev.ap_range2, Ev.ap_callM, Ev.ownT_eq, Ev.ap_gd, Ev.ap_mut, Ev.isL_lst, Ev.app_eq, Ev.ap_seq, Ev.ap_gif, Ev.ap_set, Ev.put_fz, Ev.put_own, Ev.put_bor, Ev.ap_ret, Ev.ap_drop, Ev.ap_gnil, Ev.ap_raise, Ev.ap_for, Ev.ap_aug, Ev.ap_asg, Ev.ap_store, Ev.ap_bname, Ev.ap_bnil, Ev.ap_bcons, Ev.ap_btup, Ev.end_rt, Ev.end_own, Ev.end_nx, Ev.end_er, Ev.end_bor, Ev.vl_fz, Ev.vl_own, List.getElem?_cons_zero, List.getElem?_cons_succ, Option.bind_some, l0, c0, h4, decide_false, Bool.false_eq_true, if_false]
end K24
end

section
set_option Elab.async false
set_option linter.all false
set_option maxRecDepth 100000
set_option maxHeartbeats 1000000
namespace K24
open PySem PySem.Spec PyProof.Rows L2 FX
theorem pick_call (ns : List Int) {a : Int} (ha : 0 ≤ a) (s h : Int) {xs : List T} (hx : xs ≠ []) (hl : xs.length < 1000000) {fl : FX.Env → R Vl} {ρ : FX.Env} (el : fl ρ = .ok (.own (.lst xs)) ρ) (er : ρ[1]? = some (.own none (rowT ns a s h))) :
    ∃ a' s' h' x, 0 ≤ a' ∧ x ∈ xs ∧ fCallM m__law_pick (fACons (fVar 1) (fACons fl fANil)) ρ = .ok (.fz x) (ρ.set 1 (.own none (rowT ns a' s' h'))) := by
  obtain ⟨a1, s1, h1, x, p1, p2, p3⟩ := pick_ok2 ns ha s h (xs := xs) hx hl
  refine ⟨a1, s1, h1, x, p1, p2, ?_⟩
  have v1 : fVar 1 ρ = .ok (.bor 1) ρ := by rw [Ev.ap_var, er]
  have e1 : fACons (fVar 1) (fACons fl fANil) ρ = .ok [.bor 1, .fz (.lst xs)] ρ := by
    rw [Ev.ap_cons, v1, Ev.norm_bor, Ev.bind_ok, Ev.ap_cons, el, Ev.norm_own, Ev.bind_ok]; rfl
  exact callM2 (g := m__law_pick) e1 (ρ2 := ρ) rfl er p3
variable {S0 u3 u4 u5 u6 z7 z8 z9 z10 z11 : Sl}
theorem st7_ok (ns : List Int) {a : Int} (ha : 0 ≤ a) (s h : Int) {L : List (List Int)} (hL : LayL L) : ∃ a' s' h' x, 0 ≤ a' ∧ x ∈ badL ∧ slaw7 [S0, .own none (rowT ns a s h), .fz (.lst (L.map tI)), u3, u4, u5, u6, z7, z8, z9, z10, z11, .un, .un, .un] = .nx [S0, .own none (rowT ns a' s' h'), .fz (.lst (L.map tI)), u3, u4, u5, u6, z7, z8, z9, z10, z11, .un, .own none (.lst (L.map tI ++ [x])), .un] := by
  obtain ⟨a', s', h', x, p1, p2, e⟩ := pick_call ns ha s h (xs := badL) (by decide) (by decide) (fl := fLst (fACons (fC .non) (fACons (fTup fANil) (fACons (fTup (fACons (fC (.int 6)) fANil)) (fACons (fTup (fACons (fC (.int 1)) (fACons (fC (.int 1)) fANil))) (fACons (fLst (fACons (fC (.int 1)) fANil)) (fACons (fTup (fACons (fC (.bl true)) fANil)) (fACons (fTup (fACons (fNeg (fC (.int 1))) fANil)) fANil)))))))) (ρ := [S0, .own none (rowT ns a s h), .fz (.lst (L.map tI)), u3, u4, u5, u6, z7, z8, z9, z10, z11, .un, .un, .un]) rfl rfl
  refine ⟨a', s', h', x, p1, p2, ?_⟩
  have a2 := add_lst (L.map tI) [x] (by have := hL.2; simp; omega)
  unfold slaw7
  simp only [Ev.ap_set, Ev.ap_bin, Ev.ap_var, List.getElem?_cons_zero, List.getElem?_cons_succ, Ev.norm_fz, Ev.bind_ok, Ev.ap_lst, Ev.ap_esc, Ev.ap_cons, Ev.ap_nil, e, Ev.escs_cons, Ev.escs_nil, Ev.esc1_fz, Ev.lim_eq, List.length_cons, List.length_nil, Nat.reduceAdd, Nat.reduceLeDiff, if_true, Ev.of_own, Ev.norm_own, Ev.look2_eq, Ev.look_fz, a2, Ev.o_ok, Ev.put_own, List.set_cons_zero, List.set_cons_succ]
theorem cEq_int1 : cNe (.tup [.str "stuffs", .int (-1)]) (.tup [.str "stuffs", .int (-1)]) = some false := by decide +kernel
theorem cNe_len (n : Int) : cNe (.tup [.str "stuffs", .int n]) (.tup [.str "stuffs", .int n]) = some false := by
  have h1 : SeqAt.shaped (.tuple [.str "stuffs", .int n]) = true := by simp [SeqAt.shaped, PyData.canLay0, PyData.canLayAll0, PyData.depth, PyData.depthAll]; decide +kernel
  unfold cNe cEq
  have e1 : (T.tup [.str "stuffs", .int n]).toD = some (.tuple [.str "stuffs", .int n]) := rfl
  rw [e1]
  dsimp only
  rw [if_pos ⟨h1, h1⟩]
  simp [PyData.eqv, PyData.eqvAll]
def bigL : List T := [.non, .int 5, .lst (List.replicate 201 [T.tup [.int 1]]).flatten]
theorem big_no {x : T} (h : x ∈ bigL) : m_check_layers [x] = .err ⟨"BadStuffs", [("value", .int (-1))]⟩ := by
  simp only [bigL, List.mem_cons, List.not_mem_nil, or_false] at h
  rcases h with rfl | rfl | rfl
  · exact chk1
  · exact chk2
  · exact chk_long (by simp)
theorem big_ev (ρ : FX.Env) : fLst (fACons (fC .non) (fACons (fC (.int 5)) (fACons (fBin aMul (fLst (fACons (fTup (fACons (fC (.int 1)) fANil)) fANil)) (fC (.int 201))) fANil))) ρ = .ok (.own (.lst bigL)) ρ := rfl
abbrev fBig : FX.Env → R Vl := fLst (fACons (fC .non) (fACons (fC (.int 5)) (fACons (fBin aMul (fLst (fACons (fTup (fACons (fC (.int 1)) fANil)) fANil)) (fC (.int 201))) fANil)))
theorem ref_err {cn w0 w1 : Str} {fb : FX.Env → R Vl} {ρ ρ1 : FX.Env} {t : T} (h : fb ρ = .err ⟨cn, [("value", t)]⟩ ρ1) : fRef cn w0 w1 fb ρ = .ok (.fz (.tup [.str w1, t])) ρ1 := by
  unfold fRef
  rw [h]
  simp
def bAsk : FX.Env → O := blaw4
theorem fn_err {c : T} {e : Ex} (h : m_check_layers [c] = .err e) : m_fewest_swaps [c] = .err e ∧ m_swaps_of [c] = .err e := ⟨fewest_err h, swaps_err h⟩
theorem ask_turn (ns : List Int) {a : Int} (ha : 0 ≤ a) (s h : Int) {L : List (List Int)} (hL : LayL L) {x : T} (hx : x ∈ badL) {fn : Str} (hf : fn = "fewest_swaps" ∨ fn = "swaps_of") {z13 : Sl} (h13 : z13 = .own none (.lst (L.map tI ++ [x])) ∨ z13 = .fz (.lst (L.map tI ++ [x]))) :
    ∃ a' s' h', 0 ≤ a' ∧ blaw4 [S0, .own none (rowT ns a s h), .fz (.lst (L.map tI)), u3, u4, u5, u6, z7, z8, z9, z10, z11, .un, z13, .fz (.fn fn)] = .nx [S0, .own none (rowT ns a' s' h'), .fz (.lst (L.map tI)), u3, u4, u5, u6, z7, z8, z9, z10, z11, .un, .fz (.lst (L.map tI ++ [x])), .fz (.fn fn)] := by
  obtain ⟨a', s', h', y, p1, p2, e⟩ := pick_call ns ha s h (xs := bigL) (by decide) (by decide) (fl := fBig) (ρ := [S0, .own none (rowT ns a s h), .fz (.lst (L.map tI)), u3, u4, u5, u6, z7, z8, z9, z10, z11, .un, .fz (.lst (L.map tI ++ [x])), .fz (.fn fn)]) (big_ev _) rfl
  unfold fBig at e
  refine ⟨a', s', h', p1, ?_⟩
  obtain ⟨b1, b2⟩ := fn_err (chk_last hL.lay (by have := hL.2; omega) hx)
  obtain ⟨c1, c2⟩ := fn_err (big_no p2)
  have l0 : bLen [.lst (L.map tI)] = some (.fz (.int L.length)) := by rw [bLen_lst]; simp
  have n1 := cNe_len (L.length : Int)
  have n2 := cNe_len (-1)
  have k1 : isFn 14 "fewest_swaps" [S0, .own none (rowT ns a s h), .fz (.lst (L.map tI)), u3, u4, u5, u6, z7, z8, z9, z10, z11, .un, z13, .fz (.fn fn)] = decide (fn = "fewest_swaps") := rfl
  have k2 : isFn 14 "swaps_of" [S0, .own none (rowT ns a s h), .fz (.lst (L.map tI)), u3, u4, u5, u6, z7, z8, z9, z10, z11, .un, z13, .fz (.fn fn)] = decide (fn = "swaps_of") := rfl
  have k3 : isFn 14 "fewest_swaps" [S0, .own none (rowT ns a s h), .fz (.lst (L.map tI)), u3, u4, u5, u6, z7, z8, z9, z10, z11, .un, .fz (.lst (L.map tI ++ [x])), .fz (.fn fn)] = decide (fn = "fewest_swaps") := rfl
  have k4 : isFn 14 "swaps_of" [S0, .own none (rowT ns a s h), .fz (.lst (L.map tI)), u3, u4, u5, u6, z7, z8, z9, z10, z11, .un, .fz (.lst (L.map tI ++ [x])), .fz (.fn fn)] = decide (fn = "swaps_of") := rfl
  have d1 : decide (("swaps_of" : Str) = "fewest_swaps") = false := by decide
  have q1 : fRef "BadStuffs" "" "stuffs" (fAlt (isFn 14 "fewest_swaps") (fCall m_fewest_swaps (fACons (fVar 13) fANil)) (fun ρ => if isFn 14 "swaps_of" ρ = true then fCall m_swaps_of (fACons (fVar 13) fANil) ρ else .stuck)) [S0, .own none (rowT ns a s h), .fz (.lst (L.map tI)), u3, u4, u5, u6, z7, z8, z9, z10, z11, .un, z13, .fz (.fn fn)] = .ok (.fz (.tup [.str "stuffs", .int L.length])) [S0, .own none (rowT ns a s h), .fz (.lst (L.map tI)), u3, u4, u5, u6, z7, z8, z9, z10, z11, .un, .fz (.lst (L.map tI ++ [x])), .fz (.fn fn)] := by
    refine ref_err ?_
    unfold fAlt
    rw [k1]
    have g1 : fCall m_fewest_swaps (fACons (fVar 13) fANil) [S0, .own none (rowT ns a s h), .fz (.lst (L.map tI)), u3, u4, u5, u6, z7, z8, z9, z10, z11, .un, z13, .fz (.fn fn)] = .err ⟨"BadStuffs", [("value", .int L.length)]⟩ [S0, .own none (rowT ns a s h), .fz (.lst (L.map tI)), u3, u4, u5, u6, z7, z8, z9, z10, z11, .un, .fz (.lst (L.map tI ++ [x])), .fz (.fn fn)] := by
      rcases h13 with rfl | rfl <;> simp only [Ev.bind_ok, Ev.bind_err, Ev.map_ok, Ev.map_err, Ev.norm_fz, Ev.norm_own, Ev.norm_bor, Ev.norm_err, Ev.of_fz, Ev.of_own, Ev.ofB_some, Ev.o_ok, Ev.o_err, Ev.after_nx, Ev.after_rt, Ev.after_er, Ev.look_fz, Ev.look_bor, Ev.looks_nil, Ev.looks_cons, Ev.look2_eq, Ev.esc1_fz, Ev.esc1_bor, Ev.escs_nil, Ev.escs_cons, Ev.ap_var, Ev.ap_c, Ev.ap_nil, Ev.ap_cons, Ev.ap_star, Ev.ap_cb, Ev.ap_bin, Ev.ap_cmp, Ev.gcm_eq, Ev.ap_tru, Ev.tru_bl, Ev.ap_and, Ev.ap_or, Ev.ap_not, Ev.ap_andv, Ev.ap_orv, Ev.ap_notv, Ev.ap_if, Ev.ap_esc, Ev.ap_tup, Ev.ap_lst, Ev.lim_eq, Ev.ap_call, Ev.r_fz, Ev.r_own, Ev.r_err, Ev.ap_v, Ev.ap_chain, Ev.ap_neg, Ev.ap_items, Ev.items_tup, Ev.items_lst, Ev.ap_yes, Ev.ap_lc, Ev.ap_dc, Ev.ap_rev, Ev.ap_dk, Ev.ap_dn, Ev.ap_none, Ev.ap_some, Ev.ap_cut, Ev.ap_enum, Ev.ap_zip, Ev.ap_range1, Ev.ap_range2, Ev.ap_callM, Ev.ownT_eq, Ev.ap_gd, Ev.ap_mut, Ev.isL_lst, Ev.app_eq, Ev.ap_seq, Ev.ap_gif, Ev.ap_set, Ev.put_fz, Ev.put_own, Ev.put_bor, Ev.ap_ret, Ev.ap_drop, Ev.ap_gnil, Ev.ap_raise, Ev.ap_for, Ev.ap_aug, Ev.ap_asg, Ev.ap_store, Ev.ap_bname, Ev.ap_bnil, Ev.ap_bcons, Ev.ap_btup, Ev.end_rt, Ev.end_own, Ev.end_nx, Ev.end_er, Ev.end_bor, Ev.vl_fz, Ev.vl_own, List.getElem?_cons_zero, List.getElem?_cons_succ, List.set_cons_zero, List.set_cons_succ, b1]
    have g2 : fCall m_swaps_of (fACons (fVar 13) fANil) [S0, .own none (rowT ns a s h), .fz (.lst (L.map tI)), u3, u4, u5, u6, z7, z8, z9, z10, z11, .un, z13, .fz (.fn fn)] = .err ⟨"BadStuffs", [("value", .int L.length)]⟩ [S0, .own none (rowT ns a s h), .fz (.lst (L.map tI)), u3, u4, u5, u6, z7, z8, z9, z10, z11, .un, .fz (.lst (L.map tI ++ [x])), .fz (.fn fn)] := by
      rcases h13 with rfl | rfl <;> simp only [Ev.bind_ok, Ev.bind_err, Ev.map_ok, Ev.map_err, Ev.norm_fz, Ev.norm_own, Ev.norm_bor, Ev.norm_err, Ev.of_fz, Ev.of_own, Ev.ofB_some, Ev.o_ok, Ev.o_err, Ev.after_nx, Ev.after_rt, Ev.after_er, Ev.look_fz, Ev.look_bor, Ev.looks_nil, Ev.looks_cons, Ev.look2_eq, Ev.esc1_fz, Ev.esc1_bor, Ev.escs_nil, Ev.escs_cons, Ev.ap_var, Ev.ap_c, Ev.ap_nil, Ev.ap_cons, Ev.ap_star, Ev.ap_cb, Ev.ap_bin, Ev.ap_cmp, Ev.gcm_eq, Ev.ap_tru, Ev.tru_bl, Ev.ap_and, Ev.ap_or, Ev.ap_not, Ev.ap_andv, Ev.ap_orv, Ev.ap_notv, Ev.ap_if, Ev.ap_esc, Ev.ap_tup, Ev.ap_lst, Ev.lim_eq, Ev.ap_call, Ev.r_fz, Ev.r_own, Ev.r_err, Ev.ap_v, Ev.ap_chain, Ev.ap_neg, Ev.ap_items, Ev.items_tup, Ev.items_lst, Ev.ap_yes, Ev.ap_lc, Ev.ap_dc, Ev.ap_rev, Ev.ap_dk, Ev.ap_dn, Ev.ap_none, Ev.ap_some, Ev.ap_cut, Ev.ap_enum, Ev.ap_zip, Ev.ap_range1, Ev.ap_range2, Ev.ap_callM, Ev.ownT_eq, Ev.ap_gd, Ev.ap_mut, Ev.isL_lst, Ev.app_eq, Ev.ap_seq, Ev.ap_gif, Ev.ap_set, Ev.put_fz, Ev.put_own, Ev.put_bor, Ev.ap_ret, Ev.ap_drop, Ev.ap_gnil, Ev.ap_raise, Ev.ap_for, Ev.ap_aug, Ev.ap_asg, Ev.ap_store, Ev.ap_bname, Ev.ap_bnil, Ev.ap_bcons, Ev.ap_btup, Ev.end_rt, Ev.end_own, Ev.end_nx, Ev.end_er, Ev.end_bor, Ev.vl_fz, Ev.vl_own, List.getElem?_cons_zero, List.getElem?_cons_succ, List.set_cons_zero, List.set_cons_succ, b2]
    rcases hf with rfl | rfl
    · rw [decide_eq_true rfl, if_pos rfl, g1]
    · rw [d1, if_neg (by decide)]
      dsimp only
      rw [k2, decide_eq_true rfl, if_pos rfl, g2]
  have q2 : fRef "BadStuffs" "" "stuffs" (fAlt (isFn 14 "fewest_swaps") (fCall m_fewest_swaps (fACons (fCallM m__law_pick (fACons (fVar 1) (fACons fBig fANil))) fANil)) (fun ρ => if isFn 14 "swaps_of" ρ = true then fCall m_swaps_of (fACons (fCallM m__law_pick (fACons (fVar 1) (fACons fBig fANil))) fANil) ρ else .stuck)) [S0, .own none (rowT ns a s h), .fz (.lst (L.map tI)), u3, u4, u5, u6, z7, z8, z9, z10, z11, .un, .fz (.lst (L.map tI ++ [x])), .fz (.fn fn)] = .ok (.fz (.tup [.str "stuffs", .int (-1)])) [S0, .own none (rowT ns a' s' h'), .fz (.lst (L.map tI)), u3, u4, u5, u6, z7, z8, z9, z10, z11, .un, .fz (.lst (L.map tI ++ [x])), .fz (.fn fn)] := by
    refine ref_err ?_
    unfold fAlt
    rw [k3]
    unfold fBig
    rcases hf with rfl | rfl
    · rw [decide_eq_true rfl, if_pos rfl]
      rw [Ev.ap_call, Ev.ap_esc, Ev.ap_cons, e, Ev.norm_fz, Ev.bind_ok, Ev.ap_nil, Ev.bind_ok, Ev.bind_ok]
      simp only [Ev.escs_cons, Ev.escs_nil, Ev.esc1_fz, c1, Ev.r_err, List.set_cons_zero, List.set_cons_succ]
    · rw [d1, if_neg (by decide)]
      dsimp only
      rw [k4, decide_eq_true rfl, if_pos rfl]
      rw [Ev.ap_call, Ev.ap_esc, Ev.ap_cons, e, Ev.norm_fz, Ev.bind_ok, Ev.ap_nil, Ev.bind_ok, Ev.bind_ok]
      simp only [Ev.escs_cons, Ev.escs_nil, Ev.esc1_fz, c2, Ev.r_err, List.set_cons_zero, List.set_cons_succ]
  unfold fBig at q2
  unfold blaw4
  simp only [Ev.ap_seq, Ev.ap_gif, Ev.ap_cmp, q1, Ev.norm_fz, Ev.bind_ok, Ev.ap_tup, Ev.ap_esc, Ev.ap_cons, Ev.ap_nil, Ev.ap_c, Ev.ap_cb, Ev.ap_var, List.getElem?_cons_zero, List.getElem?_cons_succ, Ev.looks_cons, Ev.looks_nil, Ev.look_fz, Option.bind_some, l0, Ev.of_fz, Ev.escs_cons, Ev.escs_nil, Ev.esc1_fz, Ev.lim_eq, List.length_cons, List.length_nil, Nat.reduceAdd, Nat.reduceLeDiff, if_true, Ev.look2_eq, n1, Ev.ofB_some, Ev.o_ok, Bool.false_eq_true, if_false, Ev.ap_gnil, Ev.after_nx, q2, Ev.ap_neg, n2]
theorem st8_ok (ns : List Int) {a : Int} (ha : 0 ≤ a) (s h : Int) {L : List (List Int)} (hL : LayL L) {x : T} (hx : x ∈ badL) : ∃ ρ, slaw8 [S0, .own none (rowT ns a s h), .fz (.lst (L.map tI)), u3, u4, u5, u6, z7, z8, z9, z10, z11, .un, .own none (.lst (L.map tI ++ [x])), .un] = .nx ρ := by
  obtain ⟨a1, s1, h1, p1, e1⟩ := ask_turn (S0 := S0) (u3 := u3) (u4 := u4) (u5 := u5) (u6 := u6) (z7 := z7) (z8 := z8) (z9 := z9) (z10 := z10) (z11 := z11) ns ha s h hL hx (fn := "fewest_swaps") (.inl rfl) (.inl rfl)
  obtain ⟨a2, s2, h2, p2, e2⟩ := ask_turn (S0 := S0) (u3 := u3) (u4 := u4) (u5 := u5) (u6 := u6) (z7 := z7) (z8 := z8) (z9 := z9) (z10 := z10) (z11 := z11) ns p1 s1 h1 hL hx (fn := "swaps_of") (.inr rfl) (.inr rfl)
  refine ⟨[S0, .own none (rowT ns a2 s2 h2), .fz (.lst (L.map tI)), u3, u4, u5, u6, z7, z8, z9, z10, z11, .un, .fz (.lst (L.map tI ++ [x])), .fz (.fn "swaps_of")], ?_⟩
  have b1 : ∀ (t : T) (r2 y13 y14 : Sl), bName 14 t [S0, r2, .fz (.lst (L.map tI)), u3, u4, u5, u6, z7, z8, z9, z10, z11, .un, y13, y14] = some [S0, r2, .fz (.lst (L.map tI)), u3, u4, u5, u6, z7, z8, z9, z10, z11, .un, y13, .fz t] := fun _ _ _ _ => rfl
  have ef : slaw8 = gFor (fItems (fLst (fACons (fC (.fn "fewest_swaps")) (fACons (fC (.fn "swaps_of")) fANil)))) (bName 14) blaw4 := rfl
  have ei : ∀ ρ : FX.Env, fItems (fLst (fACons (fC (.fn "fewest_swaps")) (fACons (fC (.fn "swaps_of")) fANil))) ρ = .ok [.fn "fewest_swaps", .fn "swaps_of"] ρ := fun ρ => rfl
  rw [ef, Ev.ap_for, ei, Ev.o_ok]
  simp only [forL, b1, e1, e2]
theorem alt_cEq (n : Nat) : cEq (tC (2 * (n : Int), altA n)) (tC (2 * (n : Int), altA n)) = some true := by rw [cEq_tC]; simp
theorem alt_rep : ∀ n : Nat, (List.replicate n [tI [1, 2], tI [2, 1]]).flatten = (altA n).map tI
  | 0 => rfl
  | n + 1 => by simp [List.replicate_succ, altA, alt_rep n]
theorem call_1 {m : List T → Rp} {fa : FX.Env → R Vl} {ρ : FX.Env} {t v : T} (h : (fa ρ).norm = .ok (.fz t) ρ) (hm : m [t] = .ok (.fz v)) : fCall m (fACons fa fANil) ρ = .ok (.fz v) ρ := by
  rw [Ev.ap_call, Ev.ap_esc, Ev.ap_cons, h, Ev.bind_ok, Ev.ap_nil, Ev.bind_ok, Ev.bind_ok]
  simp only [Ev.escs_cons, Ev.escs_nil, Ev.esc1_fz, hm, Ev.r_fz]
theorem ret_and {f g : FX.Env → R Vl} {ρ : FX.Env} (h1 : f ρ = .ok (.fz (.bl true)) ρ) (h2 : g ρ = .ok (.fz (.bl true)) ρ) : gRet (fAndV f g) ρ = .rt (.fz (.bl true)) ρ := by
  rw [Ev.ap_ret, Ev.ap_andv, h1, Ev.norm_fz, Ev.bind_ok]
  dsimp only
  rw [h2, Ev.o_ok]
theorem seq_nx {g h : FX.Env → O} {ρ ρ' : FX.Env} (e : g ρ = .nx ρ') : gSeq g h ρ = h ρ' := by rw [Ev.ap_seq, e, Ev.after_nx]
theorem eq_bin {fa fb : FX.Env → R Vl} {ρ : FX.Env} {A B : T} {b : Bool} (h1 : fa ρ = .ok (.fz A) ρ) (h2 : fb ρ = .ok (.fz B) ρ) (h3 : cEq A B = some b) : fBin (gCm cEq) fa fb ρ = .ok (.fz (.bl b)) ρ := bin_fz h1 h2 (by rw [Ev.gcm_eq, h3]; rfl)
theorem mulL {f : FX.Env → R Vl} {ρ : FX.Env} {a : List T} {n : Nat} (h : f ρ = .ok (.own (.lst a)) ρ) (hn : n ≤ 1000) (ha : a.length ≤ 10) : (fBin aMul f (fC (.int (n : Int))) ρ).norm = .ok (.fz (.lst (List.replicate n a).flatten)) ρ := by
  have e : aMul (.lst a) (.int (n : Int)) = some (.own (.lst (List.replicate n a).flatten)) := by
    have h2 : a.length * n ≤ 10 * 1000 := Nat.mul_le_mul ha hn
    show (if 0 ≤ (n : Int) ∧ (n : Int) ≤ 100000 ∧ a.length * (n : Int).toNat ≤ sizeLine then some (Nv.own (.lst (List.replicate (n : Int).toNat a).flatten)) else none) = _
    rw [if_pos ⟨by omega, by omega, by rw [Int.toNat_natCast]; exact Nat.le_trans h2 (by decide)⟩, Int.toNat_natCast]
  rw [Ev.ap_bin, h, Ev.norm_own, Ev.bind_ok, Ev.ap_c, Ev.norm_fz, Ev.bind_ok, Ev.look2_eq, Ev.look_fz, Ev.look_fz]
  dsimp only
  rw [e]; rfl
theorem mulT {f : FX.Env → R Vl} {ρ : FX.Env} {a : List T} {n : Nat} (h : f ρ = .ok (.fz (.tup a)) ρ) (hn : n ≤ 1000) (h2 : 2 ≤ n) (h0 : a ≠ []) (ha : a.length ≤ 10) : (fBin aMul f (fC (.int (n : Int))) ρ) = .ok (.fz (.tup (List.replicate n a).flatten)) ρ := by
  have e : aMul (.tup a) (.int (n : Int)) = some (.fz (.tup (List.replicate n a).flatten)) := by
    show (if a ≠ [] ∧ 2 ≤ (n : Int) ∧ (n : Int) ≤ 1000 ∧ a.length ≤ 1000 then some (Nv.fz (.tup (List.replicate (n : Int).toNat a).flatten)) else none) = _
    rw [if_pos ⟨h0, by omega, by omega, by omega⟩, Int.toNat_natCast]
  exact bin_fz h rfl e
theorem tup_2 {f g : FX.Env → R Vl} {ρ : FX.Env} {A B : T} (h1 : f ρ = .ok (.fz A) ρ) (h2 : g ρ = .ok (.fz B) ρ) : fTup (fACons f (fACons g fANil)) ρ = .ok (.fz (.tup [A, B])) ρ := by
  rw [Ev.ap_tup, Ev.ap_esc, Ev.ap_cons, h1, Ev.norm_fz, Ev.bind_ok, Ev.ap_cons, h2, Ev.norm_fz, Ev.bind_ok, Ev.ap_nil]
  rfl
theorem st9_ok (ρ : FX.Env) : slaw9 ρ = .rt (.fz (.bl true)) ρ := by
  have a1 : fCall m_fewest_swaps (fACons (fLst fANil) fANil) ρ = .ok (.fz (tC (0, []))) ρ := call_1 (t := .lst []) rfl (fewest_ok (c := .lst []) (L := []) (.inl rfl) (fun l h => by cases h) (by decide))
  have a2 : fTup (fACons (fC (.int 0)) (fACons (fTup fANil) fANil)) ρ = .ok (.fz (tC (0, []))) ρ := rfl
  have c0 := cEq_tC (0, []) (0, [])
  rw [decide_eq_true rfl] at c0
  have m1 := mulL (f := fLst (fACons (fTup (fACons (fC (.int 1)) (fACons (fC (.int 2)) fANil))) (fACons (fTup (fACons (fC (.int 2)) (fACons (fC (.int 1)) fANil))) fANil))) (ρ := ρ) (a := [tI [1, 2], tI [2, 1]]) (n := 100) rfl (by decide) (by decide)
  have m2 := mulT (f := fTup (fACons (fTup (fACons (fC (.int 1)) (fACons (fC (.int 2)) fANil))) (fACons (fTup (fACons (fC (.int 2)) (fACons (fC (.int 1)) fANil))) fANil))) (ρ := ρ) (a := [tI [1, 2], tI [2, 1]]) (n := 100) rfl (by decide) (by decide) (by decide) (by decide)
  rw [alt_rep] at m1 m2
  have e := fewest_ok (c := .lst ((altA 100).map tI)) (L := altA 100) (.inl rfl) (alt_lay 100) (by decide)
  rw [alt_greedy, alt_totm] at e
  have c1 := alt_cEq 100
  have a3 := call_1 m1 e
  have a4 := tup_2 (f := fC (.int (2 * ((100 : Nat) : Int)))) (ρ := ρ) rfl m2
  have k1 := eq_bin a1 a2 c0
  have k2 := eq_bin a3 a4 c1
  exact ret_and k1 k2
theorem plain : ∀ ns : List Int, ns.length ≤ 63 → (∀ z ∈ ns, Builtin.Int.intBits z ≤ 1048576) → ∃ ρ, g_law (startL 15 ns) = .rt (.fz (.bl true)) ρ := by
  intro ns _ _
  have eg : g_law = gSeq slaw0 (gSeq slaw1 (gSeq slaw2 (gSeq slaw3 (gSeq slaw4 (gSeq slaw5 (gSeq slaw6 (gSeq slaw7 (gSeq slaw8 slaw9)))))))) := rfl
  have e0 : startL 15 ns = [.fz (.seq (ns.map .int)), .un, .un, .un, .un, .un, .un, .un, .un, .un, .un, .un, .un, .un, .un] := rfl
  have e1 : slaw0 [.fz (.seq (ns.map .int)), .un, .un, .un, .un, .un, .un, .un, .un, .un, .un, .un, .un, .un, .un] = .nx [.fz (.seq (ns.map .int)), .own none (rowT ns 0 124 0), .un, .un, .un, .un, .un, .un, .un, .un, .un, .un, .un, .un, .un] := rfl
  have e2 : ∀ r : Sl, slaw1 [.fz (.seq (ns.map .int)), r, .un, .un, .un, .un, .un, .un, .un, .un, .un, .un, .un, .un, .un] = .nx [.fz (.seq (ns.map .int)), r, .own none (.lst []), .un, .un, .un, .un, .un, .un, .un, .un, .un, .un, .un, .un] := fun r => rfl
  obtain ⟨a, s, h, L, u3, u4, u5, u6, h1, h2, h3, e3⟩ := st2_ok ns
  have hL : LayL L := ⟨h2, h3⟩
  obtain ⟨z8, z9, z10, z11, e7⟩ := st6_ok (S0 := .fz (.seq (ns.map .int))) (r := .own none (rowT ns a s h)) (u3 := u3) (u4 := u4) (u5 := u5) (u6 := u6) hL
  obtain ⟨a', s', h', x, p1, p2, e8⟩ := st7_ok (S0 := .fz (.seq (ns.map .int))) (u3 := u3) (u4 := u4) (u5 := u5) (u6 := u6) (z7 := .fz (tC (bstL L))) (z8 := z8) (z9 := z9) (z10 := z10) (z11 := z11) ns h1 s h hL
  obtain ⟨ρ, e9⟩ := st8_ok (S0 := .fz (.seq (ns.map .int))) (u3 := u3) (u4 := u4) (u5 := u5) (u6 := u6) (z7 := .fz (tC (bstL L))) (z8 := z8) (z9 := z9) (z10 := z10) (z11 := z11) ns p1 s' h' hL p2
  exact ⟨ρ, (congrFun eg _).trans ((congrArg _ e0).trans ((seq_nx e1).trans ((seq_nx (e2 _)).trans ((seq_nx e3).trans ((seq_nx (st3_ok hL)).trans ((seq_nx (st4_ok hL)).trans ((seq_nx (st5_ok hL)).trans ((seq_nx e7).trans ((seq_nx e8).trans ((seq_nx e9).trans (st9_ok ρ)))))))))))⟩
end K24
end

section
set_option Elab.async false
set_option linter.all false
set_option maxRecDepth 100000
set_option maxHeartbeats 4000000
namespace K24
open PySem PySem.Spec PyProof.Rows L2 FX
abbrev s_PE : Stmt := inClass (top 5) 0
theorem sc_PE : FnScope ["self", "value"] ["self", "value"] (defScope s_PE) := ⟨rfl, rfl, rfl, by decide +kernel, rfl, by decide +kernel, by decide +kernel⟩
theorem all_mk {l : PySem.W.OpenLaw} {w : World} {K : PySem.W.Frag} {h : Heap} {mg : Str → Option Value} {fa C fI Td c P_ : Addr} {kV doc pm ct oc kV1 doc1 pm1 cd1 ct1 oc1 oc2 : Value} {an od an1 od1 od2 : Option Addr} {osl osl1 osl2 : Array (Option Value)} {n2 : Nat} (X : K.In h) (G : h.Ns mainGlobals mg) (hfa : mg "law" = some (.ref fa))
    (h_is_integer : Fct K "is_integer" s_is_integer) (h_is_within : Fct K "is_within" s_is_within) (h_is_row : Fct K "is_row" s_is_row) (h_is_layer : Fct K "is_layer" s_is_layer) (h_check_layers : Fct K "check_layers" s_check_layers) (h_told_swaps : Fct K "told_swaps" s_told_swaps) (h_swaps_of : Fct K "swaps_of" s_swaps_of) (h_first_ones : Fct K "first_ones" s_first_ones) (h_rest_costs : Fct K "rest_costs" s_rest_costs) (h_least_order : Fct K "least_order" s_least_order) (h_fewest_swaps : Fct K "fewest_swaps" s_fewest_swaps) (h__law_taken : Fct K "_law_taken" s__law_taken) (h__law_pick : Fct K "_law_pick" s__law_pick) (h__law_alike : Fct K "_law_alike" s__law_alike) (h__law_orders : Fct K "_law_orders" s__law_orders) (h__law_count : Fct K "_law_count" s__law_count) (h__law_best : Fct K "_law_best" s__law_best) (h__law_refused : Fct K "_law_refused" s_ref) (b_all : PySem.W.nsIn K mainGlobals "all" = some none) (b_bool : PySem.W.nsIn K mainGlobals "bool" = some none) (b_dict : PySem.W.nsIn K mainGlobals "dict" = some none) (b_enumerate : PySem.W.nsIn K mainGlobals "enumerate" = some none) (b_int : PySem.W.nsIn K mainGlobals "int" = some none) (b_isinstance : PySem.W.nsIn K mainGlobals "isinstance" = some none) (b_len : PySem.W.nsIn K mainGlobals "len" = some none) (b_list : PySem.W.nsIn K mainGlobals "list" = some none) (b_min : PySem.W.nsIn K mainGlobals "min" = some none) (b_range : PySem.W.nsIn K mainGlobals "range" = some none) (b_sorted : PySem.W.nsIn K mainGlobals "sorted" = some none) (b_str : PySem.W.nsIn K mainGlobals "str" = some none) (b_tuple : PySem.W.nsIn K mainGlobals "tuple" = some none) (c_MOST_LAYERS : ∃ tk, PySem.W.nsIn K mainGlobals "MOST_LAYERS" = some (some (.int 200 tk))) (c_MOST_STUFF : ∃ tk, PySem.W.nsIn K mainGlobals "MOST_STUFF" = some (some (.int 5 tk)))
    (E : ExcF K "BadStuffs" C fI) (XF : XfC K C) (exm : PySem.W.exmOne K (.ref C) (.ref C) = some true) (lI : K.lookup fI = some ⟨oc1, od1, .func (PySem.W.fnOf "__init__" "PartError.__init__" (defArgs s_PE) (defBody s_PE) (defScope s_PE) (.ref Td) kV1 doc1 pm1 an1 cd1 ct1), osl1⟩) (cI : PySem.W.codeIn K cd1 "PartError.__init__" = true) (kI : PySem.W.keepIn K (.ref fI) = true) (lT : K.lookup Td = some ⟨oc2, od2, .seq #[.none] n2, osl2⟩)
    {fL : Addr} (aL : PySem.W.nsIn K mainGlobals "law" = some (some (.ref fL))) (lL : K.lookup fL = some ⟨oc, od, .func (PySem.W.fnOf "law" "law" (defArgs s_law) (defBody s_law) (defScope s_law) .none kV doc pm an (.ref c) ct), osl⟩) (cL : PySem.W.codeIn K (.ref c) "law" = true) (hdc : PySem.W.codeHdIn K c P_ = true) (noP : K.lookup P_ = none) (tab : h.get? P_ = some { cls := .none, data := .fields #[] }) :
    LamX.LawAtS l w K (L2.CX l.prog w) 18 63 "script" mg fa h := by
  have e := hfa.symm.trans (PySem.W.mg_of X G aL)
  cases e
  have F_is_integer := h_is_integer.fn0 (ps := ["thing"]) X G fun _ _ _ _ _ _ us hl => match us, hl with | [_], _ => rfl
  have F_is_within := h_is_within.fn0 (ps := ["thing", "least", "most"]) X G fun _ _ _ _ _ _ us hl => match us, hl with | [_, _, _], _ => rfl
  have F_is_row := h_is_row.fn0 (ps := ["thing"]) X G fun _ _ _ _ _ _ us hl => match us, hl with | [_], _ => rfl
  have F_is_layer := h_is_layer.fn0 (ps := ["thing"]) X G fun _ _ _ _ _ _ us hl => match us, hl with | [_], _ => rfl
  have F_check_layers := h_check_layers.fn0 (ps := ["layers"]) X G fun _ _ _ _ _ _ us hl => match us, hl with | [_], _ => rfl
  have F_told_swaps := h_told_swaps.fn0 (ps := ["orders"]) X G fun _ _ _ _ _ _ us hl => match us, hl with | [_], _ => rfl
  have F_swaps_of := h_swaps_of.fn0 (ps := ["orders"]) X G fun _ _ _ _ _ _ us hl => match us, hl with | [_], _ => rfl
  have F_first_ones := h_first_ones.fn0 (ps := ["layer", "last"]) X G fun _ _ _ _ _ _ us hl => match us, hl with | [_, _], _ => rfl
  have F_rest_costs := h_rest_costs.fn0 (ps := ["layers"]) X G fun _ _ _ _ _ _ us hl => match us, hl with | [_], _ => rfl
  have F_least_order := h_least_order.fn0 (ps := ["layer", "before", "later"]) X G fun _ _ _ _ _ _ us hl => match us, hl with | [_, _, _], _ => rfl
  have F_fewest_swaps := h_fewest_swaps.fn0 (ps := ["layers"]) X G fun _ _ _ _ _ _ us hl => match us, hl with | [_], _ => rfl
  have F__law_taken := h__law_taken.fn0 (ps := ["row", "many"]) X G fun _ _ _ _ _ _ us hl => match us, hl with | [_, _], _ => rfl
  have F__law_pick := h__law_pick.fn0 (ps := ["row", "some"]) X G fun _ _ _ _ _ _ us hl => match us, hl with | [_, _], _ => rfl
  have F__law_alike := h__law_alike.fn0 (ps := ["found", "due"]) X G fun _ _ _ _ _ _ us hl => match us, hl with | [_, _], _ => rfl
  have F__law_orders := h__law_orders.fn0 (ps := ["layer"]) X G fun _ _ _ _ _ _ us hl => match us, hl with | [_], _ => rfl
  have F__law_count := h__law_count.fn0 (ps := ["orders"]) X G fun _ _ _ _ _ _ us hl => match us, hl with | [_], _ => rfl
  have F__law_best := h__law_best.fn0 (ps := ["layers"]) X G fun _ _ _ _ _ _ us hl => match us, hl with | [_], _ => rfl
  have T : TX mg := { b_all := none_of X G b_all, b_bool := none_of X G b_bool, b_dict := none_of X G b_dict, b_enumerate := none_of X G b_enumerate, b_int := none_of X G b_int, b_isinstance := none_of X G b_isinstance, b_len := none_of X G b_len, b_list := none_of X G b_list, b_min := none_of X G b_min, b_range := none_of X G b_range, b_sorted := none_of X G b_sorted, b_str := none_of X G b_str, b_tuple := none_of X G b_tuple, c_MOST_LAYERS := int_of X G c_MOST_LAYERS, c_MOST_STUFF := int_of X G c_MOST_STUFF, f_fewest_swaps := fn_glob F_fewest_swaps, f_swaps_of := fn_glob F_swaps_of }
  have R := ref_of (a := "ask") h__law_refused X G (fun _ _ _ _ _ _ us hl => match us, hl with | [_], _ => rfl) E.m XF E.nv exm
  refine ⟨PySem.W.fnOf "law" "law" (defArgs s_law) (defBody s_law) (defScope s_law) .none kV doc pm an (.ref c) ct, [(c, P_)], spLaw K [(c, P_)], fun p hp => ?_, fun p hp => ?_, fun p hp => ?_, fun s u => .of_eq rfl, fun H a ns hl hb ht hs => ?_, fun base hk hn hT => ?_⟩
  · rw [List.mem_singleton.mp hp]; exact tab
  · rw [List.mem_singleton.mp hp]; exact noP
  · rw [List.mem_singleton.mp hp]; exact PySem.W.codeHd_of_K X hdc
  · exact ⟨a, ns, rfl, hs, hl, hb, ht, fun _ => rfl⟩
  · have X_BadStuffs : Exc1 l.prog w K mg base "BadStuffs" := exc1_of (st := s_PE) lI cI kI lT sc_PE rfl (fun T kV doc pm an cdv ct us its h1 h2 => match us, its, h1, h2 with | [_, _], [_], _, _ => ⟨_, rfl, rfl⟩) rfl rfl E.ox E.nv E.init E.tyI (PySem.W.mg_of X G E.m)
    have c_is_integer := ok_is_integer (P := l.prog) (w := w) (K := K) (base := base) T F_is_integer  
    have c_is_within := ok_is_within (P := l.prog) (w := w) (K := K) (base := base) T F_is_within c_is_integer 
    have c_is_row := ok_is_row (P := l.prog) (w := w) (K := K) (base := base) T F_is_row  
    have c_is_layer := ok_is_layer (P := l.prog) (w := w) (K := K) (base := base) T F_is_layer c_is_within 
    have c_check_layers := ok_check_layers (P := l.prog) (w := w) (K := K) (base := base) T F_check_layers c_is_row c_is_layer X_BadStuffs
    have c_told_swaps := ok_told_swaps (P := l.prog) (w := w) (K := K) (base := base) T F_told_swaps  
    have c_swaps_of := ok_swaps_of (P := l.prog) (w := w) (K := K) (base := base) T F_swaps_of c_check_layers c_told_swaps 
    have c_first_ones := ok_first_ones (P := l.prog) (w := w) (K := K) (base := base) T F_first_ones  
    have c_rest_costs := ok_rest_costs (P := l.prog) (w := w) (K := K) (base := base) T F_rest_costs c_first_ones 
    have c_least_order := ok_least_order (P := l.prog) (w := w) (K := K) (base := base) T F_least_order c_first_ones 
    have c_fewest_swaps := ok_fewest_swaps (P := l.prog) (w := w) (K := K) (base := base) T F_fewest_swaps c_check_layers c_rest_costs c_told_swaps c_least_order 
    have c__law_taken := ok__law_taken (P := l.prog) (w := w) (K := K) (base := base) T F__law_taken  
    have c__law_pick := ok__law_pick (P := l.prog) (w := w) (K := K) (base := base) T F__law_pick c__law_taken 
    have c__law_alike := ok__law_alike (P := l.prog) (w := w) (K := K) (base := base) T F__law_alike   10
    have c__law_orders := ok__law_orders (P := l.prog) (w := w) (K := K) (base := base) T F__law_orders  
    have c__law_count := ok__law_count (P := l.prog) (w := w) (K := K) (base := base) T F__law_count  
    have c__law_best := ok__law_best (P := l.prog) (w := w) (K := K) (base := base) T F__law_best c__law_orders 
    exact ok_law T c__law_best c__law_taken c__law_pick c__law_alike c__law_count c_fewest_swaps c_swaps_of c__law_orders R (hT (c, P_) List.mem_cons_self) lL cL plain
end K24
open PySem PySem.W PyProof.Rows in
set_option maxRecDepth 100000 in
set_option maxHeartbeats 0 in
theorem PySem.Challenge.cw_layerstand_k24_whole_swaps_holds : PySem.Challenge.rw_layerstand_k24_whole_swaps.Holds := by
  w_on; o_law; k_head; (case hw => w_witness2)
  k_fill
  refine LamX.walk_ofTs (l := PySem.Challenge.rw_layerstand_k24_whole_swaps) (n := 63) (k := 18) (x := "script") (CX := fun w => L2.CX PySem.Challenge.rw_layerstand_k24_whole_swaps.prog w) rfl (by decide) rfl ⟨rfl, by decide, by decide⟩ (fun w h Y => PySem.W.km_in_of Y) ?F (fun _ _ _ _ _ z => FX.cx_none z)
  case F =>
    intro w mg fa h Y KX G hmg
    refine' K24.all_mk KX G hmg ?h_is_integer ?h_is_within ?h_is_row ?h_is_layer ?h_check_layers ?h_told_swaps ?h_swaps_of ?h_first_ones ?h_rest_costs ?h_least_order ?h_fewest_swaps ?h__law_taken ?h__law_pick ?h__law_alike ?h__law_orders ?h__law_count ?h__law_best ?h__law_refused ?b_all ?b_bool ?b_dict ?b_enumerate ?b_int ?b_isinstance ?b_len ?b_list ?b_min ?b_range ?b_sorted ?b_str ?b_tuple ?c_MOST_LAYERS ?c_MOST_STUFF ?E ?XF ?exm ?lI ?cI ?kI ?lT ?aL ?lL ?cL ?hdc (FX.no_of Y ?noP) (PySem.W.km_tabs_of Y _ ?tab)
    (case h_is_integer => refine' FX.Fct.mk ?a ?l ?c ?k; (case a => k_is); (case l => k_is); (case c => k_is); (case k => k_is))
    (case h_is_within => refine' FX.Fct.mk ?a ?l ?c ?k; (case a => k_is); (case l => k_is); (case c => k_is); (case k => k_is))
    (case h_is_row => refine' FX.Fct.mk ?a ?l ?c ?k; (case a => k_is); (case l => k_is); (case c => k_is); (case k => k_is))
    (case h_is_layer => refine' FX.Fct.mk ?a ?l ?c ?k; (case a => k_is); (case l => k_is); (case c => k_is); (case k => k_is))
    (case h_check_layers => refine' FX.Fct.mk ?a ?l ?c ?k; (case a => k_is); (case l => k_is); (case c => k_is); (case k => k_is))
    (case h_told_swaps => refine' FX.Fct.mk ?a ?l ?c ?k; (case a => k_is); (case l => k_is); (case c => k_is); (case k => k_is))
    (case h_swaps_of => refine' FX.Fct.mk ?a ?l ?c ?k; (case a => k_is); (case l => k_is); (case c => k_is); (case k => k_is))
    (case h_first_ones => refine' FX.Fct.mk ?a ?l ?c ?k; (case a => k_is); (case l => k_is); (case c => k_is); (case k => k_is))
    (case h_rest_costs => refine' FX.Fct.mk ?a ?l ?c ?k; (case a => k_is); (case l => k_is); (case c => k_is); (case k => k_is))
    (case h_least_order => refine' FX.Fct.mk ?a ?l ?c ?k; (case a => k_is); (case l => k_is); (case c => k_is); (case k => k_is))
    (case h_fewest_swaps => refine' FX.Fct.mk ?a ?l ?c ?k; (case a => k_is); (case l => k_is); (case c => k_is); (case k => k_is))
    (case h__law_taken => refine' FX.Fct.mk ?a ?l ?c ?k; (case a => k_is); (case l => k_is); (case c => k_is); (case k => k_is))
    (case h__law_pick => refine' FX.Fct.mk ?a ?l ?c ?k; (case a => k_is); (case l => k_is); (case c => k_is); (case k => k_is))
    (case h__law_alike => refine' FX.Fct.mk ?a ?l ?c ?k; (case a => k_is); (case l => k_is); (case c => k_is); (case k => k_is))
    (case h__law_orders => refine' FX.Fct.mk ?a ?l ?c ?k; (case a => k_is); (case l => k_is); (case c => k_is); (case k => k_is))
    (case h__law_count => refine' FX.Fct.mk ?a ?l ?c ?k; (case a => k_is); (case l => k_is); (case c => k_is); (case k => k_is))
    (case h__law_best => refine' FX.Fct.mk ?a ?l ?c ?k; (case a => k_is); (case l => k_is); (case c => k_is); (case k => k_is))
    (case h__law_refused => refine' FX.Fct.mk ?a ?l ?c ?k; (case a => k_is); (case l => k_is); (case c => k_is); (case k => k_is))
    (case b_all => k_is)
    (case b_bool => k_is)
    (case b_dict => k_is)
    (case b_enumerate => k_is)
    (case b_int => k_is)
    (case b_isinstance => k_is)
    (case b_len => k_is)
    (case b_list => k_is)
    (case b_min => k_is)
    (case b_range => k_is)
    (case b_sorted => k_is)
    (case b_str => k_is)
    (case b_tuple => k_is)
    (case c_MOST_LAYERS => refine' FX.int_mk ?a; (case a => k_is))
    (case c_MOST_STUFF => refine' FX.int_mk ?a; (case a => k_is))
    (case E => refine' ⟨?m, ?ox, ?nv, ?init, ?tyI⟩; (case m => k_is); (case ox => refine' FX.oex_mk ?a ?b ?c ?d ?e ?f; (case a => k_is); (case b => rfl); (case c => k_is); (case d => k_is); (case e => k_is); (case f => k_is)); (case nv => k_is); (case init => k_is); (case tyI => k_is))
    (case lI => k_is)
    (case cI => k_is)
    (case kI => k_is)
    (case lT => k_is)
    (case XF => refine' ⟨?a, ?b, ?c, ?d⟩; (case a => k_is); (case b => k_is); (case c => k_is); (case d => k_is))
    (case exm => refine' FX.exm_mk ?a ?t ?l ?s; (case a => k_is); (case t => k_is); (case l => k_is); (case s => k_is))
    (case aL => k_is)
    (case lL => k_is)
    (case cL => k_is)
    (case hdc => refine' FX.chd_mk ?l ?v ?e; (case l => k_is); (case v => rfl); (case e => rfl))
    (case noP => decide)
    (case tab => decide)
end
